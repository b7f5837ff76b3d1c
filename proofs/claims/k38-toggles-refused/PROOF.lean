import PyProof.Rows.All
import Wide.All
import OpenK.AllK
import Wide.FinOn
import HandS.Dict
import HandS.DictTup
import KE.KDictKeyed
import KE.KeyNested
import HandS.ForMost
import HandS.Wide
import HandS.IsInst
import HandS.TupAny
import HandS.Deep
import HandS.SortInts
import HandS.SortRule
import HandS.Conv
import HandS.Zip
import HandS.Rev
import HandS.RevRange
import HandS.Strs
import HandS.Nested
import HandS.NestedK
import HandS.TupSets
import HandS.SetFor
import HandS.TupLe
import KE.GoesEnum
import HandS.SortKw
import KE.SortKeyHeap
import KE.KDictSum
import KE.KDictCopyH
import KE.KDictLaw
import HandS.EndTab
import KE.KNestM
import HandS.WordsExc
import HandS.ExcCtx
import HandS.ExcInit
import HandS.ExcOwn
import HandS.ExcIs
import HandS.ExcField
import KE.KExcIs
import HandS.Defaults
import HandS.Finally
import HandS.NamedTupSort
import HandS.RaiseMore
import KE.KDictDisplayH
import HandS.DictComp
import KE.GoesComp
import HandS.ReCall
import KE.KIndexOf
import HandS.Lambda
import HandS.HotCalls
import PyProof.SumAny
import HandS.FStr
import PyProof.CompFree
import HandS.ExcValue
import PySem.Challenge.RW_toggleclock_k38_toggles_refused
set_option Elab.async false
set_option linter.all false
set_option maxRecDepth 100000
set_option maxHeartbeats 8000000
namespace DL
open PySem PySem.Spec PyProof.Rows L2
mutual
def nInt : NestedKey → Bool
  | .num _ => true
  | .tup ks => nInts ks
  | _ => false
def nInts : List NestedKey → Bool
  | [] => true
  | k :: ks => nInt k && nInts ks
end
mutual
def nHash : NestedKey → Int
  | .num i => hashInt i
  | .tup ks => reduceHash (Builtin.Tuple.tupleHashOf (nHashes ks))
  | _ => 0
def nHashes : List NestedKey → List Int
  | [] => []
  | k :: ks => nHash k :: nHashes ks
end
mutual
theorem nHash_eq (w : World) : ∀ k : NestedKey, nInt k = true → k.hash w = nHash k
  | .num i, _ => rfl
  | .tup ks, h => by
    have h : nInts ks = true := by unfold nInt at h; exact h
    unfold NestedKey.hash nHash
    rw [nHashes_eq w ks h]
  | .none, h => by unfold nInt at h; cases h
  | .text x, h => by unfold nInt at h; cases h
theorem nHashes_eq (w : World) : ∀ ks : List NestedKey, nInts ks = true → NestedKey.hashes w ks = nHashes ks
  | [], _ => rfl
  | k :: ks, h => by
    unfold nInts at h
    rw [Bool.and_eq_true] at h
    unfold NestedKey.hashes nHashes
    rw [nHash_eq w k h.1, nHashes_eq w ks h.2]
end
mutual
inductive NKey (H : Hp) : NestedKey → V → Prop
  | num (i : Int) : NKey H (.num i) (.int i)
  | tup {a : Addr} {vs : List V} {ks : List NestedKey} : Rd H a (.tup vs) → NKeys H ks vs → NKey H (.tup ks) (.ref a)
inductive NKeys (H : Hp) : List NestedKey → List V → Prop
  | nil : NKeys H [] []
  | cons {k : NestedKey} {v : V} {ks : List NestedKey} {vs : List V} : NKey H k v → NKeys H ks vs → NKeys H (k :: ks) (v :: vs)
end
mutual
theorem NKey.int {H : Hp} : ∀ {k : NestedKey} {v : V}, NKey H k v → nInt k = true
  | _, _, .num i => rfl
  | _, _, .tup _ r => by unfold nInt; exact NKeys.ints r
theorem NKeys.ints {H : Hp} : ∀ {ks : List NestedKey} {vs : List V}, NKeys H ks vs → nInts ks = true
  | _, _, .nil => rfl
  | _, _, .cons h r => by
    unfold nInts
    rw [Bool.and_eq_true]
    exact ⟨NKey.int h, NKeys.ints r⟩
end
mutual
theorem NKey.move {H H' : Hp} (e : ∀ b vs, Rd H b (.tup vs) → Rd H' b (.tup vs)) : ∀ {k : NestedKey} {v : V}, NKey H k v → NKey H' k v
  | _, _, .num i => .num i
  | _, _, .tup h r => .tup (e _ _ h) (NKeys.move e r)
theorem NKeys.move {H H' : Hp} (e : ∀ b vs, Rd H b (.tup vs) → Rd H' b (.tup vs)) : ∀ {ks : List NestedKey} {vs : List V}, NKeys H ks vs → NKeys H' ks vs
  | _, _, .nil => .nil
  | _, _, .cons h r => .cons (NKey.move e h) (NKeys.move e r)
end
mutual
theorem NKey.is {P : Program} {w : World} {H : Hp} {h : Heap} (ok : L2.HOk P w H h) : ∀ {k : NestedKey} {v : V} {u : Value}, NKey H k v → L2.RelV v u → NestedIs h k u
  | _, _, _, .num i, r => by
    obtain ⟨t, rfl⟩ := (show ∃ t, _ = Value.int i t from r)
    exact .int _ _
  | _, _, _, @NKey.tup _ a vs ks hk rs, r => by
    cases (show _ = Value.ref a from r)
    obtain ⟨_, its, rv, o, h1, h2, n, h3⟩ := (show L2.ObjOk P w H h a (.tup vs) from hk.elim (fun hk => ok a _ hk) fun ⟨o, hk⟩ => (ok a _ hk).2)
    exact .tup h1 h2 h3 (NKeys.is ok rs (by simpa using rv))
theorem NKeys.is {P : Program} {w : World} {H : Hp} {h : Heap} (ok : L2.HOk P w H h) : ∀ {ks : List NestedKey} {vs : List V} {us : List Value}, NKeys H ks vs → Vals vs us → NestedAll h ks us
  | _, _, _, .nil, .nil => .nil
  | _, _, _, .cons h r, .cons a b => .cons (NKey.is ok h a) (NKeys.is ok r b)
end
abbrev NE := NestedKey × Addr × V
def nEntries (kas : List NE) (vals : List Value) : List DictEntry := (kas.zip vals).map fun p => ⟨nHash p.1.1, .ref p.1.2.1, p.2⟩
def NdAt (a : Addr) (kas : List NE) (h : Heap) : Prop := kas.length ≤ sizeLine ∧ (a == sysModules) = false ∧ (kas.map (·.1)).Nodup ∧ ∃ vals : List Value, Vals (kas.map (·.2.2)) vals ∧
  ∃ o es ep, h.get? a = some o ∧ o.ExactDict ∧ o.data = .dict es ep ∧ es.toList = nEntries kas vals
def NdO (a : Addr) (kas : List NE) : HO := .ext (NdAt a kas)
section
variable {X : Cx} {pins : List (Addr × Obj)} {σ : L2.St} {H : Hp} {s : Shared} {a b : Addr} {kas : List NE} {k : NestedKey} {v : V} {u : Value} {A : Around} {E : Value → Shared → Prop}
end
end DL

namespace DL
open PySem PySem.Spec PyProof.Rows L2

inductive D where
  | non | bl (b : Bool) | int (i : Int) | str (s : Str)
  | tup (ds : List D) | lst (ds : List D) | scr (ds : List D)
  | ins (c : Nat) (ds : List D)
  | dic (ks : List Key) (ds : List D) | dit (ks : List (List Key)) (ds : List D)
  | exn (c : Nat) (ds : List D)
deriving Inhabited

open Classical in
noncomputable def isMut : HO → Bool
  | .lst _ => true
  | .dK _ => true
  | .dT _ => true
  | .ins _ _ _ => true
  | .ext φ => @decide (∃ a kas, φ = NdAt a kas) (Classical.propDecidable _)
  | _ => false
def allO (a : Addr) (o : Obj) : Heap := { objs := Array.replicate (a + 1) o }
theorem allO_at {a : Addr} {o : Obj} (h : o.data ≠ .freed) : (allO a o).get? a = some o := by
  have e : (allO a o).objs[a]? = some o := by
    show (Array.replicate (a + 1) o)[a]? = some o
    rw [Array.getElem?_replicate, if_pos (by omega)]
  obtain ⟨c, d, da, sl⟩ := o
  unfold Heap.get?
  rw [e]
  cases da <;> first | rfl | exact absurd rfl h
theorem allO_is {a b : Addr} {o u : Obj} (h : (allO a o).get? b = some u) : u = o := by
  unfold Heap.get? at h
  cases e : (allO a o).objs[b]? with
  | none => rw [e] at h; cases h
  | some z =>
    have hz : z = o := by
      have e : (Array.replicate (a + 1) o)[b]? = some z := e
      rw [Array.getElem?_replicate] at e
      split at e
      · cases e; rfl
      · cases e
    rw [e] at h
    obtain ⟨c, d, da, sl⟩ := z
    cases da <;> first | (cases h; done) | (cases h; exact hz)
theorem isMut_not {φ : Heap → Prop} {a : Addr} {o : Obj} (h : φ (allO a o)) (hd : ∀ es ep, o.data ≠ .dict es ep) : isMut (.ext φ) = false := by
  refine @decide_eq_false _ (Classical.propDecidable _) ?_
  rintro ⟨b, kas, e⟩
  rw [e] at h
  obtain ⟨_, _, _, vals, _, u, es, ep, ho, _, hdd, _⟩ := h
  rw [allO_is ho] at hdd
  exact hd es ep hdd
structure CloK where
  st : Stmt
  name : Str
  qual : Str
  fr : List Str
structure Cus where
  r : Addr → Hp → (Addr → Prop) → V → D → List V → List D → Prop
  move : ∀ {z : Addr} {H H' : Hp} {o o' : Addr → Prop} {v : V} {d : D} {ws : List V} {ds : List D}, (∀ a, o a → H' a = H a) → (∀ a, o a → o' a) → r z H o v d ws ds → r z H' o' v d ws ds
def Cus.none : Cus := ⟨fun _ _ _ _ _ _ _ => False, fun _ _ h => h⟩
structure Tb where
  c : Nat → Addr × List Str
  t : List (Addr × Str) := []
  n : Nat → CloK := fun _ => ⟨.Pass ⟨0, 0, 0, 0⟩, "", "", []⟩
  z : Bool := false
  cu : Nat → Cus := fun _ => Cus.none
instance : CoeFun Tb (fun _ => Nat → Addr × List Str) := ⟨Tb.c⟩
def isT : HO → Bool
  | .tbl _ => true
  | _ => false
structure Sm (H H' : Hp) : Prop where
  get : ∀ b o, H b = some o → isT o = false → H' b = some o
theorem Sm.fn {H H' : Hp} (e : Sm H H') (b : Addr) (o : HO) (h : H b = some o) (ht : isT o = false := by first | rfl | assumption) : H' b = some o := e.get b o h ht
instance {H H' : Hp} : CoeFun (Sm H H') (fun _ => ∀ (b : Addr) (o : HO) (h : H b = some o) (ht : isT o = false := by first | rfl | assumption), H' b = some o) := ⟨fun e => @Sm.fn _ _ e⟩
theorem Sm.refl (H : Hp) : Sm H H := ⟨fun _ _ h _ => h⟩
theorem Sm.trans {H H1 H2 : Hp} (a : Sm H H1) (b : Sm H1 H2) : Sm H H2 := ⟨fun c o h n => b.get c o (a.get c o h n) n⟩
theorem _root_.L2.Same.sm {H H' : Hp} (e : Same H H') : Sm H H' := ⟨fun b o h _ => e b o h⟩
instance {H H' : Hp} : Coe (Same H H') (Sm H H') := ⟨fun e => e.sm⟩
def NoT (F : Hp) : Prop := ∀ b o, F b = some o → isT o = false
theorem Sm.ofF {F H H' : Hp} (n : NoT F) (a : Same F H) (b : Sm H H') : Same F H' := fun c o h => b.get c o (a c o h) (n c o h)
theorem isT_mut {o : HO} (h : isMut o = true) : isT o = false := by cases o <;> first | rfl | cases h
theorem Sm.seq {K : PySem.W.Frag} {H H' : Hp} {a : Addr} {xs : List V} (e : Sm H H') (h : SqL K H a xs) : SqL K H' a xs := by
  rcases h with (h | ⟨o, h⟩) | h
  · exact .inl (.inl (e _ _ h))
  · exact .inl (.inr ⟨o, e _ _ h⟩)
  · exact .inr h
def ntb (H : Hp) : Hp := fun b => match H b with
  | some (.tbl _) => none
  | o => o
theorem ntb_some {H : Hp} {b : Addr} {o : HO} (h : H b = some o) (n : isT o = false) : ntb H b = some o := by
  unfold ntb; rw [h]; cases o <;> first | rfl | cases n
theorem ntb_le {H : Hp} {b : Addr} {o : HO} (h : ntb H b = some o) : H b = some o := by
  unfold ntb at h
  split at h
  · cases h
  · exact h
theorem ntb_not {H : Hp} {b : Addr} {o : HO} (h : ntb H b = some o) : isT o = false := by
  unfold ntb at h
  split at h
  · cases h
  · rename_i x hx
    cases o <;> first | rfl | exact absurd h (hx _)

def SqS (K : PySem.W.Frag) (H : Hp) (a : Addr) (xs : List V) : Prop := (∃ o, H a = some (.frz o (.lst xs))) ∨
  ∃ (o : Obj) (its : Array Value) (n : Nat), K.lookup a = some o ∧ o.cls = .type "list" ∧ o.dict = none ∧ o.data = .seq its n ∧ its.size ≤ sizeLine ∧ Vals xs its.toList
theorem SqS.seq {K : PySem.W.Frag} {H : Hp} {a : Addr} {xs : List V} (h : SqS K H a xs) : SqL K H a xs := by
  rcases h with h | h
  · exact .inl (.inr h)
  · exact .inr h
def ExC (a C : Addr) (od : Option Addr) : HO := .ext fun h => ∃ (oe : Obj) (vs : Array Value), h.get? a = some oe ∧ oe.cls = .ref C ∧ oe.dict = od ∧ oe.data = .fields vs ∧ vs[2]? = some .none
def XdAt (F : Hp) (od : Option Addr) (fs : List (Str × V)) : Prop := (od = none ∧ fs = []) ∨ ∃ dx, od = some dx ∧ F dx = some (.xd fs)
def CellO (c : Addr) (v : V) : HO := .ext fun h => ∃ u, RelV v u ∧ h.IsCell c (some u)
theorem relV_ex : ∀ v : V, ∃ u, RelV v u := fun v => by cases v <;> first | exact ⟨_, rfl⟩ | exact ⟨_, 0, rfl⟩
theorem isMut_cell {c : Addr} {v : V} : isMut (CellO c v) = false := by
  obtain ⟨u, hu⟩ := relV_ex v
  exact isMut_not (a := c) (o := { cls := .none, data := .cell (some u) }) ⟨u, hu, _, allO_at (fun z => nomatch z), rfl⟩ fun _ _ z => nomatch z
theorem isMut_exc {a C : Addr} {od : Option Addr} : isMut (ExC a C od) = false := isMut_not (a := a) (o := { cls := .ref C, dict := od, data := .fields #[.none, .none, .none] }) ⟨_, _, allO_at (fun z => nomatch z), rfl, rfl, rfl, rfl⟩ fun _ _ z => nomatch z
theorem isMut_code {c : Addr} {q : Str} : isMut (LamX.CodeO c q) = false := isMut_not (a := c) (o := { cls := .none, data := .fields #[.none, .str q 0] }) ⟨_, _, 0, allO_at (fun z => nomatch z), rfl, rfl⟩ fun _ _ z => nomatch z
theorem isMut_fn {f : Addr} {F : NdefX.NF} : isMut (NdefX.FnO f F) = false := isMut_not (a := f) (o := ⟨.type "function", none, .func (F.fd .none .none .none), #[]⟩) ⟨none, #[], .none, .none, .none, allO_at (fun z => nomatch z)⟩ fun _ _ z => nomatch z
def ClB (T : Tb) (F : Hp) (f : Addr) (k : Nat) (ws : List V) : Prop := ∃ (cl : List (Str × Addr)) (c' : Addr), F f = some (NdefX.FnO f (NdefX.NF.of (T.n k).st (T.n k).name (T.n k).qual cl c')) ∧ F c' = some (LamX.CodeO c' (T.n k).qual) ∧ ws.length = (T.n k).fr.length ∧
  (∀ x y c, cl.lookup x = some c → cl.lookup y = some c → x = y) ∧ (∀ y c, cl.lookup y = some c → ∃ v, F c = some (CellO c v)) ∧ ∀ (i : Nat) (y : Str), (T.n k).fr[i]? = some y → ∃ c v, cl.lookup y = some c ∧ ws[i]? = some v ∧ F c = some (CellO c v)
theorem ClB.move {T : Tb} {F F' : Hp} {f : Addr} {k : Nat} {ws : List V} (e : ∀ b o, F b = some o → isMut o = false → F' b = some o) (h : ClB T F f k ws) : ClB T F' f k ws := by
  obtain ⟨cl, c', h1, h2, h3, h4, h5, h6⟩ := h
  refine ⟨cl, c', e _ _ h1 isMut_fn, e _ _ h2 isMut_code, h3, h4, fun y c z => ?_, fun i y z => ?_⟩
  · obtain ⟨v, q⟩ := h5 y c z
    exact ⟨v, e _ _ q isMut_cell⟩
  · obtain ⟨c, v, q1, q2, q3⟩ := h6 i y z
    exact ⟨c, v, q1, q2, e _ _ q3 isMut_cell⟩
def TupAt (T : Tb) (F : Hp) (a : Addr) (vs : List V) : Prop := F a = some (.tup vs) ∨ (T.z = true ∧ ∃ o, F a = some (.frz o (.tup vs)))
theorem TupAt.rd {T : Tb} {F : Hp} {a : Addr} {vs : List V} (h : TupAt T F a vs) : Rd F a (.tup vs) := by
  rcases h with h | ⟨_, o, h⟩
  · exact .inl h
  · exact .inr ⟨o, h⟩
theorem TupAt.sq {K : PySem.W.Frag} {T : Tb} {F : Hp} {a : Addr} {vs : List V} (h : TupAt T F a vs) : SqT K F a vs := .inl h.rd
theorem TupAt.by {T : Tb} {F F' : Hp} {a : Addr} {vs : List V} (e : ∀ o, F a = some o → isMut o = false → F' a = some o) (h : TupAt T F a vs) : TupAt T F' a vs := by
  rcases h with h | ⟨z, o, h⟩
  · exact .inl (e _ h rfl)
  · exact .inr ⟨z, o, e _ h rfl⟩
theorem TupAt.sm {T : Tb} {F F' : Hp} {a : Addr} {vs : List V} (e : Sm F F') (h : TupAt T F a vs) : TupAt T F' a vs := by
  rcases h with h | ⟨z, o, h⟩
  · exact .inl (e _ _ h)
  · exact .inr ⟨z, o, e _ _ h⟩
def CloB (T : Tb) (F : Hp) (f : Addr) (k : Nat) (ws : List V) : Prop := (k = 1000 ∧ T.z = true ∧ ∃ o, F f = some (.frz o (.tup ws)) ∧ o.dict = none) ∨ (k ≠ 1000 ∧ ClB T F f k ws)
theorem CloB.move {T : Tb} {F F' : Hp} {f : Addr} {k : Nat} {ws : List V} (e : ∀ b o, F b = some o → isMut o = false → F' b = some o) (h : CloB T F f k ws) : CloB T F' f k ws := by
  rcases h with ⟨h, hz, o, h1, h2⟩ | ⟨h, h1⟩
  · exact .inl ⟨h, hz, o, e _ _ h1 rfl, h2⟩
  · exact .inr ⟨h, h1.move e⟩
theorem CloB.old {T : Tb} {F : Hp} {f : Addr} {k : Nat} {ws : List V} (h : CloB T F f k ws) (hk : k ≠ 1000) : ClB T F f k ws := h.elim (fun z => absurd z.1 hk) fun z => z.2
theorem CloB.tz {T : Tb} {F : Hp} {f : Addr} {ws : List V} (h : CloB T F f 1000 ws) : T.z = true ∧ ∃ o, F f = some (.frz o (.tup ws)) ∧ o.dict = none := h.elim (fun z => z.2) fun z => absurd rfl z.1
mutual
inductive RepG (K : PySem.W.Frag) (T : Tb) (N : Addr → Prop) (F : Hp) : V → D → Prop
  | non : RepG K T N F .non .non
  | bl (b : Bool) : RepG K T N F (.bl b) (.bl b)
  | int (i : Int) : RepG K T N F (.int i) (.int i)
  | str (s : Str) : RepG K T N F (.str s) (.str s)
  | tup {a : Addr} {vs : List V} {ds : List D} : TupAt T F a vs → RepsG K T N F vs ds → RepG K T N F (.ref a) (.tup ds)
  | lst {a : Addr} {vs : List V} {ds : List D} : F a = some (.lst vs) → N a → RepsG K T N F vs ds → RepG K T N F (.ref a) (.lst ds)
  | scr {a : Addr} {vs : List V} {ds : List D} : SqS K F a vs → RepsG K T N F vs ds → RepG K T N F (.ref a) (.scr ds)
  | ins {a dx : Addr} {c : Nat} {fs : List (Str × V)} {ds : List D} : F a = some (.ins (T c).1 dx fs) → N a → fs.map (·.1) = (T c).2 → RepsG K T N F (fs.map (·.2)) ds → RepG K T N F (.ref a) (.ins c ds)
  | dic {a : Addr} {kvs : List (Key × V)} {ds : List D} : F a = some (.dK kvs) → N a → RepsG K T N F (kvs.map (·.2)) ds → RepG K T N F (.ref a) (.dic (kvs.map (·.1)) ds)
  | dit {a : Addr} {kvs : List (List Key × V)} {ds : List D} : F a = some (.dT kvs) → N a → RepsG K T N F (kvs.map (·.2)) ds → RepG K T N F (.ref a) (.dit (kvs.map (·.1)) ds)
  | exn {a : Addr} {c : Nat} {od : Option Addr} {fs : List (Str × V)} {ds : List D} : F a = some (ExC a (T c).1 od) → XdAt F od fs → fs.map (·.1) = (T c).2 → RepsG K T N F (fs.map (·.2)) ds → RepG K T N F (.ref a) (.exn c ds)
inductive RepsG (K : PySem.W.Frag) (T : Tb) (N : Addr → Prop) (F : Hp) : List V → List D → Prop
  | nil : RepsG K T N F [] []
  | cons {v : V} {vs : List V} {d : D} {ds : List D} : RepG K T N F v d → RepsG K T N F vs ds → RepsG K T N F (v :: vs) (d :: ds)
end

section
variable {K : PySem.W.Frag} {T : Tb} {N N' : Addr → Prop} {F F' : Hp}
theorem sm_rd {a : Addr} {u : HO} (e : Sm F F') (h : Rd F a u) (n : isT u = false := by rfl) : Rd F' a u := by
  rcases h with h | ⟨o, h⟩
  · exact .inl (e _ _ h)
  · exact .inr ⟨o, e _ _ h⟩
theorem sm_sqT {a : Addr} {xs : List V} (e : Sm F F') (h : SqT K F a xs) : SqT K F' a xs := by
  rcases h with h | h
  · exact .inl (sm_rd e h)
  · exact .inr h
theorem same_sqT {a : Addr} {xs : List V} (e : Same F F') (h : SqT K F a xs) : SqT K F' a xs := sm_sqT e.sm h
theorem sm_sqS {a : Addr} {xs : List V} (e : Sm F F') (h : SqS K F a xs) : SqS K F' a xs := by
  rcases h with ⟨o, h⟩ | h
  · exact .inl ⟨o, e _ _ h⟩
  · exact .inr h
theorem same_sqS {a : Addr} {xs : List V} (e : Same F F') (h : SqS K F a xs) : SqS K F' a xs := sm_sqS e.sm h
theorem XdAt.monoS {od : Option Addr} {fs : List (Str × V)} (e : Sm F F') (h : XdAt F od fs) : XdAt F' od fs := by
  rcases h with h | ⟨dx, h1, h2⟩
  · exact .inl h
  · exact .inr ⟨dx, h1, e _ _ h2⟩
mutual
theorem RepG.monoS (e : Sm F F') (hn : ∀ a, N a → N' a) : ∀ {v : V} {d : D}, RepG K T N F v d → RepG K T N' F' v d
  | _, _, .non => .non
  | _, _, .bl b => .bl b
  | _, _, .int b => .int b
  | _, _, .str b => .str b
  | _, _, .tup h r => .tup (h.sm e) (RepsG.monoS e hn r)
  | _, _, .lst h n r => .lst (e _ _ h) (hn _ n) (RepsG.monoS e hn r)
  | _, _, .scr h r => .scr (sm_sqS e h) (RepsG.monoS e hn r)
  | _, _, .ins h n q r => .ins (e _ _ h) (hn _ n) q (RepsG.monoS e hn r)
  | _, _, .dic h n r => .dic (e _ _ h) (hn _ n) (RepsG.monoS e hn r)
  | _, _, .dit h n r => .dit (e _ _ h) (hn _ n) (RepsG.monoS e hn r)
  | _, _, .exn h x q r => .exn (e _ _ h) (x.monoS e) q (RepsG.monoS e hn r)
theorem RepsG.monoS (e : Sm F F') (hn : ∀ a, N a → N' a) : ∀ {vs : List V} {ds : List D}, RepsG K T N F vs ds → RepsG K T N' F' vs ds
  | _, _, .nil => .nil
  | _, _, .cons h r => .cons (RepG.monoS e hn h) (RepsG.monoS e hn r)
end
theorem RepG.mono (e : Same F F') (hn : ∀ a, N a → N' a) {v : V} {d : D} (h : RepG K T N F v d) : RepG K T N' F' v d := h.monoS e.sm hn
theorem RepsG.mono (e : Same F F') (hn : ∀ a, N a → N' a) {vs : List V} {ds : List D} (h : RepsG K T N F vs ds) : RepsG K T N' F' vs ds := h.monoS e.sm hn
noncomputable def cut (F : Hp) (S : Addr → Prop) : Hp := fun b => open Classical in if S b then none else F b
theorem cut_in {S : Addr → Prop} {b : Addr} (h : S b) : cut F S b = none := by unfold cut; rw [if_pos h]
theorem cut_out {S : Addr → Prop} {b : Addr} (h : ¬ S b) : cut F S b = F b := by unfold cut; rw [if_neg h]
section
variable {S : Addr → Prop}
theorem cut_sqS (hT : ∀ a o, F a = some o → isMut o = false → ¬ S a) {a : Addr} {xs : List V} (h : SqS K F a xs) : SqS K (cut F S) a xs := by
  rcases h with ⟨o, h⟩ | h
  · exact .inl ⟨o, by rw [cut_out (hT a _ h rfl)]; exact h⟩
  · exact .inr h
theorem XdAt.cut (hT : ∀ a o, F a = some o → isMut o = false → ¬ S a) {od : Option Addr} {fs : List (Str × V)} (h : XdAt F od fs) : XdAt (DL.cut F S) od fs := by
  rcases h with h | ⟨dx, h1, h2⟩
  · exact .inl h
  · exact .inr ⟨dx, h1, by rw [cut_out (hT _ _ h2 rfl)]; exact h2⟩
mutual
theorem RepG.cut (hn : ∀ a, N a → ¬ S a) (hT : ∀ a o, F a = some o → isMut o = false → ¬ S a) : ∀ {v : V} {d : D}, RepG K T N F v d → RepG K T N (cut F S) v d
  | _, _, .non => .non
  | _, _, .bl b => .bl b
  | _, _, .int b => .int b
  | _, _, .str b => .str b
  | _, _, .tup h r => .tup (h.by fun o e n => by rw [cut_out (hT _ _ e n)]; exact e) (RepsG.cut hn hT r)
  | _, _, .lst h n r => .lst (by rw [cut_out (hn _ n)]; exact h) n (RepsG.cut hn hT r)
  | _, _, .scr h r => .scr (cut_sqS hT h) (RepsG.cut hn hT r)
  | _, _, .ins h n q r => .ins (by rw [cut_out (hn _ n)]; exact h) n q (RepsG.cut hn hT r)
  | _, _, .dic h n r => .dic (by rw [cut_out (hn _ n)]; exact h) n (RepsG.cut hn hT r)
  | _, _, .dit h n r => .dit (by rw [cut_out (hn _ n)]; exact h) n (RepsG.cut hn hT r)
  | _, _, .exn h x q r => .exn (by rw [cut_out (hT _ _ h isMut_exc)]; exact h) (x.cut hT) q (RepsG.cut hn hT r)
theorem RepsG.cut (hn : ∀ a, N a → ¬ S a) (hT : ∀ a o, F a = some o → isMut o = false → ¬ S a) : ∀ {vs : List V} {ds : List D}, RepsG K T N F vs ds → RepsG K T N (cut F S) vs ds
  | _, _, .nil => .nil
  | _, _, .cons h r => .cons (RepG.cut hn hT h) (RepsG.cut hn hT r)
end
end
theorem RepsG.length : ∀ {vs : List V} {ds : List D}, RepsG K T N F vs ds → vs.length = ds.length
  | _, _, .nil => rfl
  | _, _, .cons _ r => by rw [List.length_cons, List.length_cons, r.length]
theorem RepsG.get : ∀ {vs : List V} {ds : List D} {i : Nat} {d : D}, RepsG K T N F vs ds → ds[i]? = some d → ∃ v, vs[i]? = some v ∧ RepG K T N F v d
  | _, _, _, _, .nil, e => by simp at e
  | _, _, 0, _, .cons h _, e => by simp at e; subst e; exact ⟨_, rfl, h⟩
  | _, _, i + 1, _, .cons _ r, e => by
    obtain ⟨v, h1, h2⟩ := RepsG.get (i := i) r (by simpa using e)
    exact ⟨v, by simpa using h1, h2⟩
theorem RepsG.append : ∀ {vs ws : List V} {ds es : List D}, RepsG K T N F vs ds → RepsG K T N F ws es → RepsG K T N F (vs ++ ws) (ds ++ es)
  | _, _, _, _, .nil, s => s
  | _, _, _, _, .cons h r, s => .cons h (r.append s)
theorem RepsG.set {v : V} {d : D} (h : RepG K T N F v d) : ∀ {vs : List V} {ds : List D} (i : Nat), RepsG K T N F vs ds → RepsG K T N F (vs.set i v) (ds.set i d)
  | _, _, _, .nil => .nil
  | _, _, 0, .cons _ r => .cons h r
  | _, _, i + 1, .cons q r => .cons q (RepsG.set h i r)
theorem RepsG.take : ∀ {vs : List V} {ds : List D} (n : Nat), RepsG K T N F vs ds → RepsG K T N F (vs.take n) (ds.take n)
  | _, _, 0, _ => .nil
  | _, _, _ + 1, .nil => .nil
  | _, _, n + 1, .cons h r => .cons h (RepsG.take n r)
theorem RepsG.drop : ∀ {vs : List V} {ds : List D} (n : Nat), RepsG K T N F vs ds → RepsG K T N F (vs.drop n) (ds.drop n)
  | _, _, 0, r => r
  | _, _, _ + 1, .nil => .nil
  | _, _, n + 1, .cons _ r => RepsG.drop n r
theorem RepsG.reverse {vs : List V} {ds : List D} (r : RepsG K T N F vs ds) : RepsG K T N F vs.reverse ds.reverse := by
  induction vs generalizing ds with
  | nil => cases r; exact .nil
  | cons v vs ih =>
    cases r with
    | cons h r =>
      rw [List.reverse_cons, List.reverse_cons]
      exact (ih r).append (.cons h .nil)
end

inductive Q3 where | A | L | U
deriving DecidableEq
def Q3.le : Q3 → Q3 → Bool
  | .A, _ => true
  | .L, .A => false
  | .L, _ => true
  | .U, .U => true
  | .U, _ => false
def NK (H0 : Hp) : Q3 → Addr → Prop
  | .A => fun _ => False
  | .L => fun a => H0 a = none
  | .U => fun _ => True
theorem NK.le {H0 : Hp} : ∀ {p q : Q3}, p.le q = true → ∀ a, NK H0 p a → NK H0 q a
  | .A, _, _, _, h => h.elim
  | .L, .L, _, _, h => h
  | .L, .U, _, _, _ => trivial
  | .U, .U, _, _, h => h
def nKD : Nat → D → Option NestedKey
  | _, .int i => some (.num i)
  | n + 1, .tup ds => (ds.mapM (nKD n)).map .tup
  | _, _ => none
inductive Knd where
  | q (q : Q3) | B | bl (q : Q3) | fl (q : Q3) | ol (q : Q3)
deriving DecidableEq
inductive FM where
  | fz (q : Q3) | ow (q : Q3)
deriving DecidableEq
inductive Shp where
  | tbl (q : Q3) | ins (c : Nat) (ms : List FM) | dic (q : Q3) | dit (q : Q3) | ldk (q : Q3) | ldt (q : Q3) | lkl (q : Q3) | odn (q : Q3) | prm (q : Q3) | clo (k : Nat) | din (q : Q3) | ldn (q : Q3) | cus (q : Q3) (k : Nat)
deriving DecidableEq
inductive Mode where
  | no | fz (q : Q3) | fl (q : Q3) | ow (q : Q3) | os (S : Shp)
deriving DecidableEq
abbrev Own := Nat → Addr → Prop
structure HZ where
  h : Hp
  z : Addr
  l : List V
instance : CoeOut HZ Hp := ⟨HZ.h⟩

section
variable (K : PySem.W.Frag) (T : Tb) (H0 : Hp)
abbrev Rq (q : Q3) (F : Hp) : V → D → Prop := RepG K T (NK H0 q) F
abbrev Rqs (q : Q3) (F : Hp) : List V → List D → Prop := RepsG K T (NK H0 q) F
abbrev RU (F : Hp) : V → D → Prop := RepG K T (fun _ => True) F
abbrev RUs (F : Hp) : List V → List D → Prop := RepsG K T (fun _ => True) F
def Rp (F H : Hp) (O : Own) : Knd → V → D → Prop
  | .q k, v, d => Rq K T H0 k F v d
  | .B, v, d => RU K T H v d
  | .bl k, v, d => ∃ a vs ds, v = .ref a ∧ d = .lst ds ∧ H a = some (.lst vs) ∧ Rqs K T H0 k F vs ds
  | .fl k, v, d => ∃ a vs ds, v = .ref a ∧ d = .lst ds ∧ F a = some (.lst vs) ∧ Rqs K T H0 k F vs ds
  | .ol k, v, d => ∃ a vs ds, v = .ref a ∧ d = .lst ds ∧ H a = some (.lst vs) ∧ F a = none ∧ (∀ i, ¬ O i a) ∧ Rqs K T H0 k F vs ds
def NdP (q : Q3) (F : Hp) (x : NE) (d : D) : Prop := ∃ kd vd, d = .tup [kd, vd] ∧ nKD 8 kd = some x.1 ∧ Rq K T H0 .A F (.ref x.2.1) kd ∧ Rq K T H0 q F x.2.2 vd
def RowsR (q : Q3) (F H : Hp) (o : Addr → Prop) : List Addr → List (List D) → Prop := Paired fun b ds => o b ∧ ∃ vs, H b = some (.lst vs) ∧ Rqs K T H0 q F vs ds
def FieldR (F H : Hp) (o : Addr → Prop) (v : V) (d : D) : FM → Prop
  | .fz q => Rq K T H0 q F v d
  | .ow q => ∃ b vs es, v = .ref b ∧ d = .lst es ∧ H b = some (.lst vs) ∧ o b ∧ Rqs K T H0 q F vs es
def FieldsR (F H : Hp) (o : Addr → Prop) : List FM → List V → List D → Prop
  | [], [], [] => True
  | m :: ms, v :: vs, d :: ds => FieldR K T H0 F H o v d m ∧ FieldsR F H o ms vs ds
  | _, _, _ => False
end
section
variable (K : PySem.W.Frag) (T : Tb) (H0 : HZ)
def OwnS (F H : Hp) (o : Addr → Prop) (v : V) (d : D) : Shp → Prop
  | .tbl q => ∃ a rows rds, v = .ref a ∧ d = .lst (rds.map .lst) ∧ H a = some (.lst (rows.map .ref)) ∧ o a ∧ rows.Nodup ∧ a ∉ rows ∧ RowsR K T H0 q F H o rows rds
  | .ins c ms => ∃ a dx fs ds, v = .ref a ∧ d = .ins c ds ∧ H a = some (.ins (T c).1 dx fs) ∧ o a ∧ a = H0.z ∧ fs.map (·.1) = (T c).2.take ds.length ∧ FieldsR K T H0 F H o ms (fs.map (·.2)) ds
  | .dic q => ∃ a kvs ds, v = .ref a ∧ d = .dic (kvs.map (·.1)) ds ∧ H a = some (.dK kvs) ∧ o a ∧ Rqs K T H0 q F (kvs.map (·.2)) ds
  | .dit q => ∃ a kvs ds, v = .ref a ∧ d = .dit (kvs.map (·.1)) ds ∧ H a = some (.dT kvs) ∧ o a ∧ Rqs K T H0 q F (kvs.map (·.2)) ds
  | .ldk q => ∃ od kvs ds, v = .ref H0.z ∧ d = .dic (kvs.map (·.1)) ds ∧ F H0.z = some (.frz od (.dK kvs)) ∧ Rqs K T H0 q F (kvs.map (·.2)) ds
  | .ldt q => ∃ od kvs ds, v = .ref H0.z ∧ d = .dit (kvs.map (·.1)) ds ∧ F H0.z = some (.frz od (.dT kvs)) ∧ Rqs K T H0 q F (kvs.map (·.2)) ds
  | .lkl q => ∃ ds, v = .ref H0.z ∧ d = .lst ds ∧ H H0.z = some (.lst H0.l) ∧ o H0.z ∧ Rqs K T H0 q F H0.l ds
  | .odn q => (v = .non ∧ d = .non) ∨ ∃ a kvs ds, v = .ref a ∧ d = .dic (kvs.map (·.1)) ds ∧ H a = some (.dK kvs) ∧ o a ∧ Rqs K T H0 q F (kvs.map (·.2)) ds
  | .prm q => ∃ vs ds, v = .ref H0.z ∧ d = .lst ds ∧ F H0.z = some (.lst vs) ∧ Rqs K T H0 q F vs ds
  | .clo k => ∃ f ws ds, v = .ref f ∧ d = .tup ds ∧ CloB T F f k ws ∧ RUs K T F ws ds
  | .cus q k => ∃ ws ds, (T.cu k).r H0.z H o v d ws ds ∧ Rqs K T H0 q F ws ds
  | .din q => ∃ a kas ps, v = .ref a ∧ d = .lst ps ∧ H a = some (NdO a kas) ∧ o a ∧ Paired (NdP K T H0 q F) kas ps
  | .ldn q => ∃ od kas ps, v = .ref H0.z ∧ d = .lst ps ∧ F H0.z = some (.frz od (NdO H0.z kas)) ∧ Paired (NdP K T H0 q F) kas ps
def SlotR (F H : Hp) (o : Addr → Prop) (sv : Option (Option V)) (dv : Option D) : Mode → Prop
  | .no => True
  | .fz k => ∃ v d, sv = some (some v) ∧ dv = some d ∧ Rq K T H0 k F v d
  | .fl k => ∃ a vs ds, sv = some (some (.ref a)) ∧ dv = some (.lst ds) ∧ F a = some (.lst vs) ∧ Rqs K T H0 k F vs ds
  | .ow k => ∃ a vs ds, sv = some (some (.ref a)) ∧ dv = some (.lst ds) ∧ H a = some (.lst vs) ∧ o a ∧ Rqs K T H0 k F vs ds
  | .os S => ∃ v d, sv = some (some v) ∧ dv = some d ∧ OwnS K T H0 F H o v d S
structure Rl (Γ : List Mode) (F : Hp) (O : Own) (σ : L2.St) (H : Hp) (ρ : List D) : Prop where
  h0 : Same H0 F
  fh : Same F H
  on : ∀ i a, O i a → F a = none ∧ ∃ o, H a = some o ∧ isMut o = true
  od : ∀ i j a, O i a → O j a → i = j
  ls : σ.length = Γ.length
  lr : ρ.length = Γ.length
  sl : ∀ i m, Γ[i]? = some m → SlotR K T H0 F H (O i) σ[i]? ρ[i]? m
  nF : NoT F
  tb : LamX.Tabs T.t H
end

section
variable {K : PySem.W.Frag} {T : Tb} {H0 : HZ} {F F' H H' : Hp} {O O' : Own} {σ : L2.St} {ρ : List D} {Γ Γ' : List Mode} {q : Q3}
theorem Rl.U_of (R : Rl K T H0 Γ F O σ H ρ) {v : V} {d : D} (h : Rq K T H0 q F v d) : RU K T H v d := h.mono R.fh fun _ _ => trivial
theorem Rl.Us_of (R : Rl K T H0 Γ F O σ H ρ) {v : List V} {d : List D} (h : Rqs K T H0 q F v d) : RUs K T H v d := h.mono R.fh fun _ _ => trivial
theorem Rl.toB (R : Rl K T H0 Γ F O σ H ρ) {k : Knd} {v : V} {d : D} (h : Rp K T H0 F H O k v d) : RU K T H v d := by
  cases k with
  | q k => exact R.U_of h
  | B => exact h
  | bl k =>
    obtain ⟨a, vs, ds, rfl, rfl, h1, h2⟩ := h
    exact .lst h1 trivial (R.Us_of h2)
  | fl k =>
    obtain ⟨a, vs, ds, rfl, rfl, h1, h2⟩ := h
    exact .lst (R.fh _ _ h1) trivial (R.Us_of h2)
  | ol k =>
    obtain ⟨a, vs, ds, rfl, rfl, h1, _, _, h2⟩ := h
    exact .lst h1 trivial (R.Us_of h2)
theorem _root_.L2.Same.rq (e : Same F F') {v : V} {d : D} (h : Rq K T H0 q F v d) : Rq K T H0 q F' v d := h.mono e fun _ h => h
theorem _root_.L2.Same.rqs (e : Same F F') {v : List V} {d : List D} (h : Rqs K T H0 q F v d) : Rqs K T H0 q F' v d := h.mono e fun _ h => h
theorem _root_.L2.Same.rU (e : Same F F') {v : V} {d : D} (h : RU K T F v d) : RU K T F' v d := h.mono e fun _ h => h
theorem _root_.L2.Same.rUs (e : Same F F') {v : List V} {d : List D} (h : RUs K T F v d) : RUs K T F' v d := h.mono e fun _ h => h
theorem Sm.rU (e : Sm F F') {v : V} {d : D} (h : RU K T F v d) : RU K T F' v d := h.monoS e fun _ h => h
theorem Sm.rUs (e : Sm F F') {v : List V} {d : List D} (h : RUs K T F v d) : RUs K T F' v d := h.monoS e fun _ h => h
def Knd.pers : Knd → Bool
  | .ol _ => false
  | _ => true
theorem Rp.pers {k : Knd} (hk : k.pers = true) (e : Same F F') (e' : Sm H H') {v : V} {d : D} (h : Rp K T H0 F H O k v d) : Rp K T H0 F' H' O k v d := by
  cases k with
  | q k => exact e.rq h
  | B => exact e'.rU h
  | bl k =>
    obtain ⟨a, vs, ds, rfl, rfl, h1, h2⟩ := h
    exact ⟨a, vs, ds, rfl, rfl, e' _ _ h1, e.rqs h2⟩
  | fl k =>
    obtain ⟨a, vs, ds, rfl, rfl, h1, h2⟩ := h
    exact ⟨a, vs, ds, rfl, rfl, e _ _ h1, e.rqs h2⟩
  | ol k => cases hk
theorem RowsR.move {q : Q3} {o o' : Addr → Prop} (e : Same F F') (hH : ∀ a, o a → H' a = H a) (ho : ∀ a, o a → o' a) : ∀ {rows : List Addr} {rds : List (List D)}, RowsR K T H0 q F H o rows rds → RowsR K T H0 q F' H' o' rows rds
  | _, _, .nil => .nil
  | _, _, .cons ⟨h1, vs, h2, h3⟩ r => .cons ⟨ho _ h1, vs, by rw [hH _ h1]; exact h2, e.rqs h3⟩ (RowsR.move e hH ho r)
theorem FieldR.move {o o' : Addr → Prop} (e : Same F F') (hH : ∀ a, o a → H' a = H a) (ho : ∀ a, o a → o' a) {v : V} {d : D} {m : FM} (h : FieldR K T H0 F H o v d m) : FieldR K T H0 F' H' o' v d m := by
  cases m with
  | fz q => exact e.rq h
  | ow q =>
    obtain ⟨b, vs, es, h1, h2, h3, h4, h5⟩ := h
    exact ⟨b, vs, es, h1, h2, by rw [hH _ h4]; exact h3, ho _ h4, e.rqs h5⟩
theorem FieldsR.move {o o' : Addr → Prop} (e : Same F F') (hH : ∀ a, o a → H' a = H a) (ho : ∀ a, o a → o' a) : ∀ {ms : List FM} {vs : List V} {ds : List D}, FieldsR K T H0 F H o ms vs ds → FieldsR K T H0 F' H' o' ms vs ds
  | [], [], [], _ => trivial
  | m :: ms, v :: vs, d :: ds, ⟨h1, h2⟩ => ⟨h1.move e hH ho, FieldsR.move e hH ho h2⟩
  | [], _ :: _, _, h => h.elim
  | [], [], _ :: _, h => h.elim
  | _ :: _, [], _, h => h.elim
  | _ :: _, _ :: _, [], h => h.elim
theorem OwnS.move {S : Shp} {o o' : Addr → Prop} (e : Same F F') (hH : ∀ a, o a → H' a = H a) (ho : ∀ a, o a → o' a) {v : V} {d : D} (h : OwnS K T H0 F H o v d S) : OwnS K T H0 F' H' o' v d S := by
  cases S with
  | tbl q =>
    obtain ⟨a, rows, rds, h1, h2, h3, h4, h5, h6, h7⟩ := h
    exact ⟨a, rows, rds, h1, h2, by rw [hH _ h4]; exact h3, ho _ h4, h5, h6, h7.move e hH ho⟩
  | ins c ms =>
    obtain ⟨a, dx, fs, ds, h1, h2, h3, h4, hz, h5, h6⟩ := h
    exact ⟨a, dx, fs, ds, h1, h2, by rw [hH _ h4]; exact h3, ho _ h4, hz, h5, h6.move e hH ho⟩
  | dic q =>
    obtain ⟨a, kvs, ds, h1, h2, h3, h4, h5⟩ := h
    exact ⟨a, kvs, ds, h1, h2, by rw [hH _ h4]; exact h3, ho _ h4, e.rqs h5⟩
  | dit q =>
    obtain ⟨a, kvs, ds, h1, h2, h3, h4, h5⟩ := h
    exact ⟨a, kvs, ds, h1, h2, by rw [hH _ h4]; exact h3, ho _ h4, e.rqs h5⟩
  | ldk q =>
    obtain ⟨od, kvs, ds, h1, h2, h3, h4⟩ := h
    exact ⟨od, kvs, ds, h1, h2, e _ _ h3, e.rqs h4⟩
  | ldt q =>
    obtain ⟨od, kvs, ds, h1, h2, h3, h4⟩ := h
    exact ⟨od, kvs, ds, h1, h2, e _ _ h3, e.rqs h4⟩
  | lkl q =>
    obtain ⟨ds, h1, h2, h3, h4, h5⟩ := h
    exact ⟨ds, h1, h2, by rw [hH _ h4]; exact h3, ho _ h4, e.rqs h5⟩
  | odn q =>
    rcases h with h | ⟨a, kvs, ds, h1, h2, h3, h4, h5⟩
    · exact .inl h
    · exact .inr ⟨a, kvs, ds, h1, h2, by rw [hH _ h4]; exact h3, ho _ h4, e.rqs h5⟩
  | din q =>
    obtain ⟨a, kas, ps, h1, h2, h3, h4, h5⟩ := h
    exact ⟨a, kas, ps, h1, h2, by rw [hH _ h4]; exact h3, ho _ h4, L2.Paired.mapP h5 fun x d ⟨kd, vd, g1, g2, g3, g4⟩ => ⟨kd, vd, g1, g2, e.rq g3, e.rq g4⟩⟩
  | ldn q =>
    obtain ⟨od, kas, ps, h1, h2, h3, h4⟩ := h
    exact ⟨od, kas, ps, h1, h2, e _ _ h3, L2.Paired.mapP h4 fun x d ⟨kd, vd, g1, g2, g3, g4⟩ => ⟨kd, vd, g1, g2, e.rq g3, e.rq g4⟩⟩
  | cus q k =>
    obtain ⟨ws, ds, h1, h2⟩ := h
    exact ⟨ws, ds, (T.cu k).move hH ho h1, e.rqs h2⟩
  | clo k =>
    obtain ⟨f, ws, ds, h1, h2, h3, h4⟩ := h
    exact ⟨f, ws, ds, h1, h2, h3.move (fun b o z _ => e b o z), h4.mono e fun _ h => h⟩
  | prm q =>
    obtain ⟨vs, ds, h1, h2, h3, h4⟩ := h
    exact ⟨vs, ds, h1, h2, e _ _ h3, e.rqs h4⟩
theorem Rl.grow (R : Rl K T H0 Γ F O σ H ρ) (e : Sm H H') (et : LamX.Tabs T.t H') : Rl K T H0 Γ F O σ H' ρ where
  h0 := R.h0
  nF := R.nF
  tb := et
  fh := Sm.ofF R.nF R.fh e
  on := fun i a h => let ⟨h1, o, h2, h3⟩ := R.on i a h; ⟨h1, o, e _ _ h2 (isT_mut h3), h3⟩
  od := R.od
  ls := R.ls
  lr := R.lr
  sl := fun i m hm => by
    have h := R.sl i m hm
    cases m with
    | no => trivial
    | fz k => exact h
    | fl k => exact h
    | ow k =>
      obtain ⟨a, vs, ds, h1, h2, h3, h4, h5⟩ := h
      exact ⟨a, vs, ds, h1, h2, e _ _ h3, h4, h5⟩
    | os S =>
      obtain ⟨v, d, h1, h2, h3⟩ := h
      exact ⟨v, d, h1, h2, h3.move (.refl _) (fun a ha => by
        obtain ⟨_, o, h4, h5⟩ := R.on i a ha
        rw [e _ _ h4 (isT_mut h5), h4]) fun _ h => h⟩
theorem Rl.more (R : Rl K T H0 Γ F O σ H ρ) (e : Same F F') (e' : Same F' H) (n' : NoT F') (ho : ∀ i a, O i a → F' a = none) : Rl K T H0 Γ F' O σ H ρ where
  nF := n'
  tb := R.tb
  h0 := R.h0.trans e
  fh := e'
  on := fun i a h => ⟨ho i a h, (R.on i a h).2⟩
  od := R.od
  ls := R.ls
  lr := R.lr
  sl := fun i m hm => by
    have h := R.sl i m hm
    cases m with
    | no => trivial
    | fz k =>
      obtain ⟨v, d, h1, h2, h3⟩ := h
      exact ⟨v, d, h1, h2, e.rq h3⟩
    | fl k =>
      obtain ⟨a, vs, ds, h1, h2, h3, h4⟩ := h
      exact ⟨a, vs, ds, h1, h2, e _ _ h3, e.rqs h4⟩
    | ow k =>
      obtain ⟨a, vs, ds, h1, h2, h3, h4, h5⟩ := h
      exact ⟨a, vs, ds, h1, h2, h3, h4, e.rqs h5⟩
    | os S =>
      obtain ⟨v, d, h1, h2, h3⟩ := h
      exact ⟨v, d, h1, h2, h3.move e (fun _ _ => rfl) fun _ h => h⟩
theorem NoT.upd {F : Hp} {p : Addr} {o : HO} (n : NoT F) (ho : isT o = false) : NoT (upd F p o) := fun b u e => by
  by_cases hb : b = p
  · subst hb; rw [upd_same] at e; cases e; exact ho
  · rw [upd_ne hb] at e; exact n b u e
theorem NoT.cut {F : Hp} {S : Addr → Prop} (n : NoT F) : NoT (cut F S) := fun b u e => by
  unfold DL.cut at e
  split at e
  · cases e
  · exact n b u e
theorem Rl.growN (R : Rl K T H0 Γ F O σ H ρ) (e : Same H H') : Rl K T H0 Γ F O σ H' ρ := R.grow e.sm (R.tb.ext e)
theorem tabs_up {H : Hp} {a : Addr} {o u : HO} (t : LamX.Tabs T.t H) (ha : H a = some u) (hm : isMut u = true) : LamX.Tabs T.t (upd H a o) := fun p hp => by
  obtain ⟨ps, h1, h2, h3⟩ := t p hp
  have ne : ∀ {b : Addr} {w : HO}, H b = some w → isMut w = false → b ≠ a := fun {b w} e n z => by
    subst z
    rw [ha] at e; cases e
    rw [hm] at n; cases n
  refine ⟨ps, by rw [upd_ne (ne h1 rfl)]; exact h1, h2, fun pos cv hc => ?_⟩
  obtain ⟨c, e1, e2⟩ := h3 pos cv hc
  exact ⟨c, e1, by rw [upd_ne (ne e2 isMut_code)]; exact e2⟩
theorem Rl.laid (R : Rl K T H0 Γ F O σ H ρ) {p : Addr} {o : HO} (hp : H p = none) (ho : isT o = false := by rfl) : Rl K T H0 Γ (upd F p o) O σ (upd H p o) ρ ∧ Same F (upd F p o) ∧ Sm H (upd H p o) := by
  have sH : Same H (upd H p o) := fun b u e => by rw [upd_ne (ne_of_none e hp)]; exact e
  have fp : F p = none := R.fh.free hp
  have sF : Same F (upd F p o) := fun b u e => by rw [upd_ne (ne_of_none e fp)]; exact e
  refine ⟨(R.growN sH).more sF (fun b u e => ?_) (R.nF.upd ho) (fun i a h => ?_), sF, sH.sm⟩
  · by_cases hb : b = p
    · subst hb; rw [upd_same] at e ⊢; exact e
    · rw [upd_ne hb] at e ⊢; exact R.fh _ _ e
  · obtain ⟨h1, u, h2, _⟩ := R.on i a h
    rw [upd_ne (ne_of_none h2 hp)]; exact h1
theorem Rl.junk (R : Rl K T H0 Γ F O σ H ρ) {p : Addr} {o : HO} (hp : H p = none) : Rl K T H0 Γ F O σ (upd H p o) ρ ∧ Sm H (upd H p o) := by
  have sH : Same H (upd H p o) := fun b u e => by rw [upd_ne (ne_of_none e hp)]; exact e
  exact ⟨R.growN sH, sH.sm⟩
theorem Rl.notOwn (R : Rl K T H0 Γ F O σ H ρ) {p : Addr} (hp : H p = none) : ∀ i, ¬ O i p := fun i h => by
  obtain ⟨_, u, h2, _⟩ := R.on i p h
  rw [hp] at h2; cases h2

def FM.le : FM → Q3 → Bool
  | .fz p, q => p.le q
  | .ow p, q => p.le q
def Shp.le : Shp → Q3 → Bool
  | .tbl p, q => p.le q
  | .ins _ _, _ => false
  | .dic p, q => p.le q
  | .dit p, q => p.le q
  | .ldk _, _ => false
  | .ldt _, _ => false
  | .lkl _, _ => false
  | .odn p, q => p.le q
  | .prm _, _ => false
  | .clo _, _ => false
  | .din _, _ => false
  | .ldn _, _ => false
  | .cus _ _, _ => false
theorem rows_frz {q p : Q3} {o : Addr → Prop} (e : Same F F') (hH : ∀ a, o a → F' a = H a) (hl : p.le q = true) (hN : ∀ a, o a → NK H0 q a) : ∀ {rows : List Addr} {rds : List (List D)}, RowsR K T H0 p F H o rows rds → RepsG K T (NK H0 q) F' (rows.map .ref) (rds.map .lst)
  | _, _, .nil => .nil
  | _, _, .cons ⟨h1, vs, h2, h3⟩ r => .cons (.lst (by rw [hH _ h1]; exact h2) (hN _ h1) (h3.mono e (NK.le hl))) (rows_frz e hH hl hN r)
theorem own_frz {S : Shp} {q : Q3} {o : Addr → Prop} (e : Same F F') (hH : ∀ a, o a → F' a = H a) (hl : S.le q = true) (hN : ∀ a, o a → NK H0 q a) {v : V} {d : D} (h : OwnS K T H0 F H o v d S) : RepG K T (NK H0 q) F' v d := by
  cases S with
  | tbl p =>
    obtain ⟨a, rows, rds, h1, h2, h3, h4, h5, h6, h7⟩ := h
    subst h1; subst h2
    exact .lst (by rw [hH _ h4]; exact h3) (hN _ h4) (rows_frz e hH hl hN h7)
  | ins c ms => cases hl
  | dic p =>
    obtain ⟨a, kvs, ds, h1, h2, h3, h4, h5⟩ := h
    subst h1; subst h2
    exact .dic (by rw [hH _ h4]; exact h3) (hN _ h4) (h5.mono e (NK.le hl))
  | dit p =>
    obtain ⟨a, kvs, ds, h1, h2, h3, h4, h5⟩ := h
    subst h1; subst h2
    exact .dit (by rw [hH _ h4]; exact h3) (hN _ h4) (h5.mono e (NK.le hl))
  | ldk p => cases hl
  | ldt p => cases hl
  | lkl p => cases hl
  | prm p => cases hl
  | clo p => cases hl
  | din p => cases hl
  | ldn p => cases hl
  | cus p k => cases hl
  | odn p =>
    rcases h with ⟨h1, h2⟩ | ⟨a, kvs, ds, h1, h2, h3, h4, h5⟩
    · subst h1; subst h2; exact .non
    · subst h1; subst h2
      exact .dic (by rw [hH _ h4]; exact h3) (hN _ h4) (h5.mono e (NK.le hl))
def shN : Shp → Shp → Bool
  | .dic p, .odn q => decide (p = q)
  | _, _ => false
def shW (S S' : Shp) : Bool := decide (S = S') || shN S S'
open Classical in
theorem shW_iff {S S' : Shp} (h : shW S S' = true) : S' = S ∨ ∃ p, S = .dic p ∧ S' = .odn p := by
  unfold shW at h
  rw [Bool.or_eq_true] at h
  rcases h with h | h
  · exact .inl (of_decide_eq_true h).symm
  · cases S <;> first | (cases h; done) | skip
    cases S' <;> first | (cases h; done) | skip
    exact .inr ⟨_, rfl, by rw [of_decide_eq_true h]⟩
def wkM : Mode → Mode → Bool
  | _, .no => true
  | .fz p, .fz q => p.le q
  | .fl p, .fl q => p.le q
  | .fl _, .fz .U => true
  | .ow p, .ow q => p.le q
  | .ow p, .fl q => p.le q
  | .ow p, .fz .L => p.le .L
  | .ow _, .fz .U => true
  | .os S, .os S' => shW S S'
  | .os S, .fz .L => S.le .L
  | .os S, .fz .U => S.le .U
  | _, _ => false
def isOw : Option Mode → Bool
  | some (.ow _) => true
  | some (.os _) => true
  | _ => false
def Wk (K : PySem.W.Frag) (T : Tb) (H0 : HZ) (Γ Γ' : List Mode) : Prop := ∀ F O σ H ρ, Rl K T H0 Γ F O σ H ρ → ∃ F' O', Same F F' ∧ Rl K T H0 Γ' F' O' σ H ρ
def wkAll : List Mode → List Mode → Bool
  | [], [] => true
  | m :: r, m' :: r' => wkM m m' && wkAll r r'
  | _, _ => false
theorem wkAll.len : ∀ {Γ Γ' : List Mode}, wkAll Γ Γ' = true → Γ.length = Γ'.length
  | [], [], _ => rfl
  | m :: r, m' :: r', h => by
    unfold wkAll at h
    rw [Bool.and_eq_true] at h
    rw [List.length_cons, List.length_cons, wkAll.len h.2]
theorem wkAll.get : ∀ {Γ Γ' : List Mode} {i : Nat} {m' : Mode}, wkAll Γ Γ' = true → Γ'[i]? = some m' → ∃ m, Γ[i]? = some m ∧ wkM m m' = true
  | [], [], _, _, _, e => by simp at e
  | m :: r, m' :: r', 0, _, h, e => by
    unfold wkAll at h
    rw [Bool.and_eq_true] at h
    simp at e; subst e
    exact ⟨m, rfl, h.1⟩
  | m :: r, m' :: r', i + 1, x, h, e => by
    unfold wkAll at h
    rw [Bool.and_eq_true] at h
    obtain ⟨y, h1, h2⟩ := wkAll.get (i := i) h.2 (by simpa using e)
    exact ⟨y, by simpa using h1, h2⟩
theorem wk_of (h : wkAll Γ Γ' = true) : Wk K T H0 Γ Γ' := by
  intro F O σ H ρ R
  classical
  let fr : Addr → Prop := fun b => ∃ i, O i b ∧ isOw Γ'[i]? = false
  let F' : Hp := fun b => if fr b then H b else F b
  have sF : Same F F' := fun b u e => by
    show (if fr b then H b else F b) = some u
    rw [if_neg]
    · exact e
    · rintro ⟨i, hi, _⟩
      rw [(R.on i b hi).1] at e; cases e
  have sH : Same F' H := fun b u e => by
    have e : (if fr b then H b else F b) = some u := e
    split at e
    · exact e
    · exact R.fh _ _ e
  have nF' : NoT F' := fun b u e => by
    have e : (if fr b then H b else F b) = some u := e
    split at e
    · rename_i hb
      obtain ⟨i, hi, _⟩ := hb
      obtain ⟨_, o, h1, h2⟩ := R.on i b hi
      rw [h1] at e; cases e
      exact isT_mut h2
    · exact R.nF _ _ e
  refine ⟨F', fun i a => O i a ∧ isOw Γ'[i]? = true, sF, R.h0.trans sF, sH, fun i a ⟨h1, h2⟩ => ⟨?_, (R.on i a h1).2⟩, fun i j a h1 h2 => R.od i j a h1.1 h2.1, by rw [R.ls, wkAll.len h], by rw [R.lr, wkAll.len h], fun i m' hm' => ?_, nF', R.tb⟩
  · show (if fr a then H a else F a) = none
    rw [if_neg]
    · exact (R.on i a h1).1
    · rintro ⟨j, hj, hn⟩
      have := R.od i j a h1 hj
      subst this
      rw [h2] at hn; cases hn
  · obtain ⟨m, hm, hw⟩ := wkAll.get h hm'
    have s := R.sl i m hm
    have froz : ∀ {a : Addr} {vs : List V}, H a = some (.lst vs) → O i a → isOw (some m') = false → F' a = some (.lst vs) := fun {a vs} h1 h2 h3 => by
      show (if fr a then H a else F a) = _
      rw [if_pos ⟨i, h2, by rw [hm']; exact h3⟩]; exact h1
    have hnew : ∀ {a : Addr}, O i a → H0.h a = none := fun {a} h2 => R.h0.free (R.on i a h2).1
    have frozA : isOw (some m') = false → ∀ a, O i a → F' a = H a := fun h3 a h2 => by
      show (if fr a then H a else F a) = _
      rw [if_pos ⟨i, h2, by rw [hm']; exact h3⟩]
    cases m' with
    | no => trivial
    | fz q =>
      cases m with
      | no => cases hw
      | fz p =>
        obtain ⟨v, d, h1, h2, h3⟩ := s
        exact ⟨v, d, h1, h2, h3.mono sF (NK.le hw)⟩
      | fl p =>
        obtain ⟨a, vs, ds, h1, h2, h3, h4⟩ := s
        cases q with
        | A => cases hw
        | L => cases hw
        | U => exact ⟨_, _, h1, h2, .lst (sF _ _ h3) trivial (h4.mono sF fun _ _ => trivial)⟩
      | ow p =>
        obtain ⟨a, vs, ds, h1, h2, h3, h4, h5⟩ := s
        cases q with
        | A => cases hw
        | L => exact ⟨_, _, h1, h2, .lst (froz h3 h4 rfl) (hnew h4) (h5.mono sF (NK.le hw))⟩
        | U => exact ⟨_, _, h1, h2, .lst (froz h3 h4 rfl) trivial (h5.mono sF fun _ _ => trivial)⟩
      | os S =>
        obtain ⟨v, d, h1, h2, h3⟩ := s
        cases q with
        | A => cases hw
        | L => exact ⟨v, d, h1, h2, own_frz sF (frozA rfl) hw (fun a ha => hnew ha) h3⟩
        | U => exact ⟨v, d, h1, h2, own_frz sF (frozA rfl) hw (fun a ha => trivial) h3⟩
    | fl q =>
      cases m with
      | no => cases hw
      | fz p => cases hw
      | fl p =>
        obtain ⟨a, vs, ds, h1, h2, h3, h4⟩ := s
        exact ⟨_, _, _, h1, h2, sF _ _ h3, h4.mono sF (NK.le hw)⟩
      | ow p =>
        obtain ⟨a, vs, ds, h1, h2, h3, h4, h5⟩ := s
        exact ⟨_, _, _, h1, h2, froz h3 h4 rfl, h5.mono sF (NK.le hw)⟩
      | os S => cases hw
    | ow q =>
      cases m with
      | no => cases hw
      | fz p => cases hw
      | fl p => cases hw
      | ow p =>
        obtain ⟨a, vs, ds, h1, h2, h3, h4, h5⟩ := s
        exact ⟨_, _, _, h1, h2, h3, ⟨h4, by rw [hm']; rfl⟩, h5.mono sF (NK.le hw)⟩
      | os S => cases hw
    | os S =>
      cases m with
      | no => cases hw
      | fz p => cases hw
      | fl p => cases hw
      | ow p => cases hw
      | os S' =>
        obtain ⟨v, d, h1, h2, h3⟩ := s
        refine ⟨v, d, h1, h2, ?_⟩
        have h3 := h3.move (o' := fun a => O i a ∧ isOw Γ'[i]? = true) sF (fun _ _ => rfl) fun a ha => ⟨ha, by rw [hm']; rfl⟩
        have two := shW_iff hw
        rcases two with e | ⟨p, e1, e2⟩
        · rw [e]; exact h3
        · subst e1; subst e2; exact .inr h3
end
end DL

namespace DL
open PySem PySem.Spec PyProof.Rows L2

abbrev EF := List D → Option D
def tD (K : PySem.W.Frag) (T : Tb) (H0 : HZ) (Γ : List Mode) (f : EF) (k : Knd) : TE := fun σ H Q =>
  ∃ F O ρ d, Rl K T H0 Γ F O σ H ρ ∧ f ρ = some d ∧ ∀ F' H' v, Rl K T H0 Γ F' O σ H' ρ → Same F F' → Sm H H' → Rp K T H0 F' H' O k v d → Q v H'
abbrev DE (X : Cx) (T : Tb) (H0 : HZ) (Γ : List Mode) (e : Expr) (f : EF) (k : Knd) : Prop := PE X e (tD X.K T H0 Γ f k)
def tDA (K : PySem.W.Frag) (T : Tb) (H0 : HZ) (Γ : List Mode) (f : List D → Option (List D)) : TA := fun σ H Q =>
  ∃ F O ρ ds, Rl K T H0 Γ F O σ H ρ ∧ f ρ = some ds ∧ ∀ F' H' vs, Rl K T H0 Γ F' O σ H' ρ → Same F F' → Sm H H' → RUs K T H' vs ds → Q vs H'
abbrev DA (X : Cx) (T : Tb) (H0 : HZ) (Γ : List Mode) (es : List Expr) (f : List D → Option (List D)) : Prop := PA X es (tDA X.K T H0 Γ f)
def tDQ (K : PySem.W.Frag) (T : Tb) (H0 : HZ) (Γ : List Mode) (f : List D → Option (List D)) (q : Q3) : TA := fun σ H Q =>
  ∃ F O ρ ds, Rl K T H0 Γ F O σ H ρ ∧ f ρ = some ds ∧ ∀ F' H' vs, Rl K T H0 Γ F' O σ H' ρ → Same F F' → Sm H H' → Rqs K T H0 q F' vs ds → Q vs H'
abbrev DQ (X : Cx) (T : Tb) (H0 : HZ) (Γ : List Mode) (es : List Expr) (f : List D → Option (List D)) (q : Q3) : Prop := PA X es (tDQ X.K T H0 Γ f q)
def tDT (K : PySem.W.Frag) (T : Tb) (H0 : HZ) (Γ : List Mode) (f : List D → Option Bool) : TT := fun σ H Q =>
  ∃ F O ρ b, Rl K T H0 Γ F O σ H ρ ∧ f ρ = some b ∧ ∀ F' H', Rl K T H0 Γ F' O σ H' ρ → Same F F' → Sm H H' → Q b H'
abbrev DT (X : Cx) (T : Tb) (H0 : HZ) (Γ : List Mode) (e : Expr) (f : List D → Option Bool) : Prop := PT X e (tDT X.K T H0 Γ f)
abbrev DW (X : Cx) (T : Tb) (H0 : HZ) (Γ : List Mode) (e : Expr) (f : List D → Option Bool) : Prop := PW X e (tDT X.K T H0 Γ f)

section
variable {X : Cx} {e : Expr} {es : List Expr} {st : Stmt} {sts : List Stmt}
theorem PE.wk {t t' : TE} (h : PE X e t) (i : ∀ σ H Q, t' σ H Q → t σ H Q) : PE X e t' := ⟨fun pins s σ H Q I q => h.run pins s σ H Q I (i _ _ _ q)⟩
theorem PA.wk {t t' : TA} (h : PA X es t) (i : ∀ σ H Q, t' σ H Q → t σ H Q) : PA X es t' := ⟨fun p pins s σ H Q I q => h.run p pins s σ H Q I (i _ _ _ q)⟩
theorem PT.wk {t t' : TT} (h : PT X e t) (i : ∀ σ H Q, t' σ H Q → t σ H Q) : PT X e t' := ⟨fun pins s σ H Q I q => h.run pins s σ H Q I (i _ _ _ q)⟩
theorem PW.wk {t t' : TT} (h : PW X e t) (i : ∀ σ H Q, t' σ H Q → t σ H Q) : PW X e t' := ⟨fun w pins s σ H Q I q => h.run w pins s σ H Q I (i _ _ _ q)⟩
theorem PS.wk {t t' : TS} (h : PS X st t) (i : ∀ D σ H, t' D σ H → t D σ H) : PS X st t' := ⟨fun pins s σ H D I q => h.run pins s σ H D I (i _ _ _ q)⟩
theorem PSs.wk {t t' : TS} (h : PSs X sts t) (i : ∀ D σ H, t' D σ H → t D σ H) : PSs X sts t' := ⟨fun pins s σ H D I q => h.run pins s σ H D I (i _ _ _ q)⟩
end

mutual
def D.lf : D → Bool
  | .non => true
  | .bl _ => true
  | .int _ => true
  | .str _ => true
  | .tup ds => D.lfs ds
  | .lst _ => false
  | .scr ds => D.lfs ds
  | .ins _ _ => false
  | .dic _ _ => false
  | .dit _ _ => false
  | .exn _ ds => D.lfs ds
def D.lfs : List D → Bool
  | [] => true
  | d :: ds => D.lf d && D.lfs ds
end
section
variable {K : PySem.W.Frag} {T : Tb} {N N' : Addr → Prop} {F : Hp}
mutual
theorem RepG.lf : ∀ {v : V} {d : D}, RepG K T N F v d → d.lf = true → RepG K T N' F v d
  | _, _, .non, _ => .non
  | _, _, .bl b, _ => .bl b
  | _, _, .int b, _ => .int b
  | _, _, .str b, _ => .str b
  | _, _, .tup h r, e => .tup h (RepsG.lf r (by simpa [D.lf] using e))
  | _, _, .lst h n r, e => by simp [D.lf] at e
  | _, _, .scr h r, e => .scr h (RepsG.lf r (by simpa [D.lf] using e))
  | _, _, .ins h n q r, e => by simp [D.lf] at e
  | _, _, .dic h n r, e => by simp [D.lf] at e
  | _, _, .dit h n r, e => by simp [D.lf] at e
  | _, _, .exn h x q r, e => .exn h x q (RepsG.lf r (by simpa [D.lf] using e))
theorem RepsG.lf : ∀ {vs : List V} {ds : List D}, RepsG K T N F vs ds → D.lfs ds = true → RepsG K T N' F vs ds
  | _, _, .nil, _ => .nil
  | _, _, .cons h r, e => by
    simp only [D.lfs, Bool.and_eq_true] at e
    exact .cons (RepG.lf h e.1) (RepsG.lf r e.2)
end
end

def atomV : D → Option V
  | .non => some .non
  | .bl b => some (.bl b)
  | .int i => some (.int i)
  | .str s => some (.str s)
  | _ => none
theorem atom_rep {K : PySem.W.Frag} {T : Tb} {N : Addr → Prop} {F : Hp} : ∀ {d : D} {v : V}, atomV d = some v → RepG K T N F v d
  | .non, _, h => by cases h; exact .non
  | .bl b, _, h => by cases h; exact .bl b
  | .int b, _, h => by cases h; exact .int b
  | .str b, _, h => by cases h; exact .str b
  | .tup _, _, h => nomatch h
  | .lst _, _, h => nomatch h
  | .scr _, _, h => nomatch h
  | .ins _ _, _, h => nomatch h
  | .dic _ _, _, h => nomatch h
  | .dit _ _, _, h => nomatch h
  | .exn _ _, _, h => nomatch h

def eK (d : D) : EF := fun _ => some d
def eV (i : Nat) : EF := fun ρ => ρ[i]?
def e1 (g : D → Option D) (a : EF) : EF := fun ρ => (a ρ).bind g
def e2 (g : D → D → Option D) (a b : EF) : EF := fun ρ => (a ρ).bind fun x => (b ρ).bind fun y => g x y
def eA (a : EF) : EF := fun ρ => (a ρ).bind fun d => if d.lf = true then some d else none
def aNil : List D → Option (List D) := fun _ => some []
def aCons (a : EF) (r : List D → Option (List D)) : List D → Option (List D) := fun ρ => (a ρ).bind fun x => (r ρ).bind fun xs => some (x :: xs)
def t2b (a : EF) : List D → Option Bool := fun ρ => (a ρ).bind fun d => match d with | .bl b => some b | _ => none
def b2e (a : List D → Option Bool) : EF := fun ρ => (a ρ).bind fun b => some (.bl b)
def bAnd (a b : List D → Option Bool) : List D → Option Bool := fun ρ => (a ρ).bind fun c => if c = true then b ρ else some false
def bOr (a b : List D → Option Bool) : List D → Option Bool := fun ρ => (a ρ).bind fun c => if c = true then some true else b ρ
def bNot (a : List D → Option Bool) : List D → Option Bool := fun ρ => (a ρ).bind fun c => some (!c)
def eIf (t : List D → Option Bool) (a b : EF) : EF := fun ρ => (t ρ).bind fun c => if c = true then a ρ else b ρ
def i2 (g : Int → Int → Option D) : D → D → Option D
  | .int i, .int j => g i j
  | _, _ => none
def i1 (g : Int → Option D) : D → Option D
  | .int i => g i
  | _ => none
def small (n : Nat) (i : Int) : Prop := i.natAbs.log2 < n
instance (n : Nat) (i : Int) : Decidable (small n i) := Nat.decLt _ _
theorem small_lt {n : Nat} {i : Int} (h : small n i) : i.natAbs < 2 ^ n := by
  unfold small at h
  by_cases h0 : i.natAbs = 0
  · rw [h0]; exact Nat.two_pow_pos n
  · exact (Nat.log2_lt h0).mp h
def mulOk (i j : Int) : Prop := small 64 i ∨ small 64 j ∨ i.natAbs.log2 + j.natAbs.log2 < 1000000
instance (i j : Int) : Decidable (mulOk i j) := by unfold mulOk; infer_instance
theorem mulOk_C {i j : Int} (h : mulOk i j) : CMul i j ∨ CMulW i j := by
  have e : (2 : Nat) ^ 64 = 18446744073709551616 := by decide
  have e2 : (2 : Int) ^ 64 = 18446744073709551616 := by decide
  rcases h with h | h | h
  · have := small_lt h
    rw [e] at this
    exact .inl (.inl ⟨by rw [e2]; omega, by rw [e2]; omega⟩)
  · have := small_lt h
    rw [e] at this
    exact .inl (.inr ⟨by rw [e2]; omega, by rw [e2]; omega⟩)
  · exact .inr h
def gAdd (x y : D) : Option D := i2 (fun i j => some (.int (i + j))) x y
def gSbI (x y : D) : Option D := i2 (fun i j => some (.int (i - j))) x y
def gMul (x y : D) : Option D := i2 (fun i j => if mulOk i j then some (.int (i * j)) else none) x y
def gDiv (x y : D) : Option D := i2 (fun i j => if 0 < j ∧ small 9000 j then some (.int (i / j)) else none) x y
def gMod (x y : D) : Option D := i2 (fun i j => if 0 < j then some (.int (i % j)) else none) x y
def gPow (x y : D) : Option D := i2 (fun i j => if 0 ≤ j ∧ small 10 j ∧ small 64 i then some (.int (i ^ j.toNat)) else none) x y
def gAnd (x y : D) : Option D := i2 (fun i j => some (.int (Builtin.bitAnd i j))) x y
def gOr (x y : D) : Option D := i2 (fun i j => some (.int (Builtin.bitOr i j))) x y
def gXor (x y : D) : Option D := i2 (fun i j => some (.int (Builtin.bitXor i j))) x y
def gNeg (x : D) : Option D := i1 (fun i => some (.int (-i))) x
def gLt (x y : D) : Option D := i2 (fun i j => some (.bl (decide (i < j)))) x y
def gLe (x y : D) : Option D := i2 (fun i j => some (.bl (decide (i ≤ j)))) x y
def gGt (x y : D) : Option D := i2 (fun i j => some (.bl (decide (j < i)))) x y
def gGe (x y : D) : Option D := i2 (fun i j => some (.bl (decide (j ≤ i)))) x y
def gEqS : D → D → Option D
  | .int i, .int j => some (.bl (decide (i = j)))
  | .bl i, .bl j => some (.bl (decide (i = j)))
  | .str i, .str j => some (.bl (decide (i = j)))
  | _, _ => none
def gNeS : D → D → Option D
  | .int i, .int j => some (.bl (!decide (i = j)))
  | .bl i, .bl j => some (.bl (!decide (i = j)))
  | .str i, .str j => some (.bl (!decide (i = j)))
  | _, _ => none

section
variable {X : Cx} {T : Tb} {H0 : HZ} {Γ : List Mode} {e a b : Expr} {es : List Expr} {f fa fb : EF} {k ka kb : Knd} {pos : Pos} {q : Q3}
theorem de_int {i : Int} {j} : DE X T H0 Γ (.Constant (.int i) j pos) (eK (.int i)) (.q q) := PE.wk pe_int fun σ H Q ⟨F, O, ρ, d, R, hf, hq⟩ => by
  cases hf; exact hq F H _ R (.refl _) (.refl _) (.int i)
theorem de_bl {i : Bool} {j} : DE X T H0 Γ (.Constant (.bool i) j pos) (eK (.bl i)) (.q q) := PE.wk pe_bl fun σ H Q ⟨F, O, ρ, d, R, hf, hq⟩ => by
  cases hf; exact hq F H _ R (.refl _) (.refl _) (.bl i)
theorem de_str {i : Str} {j} : DE X T H0 Γ (.Constant (.str i) j pos) (eK (.str i)) (.q q) := PE.wk pe_str fun σ H Q ⟨F, O, ρ, d, R, hf, hq⟩ => by
  cases hf; exact hq F H _ R (.refl _) (.refl _) (.str i)
theorem de_gint {x : Str} {i : Int} {u : Value} (hg : Gl X x) (hm : X.mg x = some u) (r : RelV (.int i) u) (hd : (x == ("__debug__" : Str)) = false := by decide) : DE X T H0 Γ (.Name x pos) (eK (.int i)) (.q q) :=
  PE.wk (pe_glob hg hm r hd) fun σ H Q ⟨F, O, ρ, d, R, hf, hq⟩ => by cases hf; exact hq F H _ R (.refl _) (.refl _) (.int i)
theorem vals_reps {K : PySem.W.Frag} {T : Tb} {N : Addr → Prop} {F : Hp} : ∀ (ns : List Int), RepsG K T N F (ns.map V.int) (ns.map D.int)
  | [] => .nil
  | n :: ns => .cons (.int n) (vals_reps ns)
theorem de_v (i : Nat) (hm : Γ[i]? = some (.fz q)) {x : Str} (h : PE X (.Name x pos) (tVar i)) : DE X T H0 Γ (.Name x pos) (eV i) (.q q) := PE.wk h fun σ H Q ⟨F, O, ρ, d, R, hf, hq⟩ => by
  obtain ⟨v, d', h1, h2, h3⟩ := R.sl i _ hm
  have : ρ[i]? = some d := hf
  rw [h2] at this; cases this
  exact ⟨v, h1, hq F H v R (.refl _) (.refl _) h3⟩
theorem de_vl (i : Nat) (hm : Γ[i]? = some (.fl q)) {x : Str} (h : PE X (.Name x pos) (tVar i)) : DE X T H0 Γ (.Name x pos) (eV i) (.fl q) := PE.wk h fun σ H Q ⟨F, O, ρ, d, R, hf, hq⟩ => by
  obtain ⟨a, vs, ds, h1, h2, h3, h4⟩ := R.sl i _ hm
  have : ρ[i]? = some d := hf
  rw [h2] at this; cases this
  exact ⟨_, h1, hq F H _ R (.refl _) (.refl _) ⟨a, vs, ds, rfl, rfl, h3, h4⟩⟩
theorem de_vo (i : Nat) (hm : Γ[i]? = some (.ow q)) {x : Str} (h : PE X (.Name x pos) (tVar i)) : DE X T H0 Γ (.Name x pos) (eV i) (.bl q) := PE.wk h fun σ H Q ⟨F, O, ρ, d, R, hf, hq⟩ => by
  obtain ⟨a, vs, ds, h1, h2, h3, h4, h5⟩ := R.sl i _ hm
  have : ρ[i]? = some d := hf
  rw [h2] at this; cases this
  exact ⟨_, h1, hq F H _ R (.refl _) (.refl _) ⟨a, vs, ds, rfl, rfl, h3, h5⟩⟩

theorem de_wk (h : DE X T H0 Γ e f k) {k' : Knd} (i : ∀ F O σ H ρ v d, Rl X.K T H0 Γ F O σ H ρ → Rp X.K T H0 F H O k v d → Rp X.K T H0 F H O k' v d) : DE X T H0 Γ e f k' :=
  PE.wk h fun σ H Q ⟨F, O, ρ, d, R, hf, hq⟩ => ⟨F, O, ρ, d, R, hf, fun F' H' v R' sF sH r => hq F' H' v R' sF sH (i _ _ _ _ _ _ _ R' r)⟩
theorem de_q {p : Q3} (h : DE X T H0 Γ e f (.q p)) (hl : p.le q = true := by rfl) : DE X T H0 Γ e f (.q q) := de_wk h fun F O σ H ρ v d R r => RepG.mono (.refl _) (NK.le hl) r
theorem de_ob (h : DE X T H0 Γ e f (.ol q)) : DE X T H0 Γ e f (.bl q) := de_wk h fun F O σ H ρ v d R ⟨a, vs, ds, h1, h2, h3, _, _, h4⟩ => ⟨a, vs, ds, h1, h2, h3, h4⟩
theorem de_oo {p : Q3} (h : DE X T H0 Γ e f (.ol p)) (hl : p.le q = true := by rfl) : DE X T H0 Γ e f (.ol q) := de_wk h fun F O σ H ρ v d R ⟨a, vs, ds, h1, h2, h3, h4, h5, h6⟩ => ⟨a, vs, ds, h1, h2, h3, h4, h5, RepsG.mono (.refl _) (NK.le hl) h6⟩
theorem de_bb {p : Q3} (h : DE X T H0 Γ e f (.bl p)) (hl : p.le q = true := by rfl) : DE X T H0 Γ e f (.bl q) := de_wk h fun F O σ H ρ v d R ⟨a, vs, ds, h1, h2, h3, h4⟩ => ⟨a, vs, ds, h1, h2, h3, RepsG.mono (.refl _) (NK.le hl) h4⟩
theorem fz_new {F H : Hp} {O : Own} {σ : L2.St} {ρ : List D} {K : PySem.W.Frag} (R : Rl K T H0 Γ F O σ H ρ) {a : Addr} {o : HO} (ha : H a = some o) (hF : F a = none) (hO : ∀ i, ¬ O i a) (ho : isT o = false := by rfl) : Rl K T H0 Γ (upd F a o) O σ H ρ ∧ Same F (upd F a o) := by
  have sF : Same F (upd F a o) := fun b u e => by rw [upd_ne (ne_of_none e hF)]; exact e
  refine ⟨R.more sF (fun b u e => ?_) (R.nF.upd ho) (fun i b h => ?_), sF⟩
  · by_cases hb : b = a
    · subst hb; rw [upd_same] at e; rw [ha, ← e]
    · rw [upd_ne hb] at e; exact R.fh _ _ e
  · rw [upd_ne (fun z => by subst z; exact hO i h)]; exact (R.on i b h).1
theorem de_oq {p : Q3} (h : DE X T H0 Γ e f (.ol p)) (hl : p.le q = true := by rfl) (hL : Q3.L.le q = true := by rfl) : DE X T H0 Γ e f (.q q) :=
  PE.wk h fun σ H Q ⟨F, O, ρ, d, R, hf, hq⟩ => ⟨F, O, ρ, d, R, hf, fun F' H' v R' sF sH ⟨a, vs, ds, e1, e2, h1, h2, h3, h4⟩ => by
    subst e1; subst e2
    obtain ⟨R2, s2⟩ := fz_new R' h1 h2 h3
    refine hq _ H' _ R2 (sF.trans s2) sH (.lst upd_same (NK.le hL _ (R'.h0.free h2)) (h4.mono s2 (NK.le hl)))⟩
theorem de_of (h : DE X T H0 Γ e f (.ol q)) : DE X T H0 Γ e f (.fl q) :=
  PE.wk h fun σ H Q ⟨F, O, ρ, d, R, hf, hq⟩ => ⟨F, O, ρ, d, R, hf, fun F' H' v R' sF sH ⟨a, vs, ds, e1, e2, h1, h2, h3, h4⟩ => by
    obtain ⟨R2, s2⟩ := fz_new R' h1 h2 h3
    exact hq _ H' _ R2 (sF.trans s2) sH ⟨a, vs, ds, e1, e2, upd_same, s2.rqs h4⟩⟩
theorem de_A (h : DE X T H0 Γ e f k) (hk : k = .q .L ∨ k = .q .U ∨ k = .q .A := by first | exact .inl rfl | exact .inr (.inl rfl) | exact .inr (.inr rfl)) : DE X T H0 Γ e (eA f) (.q q) :=
  PE.wk h fun σ H Q ⟨F, O, ρ, d, R, hf, hq⟩ => by
    unfold eA at hf
    cases h1 : f ρ with
    | none => rw [h1] at hf; cases hf
    | some d' =>
      rw [h1] at hf
      simp only [Option.bind_some] at hf
      split at hf
      · rename_i hl
        cases hf
        refine ⟨F, O, ρ, _, R, h1, fun F' H' v R' sF sH r => hq F' H' v R' sF sH ?_⟩
        rcases hk with rfl | rfl | rfl <;> exact RepG.lf r hl
      · cases hf

theorem bin_sem {K : PySem.W.Frag} {r : R2} {g : D → D → Option D} (hp : ka.pers = true)
    (hr : ∀ F O σ H ρ v u x y d Q, Rl K T H0 Γ F O σ H ρ → Rp K T H0 F H O ka v x → Rp K T H0 F H O kb u y → g x y = some d → (∀ F' H' w, Rl K T H0 Γ F' O σ H' ρ → Same F F' → Sm H H' → Rp K T H0 F' H' O k w d → Q w H') → r v u H Q) :
    ∀ σ H Q, tD K T H0 Γ (e2 g fa fb) k σ H Q → tOp r (tD K T H0 Γ fa ka) (tD K T H0 Γ fb kb) σ H Q := by
  rintro σ H Q ⟨F, O, ρ, d, R, hf, hq⟩
  unfold e2 at hf
  cases h1 : fa ρ with
  | none => rw [h1] at hf; cases hf
  | some x =>
    rw [h1] at hf
    simp only [Option.bind_some] at hf
    cases h2 : fb ρ with
    | none => rw [h2] at hf; cases hf
    | some y =>
      rw [h2] at hf
      simp only [Option.bind_some] at hf
      refine ⟨F, O, ρ, x, R, h1, fun F1 H1 v R1 s1 t1 r1 => ⟨F1, O, ρ, y, R1, h2, fun F2 H2 u R2 s2 t2 r2 => ?_⟩⟩
      exact hr F2 O σ H2 ρ v u x y d Q R2 (r1.pers hp s2 t2) r2 hf fun F' H' w R' s' t' rw => hq F' H' w R' ((s1.trans s2).trans s') ((t1.trans t2).trans t') rw
theorem Rp.int {K : PySem.W.Frag} {F H : Hp} {O : Own} {v : V} {i : Int} (h : Rp K T H0 F H O k v (.int i)) : v = .int i := by
  cases k with
  | q p => cases h; rfl
  | B => cases h; rfl
  | bl p => obtain ⟨_, _, _, _, e, _⟩ := h; cases e
  | fl p => obtain ⟨_, _, _, _, e, _⟩ := h; cases e
  | ol p => obtain ⟨_, _, _, _, e, _⟩ := h; cases e
theorem Rp.bl {K : PySem.W.Frag} {F H : Hp} {O : Own} {v : V} {i : Bool} (h : Rp K T H0 F H O k v (.bl i)) : v = .bl i := by
  cases k with
  | q p => cases h; rfl
  | B => cases h; rfl
  | bl p => obtain ⟨_, _, _, _, e, _⟩ := h; cases e
  | fl p => obtain ⟨_, _, _, _, e, _⟩ := h; cases e
  | ol p => obtain ⟨_, _, _, _, e, _⟩ := h; cases e
theorem Rp.str {K : PySem.W.Frag} {F H : Hp} {O : Own} {v : V} {i : Str} (h : Rp K T H0 F H O k v (.str i)) : v = .str i := by
  cases k with
  | q p => cases h; rfl
  | B => cases h; rfl
  | bl p => obtain ⟨_, _, _, _, e, _⟩ := h; cases e
  | fl p => obtain ⟨_, _, _, _, e, _⟩ := h; cases e
  | ol p => obtain ⟨_, _, _, _, e, _⟩ := h; cases e
theorem i2_some {g : Int → Int → Option D} {x y d : D} (h : i2 g x y = some d) : ∃ i j, x = .int i ∧ y = .int j ∧ g i j = some d := by
  unfold i2 at h
  split at h
  · exact ⟨_, _, rfl, rfl, h⟩
  · cases h
theorem opI_sem {K : PySem.W.Frag} {r : R2} {g : Int → Int → Option D} (hp : ka.pers = true) (hr : ∀ i j d, g i j = some d → ∃ w, atomV d = some w ∧ ∀ H Q, Q w H → r (.int i) (.int j) H Q) :
    ∀ σ H Q, tD K T H0 Γ (e2 (i2 g) fa fb) (.q q) σ H Q → tOp r (tD K T H0 Γ fa ka) (tD K T H0 Γ fb kb) σ H Q :=
  bin_sem hp fun F O σ H ρ v u x y d Q R rv ru hg hq => by
    obtain ⟨i, j, rfl, rfl, hg⟩ := i2_some hg
    obtain ⟨w, hw, hr⟩ := hr i j d hg
    rw [rv.int, ru.int]
    exact hr H Q (hq F H w R (.refl _) (.refl _) (atom_rep hw))
theorem de_opI {op : Operator} {r : R2} {g : Int → Int → Option D} (ho : OpR X (binaryOp op) r) (ha : DE X T H0 Γ a fa ka) (hb : DE X T H0 Γ b fb kb) (hr : ∀ i j d, g i j = some d → ∃ w, atomV d = some w ∧ ∀ H Q, Q w H → r (.int i) (.int j) H Q) (hp : ka.pers = true := by rfl) :
    DE X T H0 Γ (.BinOp a op b pos) (e2 (i2 g) fa fb) (.q q) := PE.wk (pe_op ho ha hb) (opI_sem hp hr)
theorem de_add (ha : DE X T H0 Γ a fa ka) (hb : DE X T H0 Γ b fb kb) (hp : ka.pers = true := by rfl) : DE X T H0 Γ (.BinOp a .Add b pos) (e2 gAdd fa fb) (.q q) :=
  de_opI op_add ha hb (fun i j d h => by cases h; exact ⟨_, rfl, fun H Q z => ⟨i, j, rfl, rfl, z⟩⟩) hp
theorem de_sub (ha : DE X T H0 Γ a fa ka) (hb : DE X T H0 Γ b fb kb) (hp : ka.pers = true := by rfl) : DE X T H0 Γ (.BinOp a .Sub b pos) (e2 gSbI fa fb) (.q q) :=
  de_opI op_sub ha hb (fun i j d h => by cases h; exact ⟨_, rfl, fun H Q z => ⟨i, j, rfl, rfl, z⟩⟩) hp
theorem de_mul (ha : DE X T H0 Γ a fa ka) (hb : DE X T H0 Γ b fb kb) (hp : ka.pers = true := by rfl) : DE X T H0 Γ (.BinOp a .Mult b pos) (e2 gMul fa fb) (.q q) :=
  de_opI (OpR.or op_mul op_mulW) ha hb (fun i j d h => by
    split at h
    · rename_i c
      cases h
      refine ⟨_, rfl, fun H Q z => ?_⟩
      rcases mulOk_C c with c | c
      · exact .inl ⟨i, j, rfl, rfl, c, z⟩
      · exact .inr ⟨i, j, rfl, rfl, c, z⟩
    · cases h) hp
theorem de_div (ha : DE X T H0 Γ a fa ka) (hb : DE X T H0 Γ b fb kb) (hp : ka.pers = true := by rfl) : DE X T H0 Γ (.BinOp a .FloorDiv b pos) (e2 gDiv fa fb) (.q q) :=
  de_opI op_fdivW ha hb (fun i j d h => by
    split at h
    · rename_i c
      cases h
      exact ⟨_, rfl, fun H Q z => ⟨i, j, rfl, rfl, c, z⟩⟩
    · cases h) hp
theorem de_mod (ha : DE X T H0 Γ a fa ka) (hb : DE X T H0 Γ b fb kb) (hp : ka.pers = true := by rfl) : DE X T H0 Γ (.BinOp a .Mod b pos) (e2 gMod fa fb) (.q q) :=
  de_opI op_mod ha hb (fun i j d h => by
    split at h
    · rename_i c
      cases h
      exact ⟨_, rfl, fun H Q z => ⟨i, j, rfl, rfl, c, z⟩⟩
    · cases h) hp
theorem de_pow (ha : DE X T H0 Γ a fa ka) (hb : DE X T H0 Γ b fb kb) (hp : ka.pers = true := by rfl) : DE X T H0 Γ (.BinOp a .Pow b pos) (e2 gPow fa fb) (.q q) :=
  de_opI op_pow ha hb (fun i j d h => by
    split at h
    · rename_i c
      cases h
      have h1 := small_lt c.2.1
      rw [show (2 : Nat) ^ 10 = 1024 from by decide] at h1
      exact ⟨_, rfl, fun H Q z => ⟨i, j, rfl, rfl, ⟨c.1, by omega, small_lt c.2.2⟩, z⟩⟩
    · cases h) hp
theorem de_and (ha : DE X T H0 Γ a fa ka) (hb : DE X T H0 Γ b fb kb) (hp : ka.pers = true := by rfl) : DE X T H0 Γ (.BinOp a .BitAnd b pos) (e2 gAnd fa fb) (.q q) :=
  de_opI op_and ha hb (fun i j d h => by cases h; exact ⟨_, rfl, fun H Q z => ⟨i, j, rfl, rfl, z⟩⟩) hp
theorem de_or (ha : DE X T H0 Γ a fa ka) (hb : DE X T H0 Γ b fb kb) (hp : ka.pers = true := by rfl) : DE X T H0 Γ (.BinOp a .BitOr b pos) (e2 gOr fa fb) (.q q) :=
  de_opI op_or ha hb (fun i j d h => by cases h; exact ⟨_, rfl, fun H Q z => ⟨i, j, rfl, rfl, z⟩⟩) hp
theorem de_xor (ha : DE X T H0 Γ a fa ka) (hb : DE X T H0 Γ b fb kb) (hp : ka.pers = true := by rfl) : DE X T H0 Γ (.BinOp a .BitXor b pos) (e2 gXor fa fb) (.q q) :=
  de_opI op_xor ha hb (fun i j d h => by cases h; exact ⟨_, rfl, fun H Q z => ⟨i, j, rfl, rfl, z⟩⟩) hp
theorem un_sem {K : PySem.W.Frag} {r : V → Hp → VK → Prop} {g : D → Option D}
    (hr : ∀ F O σ H ρ v x d Q, Rl K T H0 Γ F O σ H ρ → Rp K T H0 F H O ka v x → g x = some d → (∀ F' H' w, Rl K T H0 Γ F' O σ H' ρ → Same F F' → Sm H H' → Rp K T H0 F' H' O k w d → Q w H') → r v H Q) :
    ∀ σ H Q, tD K T H0 Γ (e1 g fa) k σ H Q → tUn r (tD K T H0 Γ fa ka) σ H Q := by
  rintro σ H Q ⟨F, O, ρ, d, R, hf, hq⟩
  unfold e1 at hf
  cases h1 : fa ρ with
  | none => rw [h1] at hf; cases hf
  | some x =>
    rw [h1] at hf
    simp only [Option.bind_some] at hf
    refine ⟨F, O, ρ, x, R, h1, fun F1 H1 v R1 s1 t1 r1 => ?_⟩
    exact hr F1 O σ H1 ρ v x d Q R1 r1 hf fun F' H' w R' s' t' rw => hq F' H' w R' (s1.trans s') (t1.trans t') rw
theorem de_neg (ha : DE X T H0 Γ a fa ka) : DE X T H0 Γ (.UnaryOp .USub a pos) (e1 gNeg fa) (.q q) :=
  PE.wk (pe_un un_neg ha) (un_sem fun F O σ H ρ v x d Q R rv hg hq => by
    unfold gNeg i1 at hg
    split at hg
    · rename_i i
      cases hg
      rw [rv.int]
      exact ⟨i, rfl, hq F H _ R (.refl _) (.refl _) (RepG.int _)⟩
    · cases hg)

theorem dec_int' {i j : Int} : decide (V.int i = V.int j) = decide (i = j) := decide_eq_decide.mpr ⟨fun h => V.int.inj h, fun h => by rw [h]⟩
theorem dec_bl' {i j : Bool} : decide (V.bl i = V.bl j) = decide (i = j) := decide_eq_decide.mpr ⟨fun h => V.bl.inj h, fun h => by rw [h]⟩
theorem dec_str' {i j : Str} : decide (V.str i = V.str j) = decide (i = j) := decide_eq_decide.mpr ⟨fun h => V.str.inj h, fun h => by rw [h]⟩
theorem de_cmp {op : CmpOp} {r : R2} {g : D → D → Option D} (ho : OpR X (compareOp op) r) (ha : DE X T H0 Γ a fa ka) (hb : DE X T H0 Γ b fb kb) (hm : behindInMarks op b = false)
    (hs : ∀ σ H Q, tD X.K T H0 Γ (e2 g fa fb) (.q q) σ H Q → tOp r (tD X.K T H0 Γ fa ka) (tD X.K T H0 Γ fb kb) σ H Q) : DE X T H0 Γ (.Compare a [op] [b] pos) (e2 g fa fb) (.q q) := PE.wk (pe_cmpR ho ha hb hm) hs
theorem dt_cmp {op : CmpOp} {r : R2} {g : D → D → Option D} (ho : OpR X (compareOp op) r) (ha : DE X T H0 Γ a fa ka) (hb : DE X T H0 Γ b fb kb) (hm : behindInMarks op b = false)
    (hs : ∀ σ H Q, tD X.K T H0 Γ (e2 g fa fb) (.q .A) σ H Q → tOp r (tD X.K T H0 Γ fa ka) (tD X.K T H0 Γ fb kb) σ H Q) : DT X T H0 Γ (.Compare a [op] [b] pos) (t2b (e2 g fa fb)) :=
  PT.wk (pt_cmpR ho ha hb hm) fun σ H Q ⟨F, O, ρ, d, R, hf, hq⟩ => by
    unfold t2b at hf
    cases h1 : e2 g fa fb ρ with
    | none => rw [h1] at hf; cases hf
    | some x =>
      rw [h1] at hf
      simp only [Option.bind_some] at hf
      split at hf
      · cases hf
        exact hs σ H _ ⟨F, O, ρ, _, R, h1, fun F' H' v R' s t r => ⟨_, Rp.bl r, hq F' H' R' s t⟩⟩
      · cases hf
theorem cs_lt {K : PySem.W.Frag} (hp : ka.pers = true) : ∀ σ H Q, tD K T H0 Γ (e2 gLt fa fb) (.q q) σ H Q → tOp (rI0 fun i j => .bl (decide (i < j))) (tD K T H0 Γ fa ka) (tD K T H0 Γ fb kb) σ H Q := opI_sem hp fun i j d h => by cases h; exact ⟨_, rfl, fun H Q z => ⟨i, j, rfl, rfl, z⟩⟩
theorem cs_gt {K : PySem.W.Frag} (hp : ka.pers = true) : ∀ σ H Q, tD K T H0 Γ (e2 gGt fa fb) (.q q) σ H Q → tOp (rI0 fun i j => .bl (decide (j < i))) (tD K T H0 Γ fa ka) (tD K T H0 Γ fb kb) σ H Q := opI_sem hp fun i j d h => by cases h; exact ⟨_, rfl, fun H Q z => ⟨i, j, rfl, rfl, z⟩⟩
theorem cs_ge {K : PySem.W.Frag} (hp : ka.pers = true) : ∀ σ H Q, tD K T H0 Γ (e2 gGe fa fb) (.q q) σ H Q → tOp (rI0 fun i j => .bl (decide (j ≤ i))) (tD K T H0 Γ fa ka) (tD K T H0 Γ fb kb) σ H Q := opI_sem hp fun i j d h => by cases h; exact ⟨_, rfl, fun H Q z => ⟨i, j, rfl, rfl, z⟩⟩
theorem cs_eqS {K : PySem.W.Frag} (hp : ka.pers = true) : ∀ σ H Q, tD K T H0 Γ (e2 gEqS fa fb) (.q q) σ H Q → tOp rEq (tD K T H0 Γ fa ka) (tD K T H0 Γ fb kb) σ H Q := bin_sem hp fun F O σ H ρ v u x y d Q R rv ru hg hq => by
  unfold gEqS at hg
  split at hg
  · cases hg
    rw [rv.int, ru.int]
    exact ⟨rfl, by rw [dec_int']; exact hq F H _ R (.refl _) (.refl _) (RepG.bl _)⟩
  · cases hg
    rw [rv.bl, ru.bl]
    exact ⟨rfl, by rw [dec_bl']; exact hq F H _ R (.refl _) (.refl _) (RepG.bl _)⟩
  · cases hg
    rw [rv.str, ru.str]
    exact ⟨rfl, by rw [dec_str']; exact hq F H _ R (.refl _) (.refl _) (RepG.bl _)⟩
  · cases hg
theorem cs_neS {K : PySem.W.Frag} (hp : ka.pers = true) : ∀ σ H Q, tD K T H0 Γ (e2 gNeS fa fb) (.q q) σ H Q → tOp rNe (tD K T H0 Γ fa ka) (tD K T H0 Γ fb kb) σ H Q := bin_sem hp fun F O σ H ρ v u x y d Q R rv ru hg hq => by
  unfold gNeS at hg
  split at hg
  · cases hg
    rw [rv.int, ru.int]
    exact ⟨rfl, by rw [dec_int']; exact hq F H _ R (.refl _) (.refl _) (RepG.bl _)⟩
  · cases hg
    rw [rv.bl, ru.bl]
    exact ⟨rfl, by rw [dec_bl']; exact hq F H _ R (.refl _) (.refl _) (RepG.bl _)⟩
  · cases hg
    rw [rv.str, ru.str]
    exact ⟨rfl, by rw [dec_str']; exact hq F H _ R (.refl _) (.refl _) (RepG.bl _)⟩
  · cases hg

theorem dt_val (ha : DE X T H0 Γ e f k) (he : ∀ whole, isTrue e X.env whole = (do let v ← whole; standAt e.pos; holding [v] (truthy v)) := by intro _; rfl) : DT X T H0 Γ e (t2b f) :=
  PT.wk (pt_val ha he) fun σ H Q ⟨F, O, ρ, d, R, hf, hq⟩ => by
    unfold t2b at hf
    cases h1 : f ρ with
    | none => rw [h1] at hf; cases hf
    | some x =>
      rw [h1] at hf
      simp only [Option.bind_some] at hf
      split at hf
      · cases hf
        exact ⟨F, O, ρ, _, R, h1, fun F' H' v R' s t r => ⟨_, Rp.bl r, hq F' H' R' s t⟩⟩
      · cases hf
variable {ta tb tc : List D → Option Bool} {rest : List Expr}
theorem dw_and1 (ha : DT X T H0 Γ a ta) : DW X T H0 Γ (.BoolOp .And [a] pos) ta := pw_and1 ha
theorem dw_or1 (ha : DT X T H0 Γ a ta) : DW X T H0 Γ (.BoolOp .Or [a] pos) ta := pw_or1 ha
theorem dw_and (ha : DT X T H0 Γ a ta) (hb : DW X T H0 Γ (.BoolOp .And (b :: rest) pos) tb) : DW X T H0 Γ (.BoolOp .And (a :: b :: rest) pos) (bAnd ta tb) :=
  PW.wk (pw_and ha hb) fun σ H Q ⟨F, O, ρ, d, R, hf, hq⟩ => by
    unfold bAnd at hf
    cases h1 : ta ρ with
    | none => rw [h1] at hf; cases hf
    | some x =>
      rw [h1] at hf
      simp only [Option.bind_some] at hf
      refine ⟨F, O, ρ, x, R, h1, fun F1 H1 R1 s1 t1 => ?_⟩
      cases x with
      | true => exact ⟨F1, O, ρ, d, R1, by simpa using hf, fun F2 H2 R2 s2 t2 => hq F2 H2 R2 (s1.trans s2) (t1.trans t2)⟩
      | false =>
        simp at hf
        subst hf
        exact hq F1 H1 R1 s1 t1
theorem dw_or (ha : DT X T H0 Γ a ta) (hb : DW X T H0 Γ (.BoolOp .Or (b :: rest) pos) tb) : DW X T H0 Γ (.BoolOp .Or (a :: b :: rest) pos) (bOr ta tb) :=
  PW.wk (pw_or ha hb) fun σ H Q ⟨F, O, ρ, d, R, hf, hq⟩ => by
    unfold bOr at hf
    cases h1 : ta ρ with
    | none => rw [h1] at hf; cases hf
    | some x =>
      rw [h1] at hf
      simp only [Option.bind_some] at hf
      refine ⟨F, O, ρ, x, R, h1, fun F1 H1 R1 s1 t1 => ?_⟩
      cases x with
      | false => exact ⟨F1, O, ρ, d, R1, by simpa using hf, fun F2 H2 R2 s2 t2 => hq F2 H2 R2 (s1.trans s2) (t1.trans t2)⟩
      | true =>
        simp at hf
        subst hf
        exact hq F1 H1 R1 s1 t1
theorem dt_not (ha : DT X T H0 Γ a ta) : DT X T H0 Γ (.UnaryOp .Not a pos) (bNot ta) :=
  PT.wk (pt_not ha) fun σ H Q ⟨F, O, ρ, d, R, hf, hq⟩ => by
    unfold bNot at hf
    cases h1 : ta ρ with
    | none => rw [h1] at hf; cases hf
    | some x =>
      rw [h1] at hf
      simp only [Option.bind_some] at hf
      cases hf
      exact ⟨F, O, ρ, x, R, h1, fun F1 H1 R1 s1 t1 => hq F1 H1 R1 s1 t1⟩
def eAnd (a b : EF) : EF := fun ρ => (a ρ).bind fun d => match d with | .bl c => if c = true then b ρ else some (.bl false) | _ => none
def eOr (a b : EF) : EF := fun ρ => (a ρ).bind fun d => match d with | .bl c => if c = true then some (.bl true) else b ρ | _ => none
def eNot (a : EF) : EF := fun ρ => (a ρ).bind fun d => match d with | .bl c => some (.bl (!c)) | _ => none
theorem de_if {c : Expr} (hc : DT X T H0 Γ c tc) (ha : DE X T H0 Γ a fa k) (hb : DE X T H0 Γ b fb k) : DE X T H0 Γ (.IfExp c a b pos) (eIf tc fa fb) k :=
  PE.wk (pe_ifExp hc ha hb) fun σ H Q ⟨F, O, ρ, d, R, hf, hq⟩ => by
    unfold eIf at hf
    cases h1 : tc ρ with
    | none => rw [h1] at hf; cases hf
    | some x =>
      rw [h1] at hf
      simp only [Option.bind_some] at hf
      refine ⟨F, O, ρ, x, R, h1, fun F1 H1 R1 s1 t1 => ?_⟩
      cases x with
      | true => exact ⟨F1, O, ρ, d, R1, by simpa using hf, fun F2 H2 v R2 s2 t2 r2 => hq F2 H2 v R2 (s1.trans s2) (t1.trans t2) r2⟩
      | false => exact ⟨F1, O, ρ, d, R1, by simpa using hf, fun F2 H2 v R2 s2 t2 r2 => hq F2 H2 v R2 (s1.trans s2) (t1.trans t2) r2⟩

variable {fs : List D → Option (List D)}
theorem da_nil : DA X T H0 Γ [] aNil := PA.wk pa_nil fun σ H Q ⟨F, O, ρ, ds, R, hf, hq⟩ => by cases hf; exact hq F H _ R (.refl _) (.refl _) .nil
theorem da_cons (ha : DE X T H0 Γ e f k) (hr : DA X T H0 Γ es fs) (hs : starEach (e :: es) X.env = (false, eval e X.env) :: starEach es X.env := by rfl) : DA X T H0 Γ (e :: es) (aCons f fs) :=
  PA.wk (pa_cons ha hr hs) fun σ H Q ⟨F, O, ρ, ds, R, hf, hq⟩ => by
    unfold aCons at hf
    cases h1 : f ρ with
    | none => rw [h1] at hf; cases hf
    | some x =>
      rw [h1] at hf
      simp only [Option.bind_some] at hf
      cases h2 : fs ρ with
      | none => rw [h2] at hf; cases hf
      | some xs =>
        rw [h2] at hf
        cases hf
        refine ⟨F, O, ρ, x, R, h1, fun F1 H1 v R1 s1 t1 r1 => ⟨F1, O, ρ, xs, R1, h2, fun F2 H2 vs R2 s2 t2 r2 => ?_⟩⟩
        exact hq F2 H2 _ R2 (s1.trans s2) (t1.trans t2) (.cons (t2.rU (R1.toB r1)) r2)
theorem dq_nil : DQ X T H0 Γ [] aNil q := PA.wk pa_nil fun σ H Q ⟨F, O, ρ, ds, R, hf, hq⟩ => by cases hf; exact hq F H _ R (.refl _) (.refl _) .nil
theorem dq_cons (ha : DE X T H0 Γ e f (.q q)) (hr : DQ X T H0 Γ es fs q) (hs : starEach (e :: es) X.env = (false, eval e X.env) :: starEach es X.env := by rfl) : DQ X T H0 Γ (e :: es) (aCons f fs) q :=
  PA.wk (pa_cons ha hr hs) fun σ H Q ⟨F, O, ρ, ds, R, hf, hq⟩ => by
    unfold aCons at hf
    cases h1 : f ρ with
    | none => rw [h1] at hf; cases hf
    | some x =>
      rw [h1] at hf
      simp only [Option.bind_some] at hf
      cases h2 : fs ρ with
      | none => rw [h2] at hf; cases hf
      | some xs =>
        rw [h2] at hf
        cases hf
        refine ⟨F, O, ρ, x, R, h1, fun F1 H1 v R1 s1 t1 r1 => ⟨F1, O, ρ, xs, R1, h2, fun F2 H2 vs R2 s2 t2 r2 => ?_⟩⟩
        exact hq F2 H2 _ R2 (s1.trans s2) (t1.trans t2) (.cons (s2.rq r1) r2)
def lenOk (ds : List D) : Prop := ds.length ≤ sizeLine
instance (ds : List D) : Decidable (lenOk ds) := by unfold lenOk; infer_instance
def eTup (fs : List D → Option (List D)) : EF := fun ρ => (fs ρ).bind fun ds => if ds.length ≤ 1000 then some (.tup ds) else none
def eLst (fs : List D → Option (List D)) : EF := fun ρ => (fs ρ).bind fun ds => if ds.length ≤ 1000 then some (.lst ds) else none
theorem de_tup {x1} (h : DQ X T H0 Γ es fs q) : DE X T H0 Γ (.Tuple es x1 pos) (eTup fs) (.q q) := PE.wk (pe_tup h) fun σ H Q ⟨F, O, ρ, d, R, hf, hq⟩ => by
  unfold eTup at hf
  cases h1 : fs ρ with
  | none => rw [h1] at hf; cases hf
  | some ds =>
    rw [h1] at hf
    simp only [Option.bind_some] at hf
    split at hf
    · rename_i hl
      cases hf
      refine ⟨F, O, ρ, ds, R, h1, fun F1 H1 vs R1 s1 t1 r1 => ⟨?_, fun p hp => ?_⟩⟩
      · rw [r1.length]; exact Nat.le_of_lt (small1000 hl)
      · obtain ⟨R2, s2, t2⟩ := R1.laid (o := .tup vs) hp
        exact hq _ _ _ R2 (s1.trans s2) (t1.trans t2) (.tup (.inl upd_same) (s2.rqs r1))
    · cases hf
theorem de_lst (h : DQ X T H0 Γ es fs q) : DE X T H0 Γ (.List es pos) (eLst fs) (.ol q) := PE.wk (pe_lst h) fun σ H Q ⟨F, O, ρ, d, R, hf, hq⟩ => by
  unfold eLst at hf
  cases h1 : fs ρ with
  | none => rw [h1] at hf; cases hf
  | some ds =>
    rw [h1] at hf
    simp only [Option.bind_some] at hf
    split at hf
    · rename_i hl
      cases hf
      refine ⟨F, O, ρ, ds, R, h1, fun F1 H1 vs R1 s1 t1 r1 => ⟨?_, fun p hp => ?_⟩⟩
      · rw [r1.length]; exact Nat.le_of_lt (small1000 hl)
      · obtain ⟨R2, t2⟩ := R1.junk (o := .lst vs) hp
        exact hq _ _ _ R2 s1 (t1.trans t2) ⟨p, vs, ds, rfl, rfl, upd_same, R1.fh.free hp, R1.notOwn hp, r1⟩
    · cases hf
end
end DL

namespace DL
open PySem PySem.Spec PyProof.Rows L2

inductive RK where
  | q (q : Q3) | ol (q : Q3) | od (S : Shp) | pl (z : Addr) | cu (z : Addr) (q p : Q3) (k : Nat)
deriving DecidableEq
def DictO (K : PySem.W.Frag) (T : Tb) (H0 F H : Hp) (a : Addr) (d : D) : Shp → Prop
  | .dic q => ∃ kvs ds, d = .dic (kvs.map (·.1)) ds ∧ H a = some (.dK kvs) ∧ Rqs K T H0 q F (kvs.map (·.2)) ds
  | .dit q => ∃ kvs ds, d = .dit (kvs.map (·.1)) ds ∧ H a = some (.dT kvs) ∧ Rqs K T H0 q F (kvs.map (·.2)) ds
  | .tbl q => ∃ (o : Addr → Prop) (rows : List Addr) (rds : List (List D)), (∀ b, o b → F b = none ∧ ∃ u, H b = some u ∧ isMut u = true) ∧ d = .lst (rds.map .lst) ∧ H a = some (.lst (rows.map .ref)) ∧ o a ∧ rows.Nodup ∧ a ∉ rows ∧ RowsR K T H0 q F H o rows rds
  | .cus q k => ∃ (o : Addr → Prop) (ws : List V) (ds : List D), (∀ b, o b → F b = none ∧ ∃ u, H b = some u ∧ isMut u = true) ∧ (T.cu k).r 0 H o (.ref a) d ws ds ∧ Rqs K T H0 q F ws ds
  | .clo k => k = 1000 ∧ T.z = true ∧ ∃ o vs ds, d = .tup ds ∧ H a = some (.frz o (.tup vs)) ∧ o.dict = none ∧ Rqs K T H0 .A F vs ds
  | _ => False
inductive Out where
  | nx (ρ : List D) | bk (ρ : List D) | ct (ρ : List D) | rt (d : D) | ex (c : Nat) (es : List D) (ρ : List D)
abbrev SF := List D → Option Out
structure Jm where
  b : List Mode
  c : List Mode
  r : RK
  x : List Mode
  w : WX
abbrev jm (r : RK) : Jm := ⟨[], [], r, [], fun _ _ _ _ => False⟩
def ExR (K : PySem.W.Frag) (T : Tb) (F : Hp) (cls : Value) (od : Option Addr) (c : Nat) (es : List D) : Prop :=
  cls = .ref (T c).1 ∧ ∃ fs, XdAt F od fs ∧ fs.map (·.1) = (T c).2 ∧ RepsG K T (fun _ => False) F (fs.map (·.2)) es
theorem ExR.mono {K : PySem.W.Frag} {T : Tb} {F F' : Hp} {cls : Value} {od : Option Addr} {c : Nat} {es : List D} (s : Same F F') (h : ExR K T F cls od c es) : ExR K T F' cls od c es := by
  obtain ⟨h1, fs, h2, h3, h4⟩ := h
  exact ⟨h1, fs, h2.monoS s.sm, h3, h4.mono s fun _ h => h⟩
def RetOk (K : PySem.W.Frag) (T : Tb) (H0 H' : Hp) : RK → V → D → Prop
  | .q q, v, d => ∃ F, Same H0 F ∧ Same F H' ∧ (NoT F ∧ LamX.Tabs T.t H') ∧ Rq K T H0 q F v d
  | .ol q, v, d => ∃ F a vs ds, v = .ref a ∧ d = .lst ds ∧ Same H0 F ∧ Same F H' ∧ (NoT F ∧ LamX.Tabs T.t H') ∧ H' a = some (.lst vs) ∧ F a = none ∧ Rqs K T H0 q F vs ds
  | .pl z, v, d => ∃ F a vs ds, v = .ref a ∧ d = .lst ds ∧ Same H0 F ∧ Same F H' ∧ (NoT F ∧ LamX.Tabs T.t H') ∧ H' a = some (.lst vs) ∧ (F a = none ∨ a = z) ∧ Rqs K T H0 .A F vs ds
  | .cu z q p k, v, d => ∃ (F : Hp) (o : Addr → Prop) (res dd : D) (ws : List V) (ds : List D), d = .tup [res, dd] ∧ Same H0 F ∧ Same F H' ∧ (NoT F ∧ LamX.Tabs T.t H') ∧ (∀ b, o b → F b = none ∧ ∃ u, H' b = some u ∧ isMut u = true) ∧ (T.cu k).r z H' o (.ref z) dd ws ds ∧ Rqs K T H0 p F ws ds ∧ Rq K T H0 q F v res
  | .od S, v, d => ∃ F a, v = .ref a ∧ Same H0 F ∧ Same F H' ∧ (NoT F ∧ LamX.Tabs T.t H') ∧ F a = none ∧ DictO K T H0 F H' a d S
def Fin (K : PySem.W.Frag) (T : Tb) (H0 : HZ) (F : Hp) (Γn : List Mode) (J : Jm) (E : Ends) : Out → Prop
  | .nx ρ' => ∀ F' O' σ' H', Same F F' → Rl K T H0 Γn F' O' σ' H' ρ' → E.nx σ' H'
  | .bk ρ' => ∀ F' O' σ' H', Same F F' → Rl K T H0 J.b F' O' σ' H' ρ' → E.bk σ' H'
  | .ct ρ' => ∀ F' O' σ' H', Same F F' → Rl K T H0 J.c F' O' σ' H' ρ' → E.ct σ' H'
  | .rt d => ∀ H' v, RetOk K T H0 H' J.r v d → E.rt v H'
  | .ex c es ρ' => ∀ F' O' σ' H' cls od, Same F F' → Rl K T H0 J.x F' O' σ' H' ρ' → ExR K T F' cls od c es → J.w cls od σ' H'
def tDS (K : PySem.W.Frag) (T : Tb) (H0 : HZ) (Γ : List Mode) (f : SF) (Γn : List Mode) (J : Jm) : TS := fun E σ H =>
  ∃ F O ρ out, Rl K T H0 Γ F O σ H ρ ∧ f ρ = some out ∧ Fin K T H0 F Γn J E out
abbrev DS (X : Cx) (T : Tb) (H0 : HZ) (Γ : List Mode) (st : Stmt) (f : SF) (Γn : List Mode) (J : Jm) : Prop := PS X st (tDS X.K T H0 Γ f Γn J)
abbrev DSs (X : Cx) (T : Tb) (H0 : HZ) (Γ : List Mode) (sts : List Stmt) (f : SF) (Γn : List Mode) (J : Jm) : Prop := PSs X sts (tDS X.K T H0 Γ f Γn J)

section
variable {K : PySem.W.Frag} {T : Tb} {H0 : HZ} {F F' H H' : Hp} {O O' : Own} {σ : L2.St} {ρ : List D} {Γ Γ' : List Mode} {q : Q3}
theorem Rl.setM (R : Rl K T H0 Γ F O σ H ρ) {i : Nat} {v : V} {d : D} {m : Mode} (hi : i < Γ.length) (hm : SlotR K T H0 F H (fun _ => False) (some (some v)) (some d) m) : Rl K T H0 (Γ.set i m) F O (σ.set i (some v)) H (ρ.set i d) := by
  refine ⟨R.h0, R.fh, R.on, R.od, by simp [R.ls], by simp [R.lr], fun j mj hj => ?_, R.nF, R.tb⟩
  by_cases hji : j = i
  · subst hji
    rw [List.getElem?_set_self hi] at hj
    cases hj
    rw [List.getElem?_set_self (by rw [R.ls]; exact hi), List.getElem?_set_self (by rw [R.lr]; exact hi)]
    cases m with
    | no => trivial
    | fz k => exact hm
    | fl k => exact hm
    | ow k => obtain ⟨a, vs, ds, h1, h2, h3, h4, h5⟩ := hm; exact h4.elim
    | os S =>
      obtain ⟨v, d, h1, h2, h3⟩ := hm
      exact ⟨v, d, h1, h2, h3.move (.refl _) (fun _ _ => rfl) fun _ h => h.elim⟩
  · rw [List.getElem?_set_ne (Ne.symm hji)] at hj
    rw [List.getElem?_set_ne (Ne.symm hji), List.getElem?_set_ne (Ne.symm hji)]
    exact R.sl j mj hj
theorem Rl.setq (R : Rl K T H0 Γ F O σ H ρ) {i : Nat} {v : V} {d : D} (hi : i < Γ.length) (r : Rq K T H0 q F v d) : Rl K T H0 (Γ.set i (.fz q)) F O (σ.set i (some v)) H (ρ.set i d) := R.setM hi ⟨v, d, rfl, rfl, r⟩
def resv (O : Own) (i : Nat) (a : Addr) : Own := fun j b => O j b ∨ (j = i ∧ b = a)
theorem Rl.res (R : Rl K T H0 Γ F O σ H ρ) {i : Nat} {a : Addr} {o : HO} (ha : H a = some o) (hm : isMut o = true) (hF : F a = none) (hO : ∀ j, ¬ O j a) : Rl K T H0 Γ F (resv O i a) σ H ρ := by
  refine ⟨R.h0, R.fh, fun j b h => ?_, fun j k b h1 h2 => ?_, R.ls, R.lr, fun j m hj => ?_, R.nF, R.tb⟩
  · rcases h with h | ⟨_, h⟩
    · exact R.on j b h
    · subst h; exact ⟨hF, o, ha, hm⟩
  · rcases h1 with h1 | ⟨e1, h1⟩ <;> rcases h2 with h2 | ⟨e2, h2⟩
    · exact R.od j k b h1 h2
    · subst h2; exact (hO j h1).elim
    · subst h1; exact (hO k h2).elim
    · rw [e1, e2]
  · have s := R.sl j m hj
    cases m with
    | no => trivial
    | fz k => exact s
    | fl k => exact s
    | ow k =>
      obtain ⟨b, us, es, h1, h2, h3, h4, h5⟩ := s
      exact ⟨b, us, es, h1, h2, h3, .inl h4, h5⟩
    | os S =>
      obtain ⟨v, d, h1, h2, h3⟩ := s
      exact ⟨v, d, h1, h2, h3.move (.refl _) (fun _ _ => rfl) fun _ h => .inl h⟩
theorem Rl.unres {a : Addr} (R : Rl K T H0 Γ F (resv O Γ.length a) σ H ρ) : Rl K T H0 Γ F O σ H ρ := by
  refine ⟨R.h0, R.fh, fun j b h => R.on j b (.inl h), fun j k b h1 h2 => R.od j k b (.inl h1) (.inl h2), R.ls, R.lr, fun j m hj => ?_, R.nF, R.tb⟩
  have s := R.sl j m hj
  cases m with
  | no => trivial
  | fz k => exact s
  | fl k => exact s
  | ow k =>
    obtain ⟨b, us, es, h1, h2, h3, h4, h5⟩ := s
    refine ⟨b, us, es, h1, h2, h3, ?_, h5⟩
    rcases h4 with h4 | ⟨h4, _⟩
    · exact h4
    · have := (List.getElem?_eq_some_iff.mp hj).1
      omega
  | os S =>
    obtain ⟨v, d, h1, h2, h3⟩ := s
    refine ⟨v, d, h1, h2, h3.move (.refl _) (fun _ _ => rfl) fun b h4 => ?_⟩
    rcases h4 with h4 | ⟨h4, _⟩
    · exact h4
    · have := (List.getElem?_eq_some_iff.mp hj).1
      omega
theorem Rl.upRes {a : Addr} {o : HO} (R : Rl K T H0 Γ F (resv O Γ.length a) σ H ρ) (hm : isMut o = true) : Rl K T H0 Γ F (resv O Γ.length a) σ (upd H a o) ρ := by
  have fa : F a = none := (R.on Γ.length a (.inr ⟨rfl, rfl⟩)).1
  have TB : LamX.Tabs T.t (upd H a o) := by
    obtain ⟨_, u, h1, h2⟩ := R.on Γ.length a (.inr ⟨rfl, rfl⟩)
    exact tabs_up R.tb h1 h2
  refine ⟨R.h0, fun b u e => ?_, fun j b h => ⟨(R.on j b h).1, ?_⟩, R.od, R.ls, R.lr, fun j m hj => ?_, R.nF, TB⟩
  · rw [upd_ne (ne_of_none e fa)]; exact R.fh _ _ e
  · obtain ⟨_, u, h1, h2⟩ := R.on j b h
    by_cases hb : b = a
    · subst hb; exact ⟨o, upd_same, hm⟩
    · exact ⟨u, by rw [upd_ne hb]; exact h1, h2⟩
  · have s := R.sl j m hj
    cases m with
    | no => trivial
    | fz k => exact s
    | fl k => exact s
    | ow k =>
      obtain ⟨b, us, es, h1, h2, h3, h4, h5⟩ := s
      refine ⟨b, us, es, h1, h2, ?_, h4, h5⟩
      have hj2 := (List.getElem?_eq_some_iff.mp hj).1
      rw [upd_ne (fun z => by
        subst z
        have := R.od _ _ _ h4 (.inr ⟨rfl, rfl⟩)
        omega)]
      exact h3
    | os S =>
      obtain ⟨v, d, h1, h2, h3⟩ := s
      have hj2 := (List.getElem?_eq_some_iff.mp hj).1
      refine ⟨v, d, h1, h2, h3.move (.refl _) (fun b hb => ?_) fun _ h => h⟩
      rw [upd_ne (fun z => by
        subst z
        have := R.od _ _ _ hb (.inr ⟨rfl, rfl⟩)
        omega)]
theorem Rl.seto (R : Rl K T H0 Γ F O σ H ρ) {i : Nat} {a : Addr} {vs : List V} {ds : List D} (hi : i < Γ.length) (ha : H a = some (.lst vs)) (hF : F a = none) (hO : ∀ j, ¬ O j a) (r : Rqs K T H0 q F vs ds) :
    Rl K T H0 (Γ.set i (.ow q)) F (resv O i a) (σ.set i (some (.ref a))) H (ρ.set i (.lst ds)) := by
  have R2 := R.res (i := i) ha rfl hF hO
  refine ⟨R2.h0, R2.fh, R2.on, R2.od, by simp [R.ls], by simp [R.lr], fun j mj hj => ?_, R2.nF, R2.tb⟩
  by_cases hji : j = i
  · subst hji
    rw [List.getElem?_set_self hi] at hj
    cases hj
    rw [List.getElem?_set_self (by rw [R.ls]; exact hi), List.getElem?_set_self (by rw [R.lr]; exact hi)]
    exact ⟨a, vs, ds, rfl, rfl, ha, .inr ⟨rfl, rfl⟩, r⟩
  · rw [List.getElem?_set_ne (Ne.symm hji)] at hj
    rw [List.getElem?_set_ne (Ne.symm hji), List.getElem?_set_ne (Ne.symm hji)]
    exact R2.sl j mj hj
theorem Rl.upo {p : Q3} (R : Rl K T H0 Γ F O σ H ρ) {i : Nat} {a : Addr} {vs us : List V} {ds : List D} (hm : Γ[i]? = some (.ow p)) (hs : σ[i]? = some (some (.ref a))) (ha : H a = some (.lst vs)) (hO : O i a) (r : Rqs K T H0 q F us ds) :
    Rl K T H0 (Γ.set i (.ow q)) F O σ (upd H a (.lst us)) (ρ.set i (.lst ds)) := by
  have hi : i < Γ.length := (List.getElem?_eq_some_iff.mp hm).1
  have fa := (R.on i a hO).1
  have TB : LamX.Tabs T.t (upd H a (.lst us)) := tabs_up R.tb ha rfl
  refine ⟨R.h0, fun b o e => ?_, fun j b h => ⟨(R.on j b h).1, ?_⟩, R.od, by simp [R.ls], by simp [R.lr], fun j mj hj => ?_, R.nF, TB⟩
  · rw [upd_ne (ne_of_none e fa)]; exact R.fh _ _ e
  · obtain ⟨_, o, h1, h2⟩ := R.on j b h
    by_cases hb : b = a
    · subst hb; exact ⟨_, upd_same, rfl⟩
    · exact ⟨o, by rw [upd_ne hb]; exact h1, h2⟩
  · by_cases hji : j = i
    · subst hji
      rw [List.getElem?_set_self hi] at hj
      cases hj
      rw [List.getElem?_set_self (by rw [R.lr]; exact hi)]
      exact ⟨a, us, ds, hs, rfl, upd_same, hO, r⟩
    · rw [List.getElem?_set_ne (Ne.symm hji)] at hj
      rw [List.getElem?_set_ne (Ne.symm hji)]
      have s := R.sl j mj hj
      cases mj with
      | no => trivial
      | fz k => exact s
      | fl k => exact s
      | ow k =>
        obtain ⟨b, ws, es, h1, h2, h3, h4, h5⟩ := s
        refine ⟨b, ws, es, h1, h2, ?_, h4, h5⟩
        rw [upd_ne (fun z => by subst z; exact hji (R.od _ _ _ h4 hO))]
        exact h3
      | os S =>
        obtain ⟨v, d, h1, h2, h3⟩ := s
        refine ⟨v, d, h1, h2, h3.move (.refl _) (fun b hb => ?_) fun _ h => h⟩
        rw [upd_ne (fun z => by subst z; exact hji (R.od _ _ _ hb hO))]
end

def sNil : SF := fun ρ => some (.nx ρ)
def sSeq (f g : SF) : SF := fun ρ => (f ρ).bind fun o => match o with
  | .nx ρ' => g ρ'
  | o => some o
def sRet (f : EF) : SF := fun ρ => (f ρ).bind fun d => some (.rt d)
def sSet (i : Nat) (f : EF) : SF := fun ρ => (f ρ).bind fun d => some (.nx (ρ.set i d))
def sIf (t : List D → Option Bool) (f g : SF) : SF := fun ρ => (t ρ).bind fun c => if c = true then f ρ else g ρ
def sDrop (f : EF) : SF := fun ρ => (f ρ).bind fun _ => some (.nx ρ)
section
variable {X : Cx} {T : Tb} {H0 : HZ} {Γ Γ1 Γn Γm : List Mode} {J : Jm} {e a b : Expr} {es : List Expr} {st : Stmt} {sts : List Stmt} {f g : SF} {fe fa fb : EF} {k ka kb : Knd} {pos : Pos} {q p : Q3}
theorem Fin.from {K : PySem.W.Frag} {F F' : Hp} {E : Ends} {o : Out} (s : Same F F') (h : Fin K T H0 F Γn J E o) : Fin K T H0 F' Γn J E o := by
  cases o with
  | nx ρ => exact fun F2 O2 σ2 H2 s2 R => h F2 O2 σ2 H2 (s.trans s2) R
  | bk ρ => exact fun F2 O2 σ2 H2 s2 R => h F2 O2 σ2 H2 (s.trans s2) R
  | ct ρ => exact fun F2 O2 σ2 H2 s2 R => h F2 O2 σ2 H2 (s.trans s2) R
  | rt d => exact h
  | ex c es ρ => exact fun F2 O2 σ2 H2 cls od s2 R x => h F2 O2 σ2 H2 cls od (s.trans s2) R x

theorem dss_nil (h : wkAll Γ Γn = true) : DSs X T H0 Γ [] sNil Γn J := PSs.wk pss_nil fun E σ H ⟨F, O, ρ, out, R, hf, hq⟩ => by
  cases hf
  obtain ⟨F', O', s, R'⟩ := wk_of h F O σ H ρ R
  exact hq F' O' σ H s R'
theorem dss_cons (h1 : DS X T H0 Γ st f Γ1 J) (h2 : DSs X T H0 Γ1 sts g Γn J) : DSs X T H0 Γ (st :: sts) (sSeq f g) Γn J := PSs.wk (pss_cons h1 h2) fun E σ H ⟨F, O, ρ, out, R, hf, hq⟩ => by
  unfold sSeq at hf
  cases h1 : f ρ with
  | none => rw [h1] at hf; cases hf
  | some o =>
    rw [h1] at hf
    simp only [Option.bind_some] at hf
    refine ⟨F, O, ρ, o, R, h1, ?_⟩
    cases o with
    | nx ρ' => exact fun F' O' σ' H' s R' => ⟨F', O', ρ', out, R', hf, hq.from s⟩
    | bk ρ' => cases hf; exact hq
    | ct ρ' => cases hf; exact hq
    | rt d => cases hf; exact hq
    | ex c es ρ' => cases hf; exact hq
theorem ds_wk (h : wkAll Γ Γ1 = true) (hs : DS X T H0 Γ1 st f Γn J) : DS X T H0 Γ st f Γn J := PS.wk hs fun E σ H ⟨F, O, ρ, out, R, hf, hq⟩ => by
  obtain ⟨F', O', s, R'⟩ := wk_of h F O σ H ρ R
  exact ⟨F', O', ρ, out, R', hf, hq.from s⟩
def sNev : SF := fun _ => none
theorem ds_never : DS X T H0 Γ st sNev Γn J := ⟨fun _ _ _ _ _ _ ⟨_, _, _, _, _, hf, _⟩ => nomatch hf⟩
theorem ds_if {c : Expr} {t : List D → Option Bool} {as bs : List Stmt} (hc : DT X T H0 Γ c t) (ha : DSs X T H0 Γ as f Γn J) (hb : DSs X T H0 Γ bs g Γn J) : DS X T H0 Γ (.If c as bs pos) (sIf t f g) Γn J :=
  PS.wk (ps_if hc ha hb) fun E σ H ⟨F, O, ρ, out, R, hf, hq⟩ => by
    unfold sIf at hf
    cases h1 : t ρ with
    | none => rw [h1] at hf; cases hf
    | some c =>
      rw [h1] at hf
      simp only [Option.bind_some] at hf
      refine ⟨F, O, ρ, c, R, h1, fun F' H' R' s s' => ?_⟩
      cases c with
      | true => exact ⟨F', O, ρ, out, R', by simpa using hf, hq.from s⟩
      | false => exact ⟨F', O, ρ, out, R', by simpa using hf, hq.from s⟩
theorem ds_ret (he : DE X T H0 Γ e fe (.q q)) (hr : J.r = .q q := by rfl) : DS X T H0 Γ (.Return (some e) pos) (sRet fe) Γn J := PS.wk (ps_ret he) fun E σ H ⟨F, O, ρ, out, R, hf, hq⟩ => by
  unfold sRet at hf
  cases h1 : fe ρ with
  | none => rw [h1] at hf; cases hf
  | some d =>
    rw [h1] at hf
    cases hf
    refine ⟨F, O, ρ, d, R, h1, fun F' H' v R' s s' r => hq H' v ?_⟩
    rw [hr]
    exact ⟨F', R'.h0, R'.fh, ⟨R'.nF, R'.tb⟩, r⟩
theorem ds_reto (he : DE X T H0 Γ e fe (.ol q)) (hr : J.r = .ol q := by rfl) : DS X T H0 Γ (.Return (some e) pos) (sRet fe) Γn J := PS.wk (ps_ret he) fun E σ H ⟨F, O, ρ, out, R, hf, hq⟩ => by
  unfold sRet at hf
  cases h1 : fe ρ with
  | none => rw [h1] at hf; cases hf
  | some d =>
    rw [h1] at hf
    cases hf
    refine ⟨F, O, ρ, d, R, h1, fun F' H' v R' s s' r => hq H' v ?_⟩
    rw [hr]
    obtain ⟨a, vs, ds, e1, e2, h1, h2, h3, h4⟩ := r
    exact ⟨F', a, vs, ds, e1, e2, R'.h0, R'.fh, ⟨R'.nF, R'.tb⟩, h1, h2, h4⟩
theorem set_sem {K : PySem.W.Frag} {i : Nat} (hi : i < Γ.length) : ∀ E σ H, tDS K T H0 Γ (sSet i fe) (Γ.set i (.fz q)) J E σ H → tAsg (tD K T H0 Γ fe (.q q)) (gName i) E σ H := fun E σ H ⟨F, O, ρ, out, R, hf, hq⟩ => by
  unfold sSet at hf
  cases h1 : fe ρ with
  | none => rw [h1] at hf; cases hf
  | some d =>
    rw [h1] at hf
    cases hf
    refine ⟨F, O, ρ, d, R, h1, fun F' H' v R' s s' r => ?_⟩
    exact hq F' O _ H' s (R'.setq hi r)
theorem seto_sem {K : PySem.W.Frag} {i : Nat} (hi : i < Γ.length) : ∀ E σ H, tDS K T H0 Γ (sSet i fe) (Γ.set i (.ow q)) J E σ H → tAsg (tD K T H0 Γ fe (.ol q)) (gName i) E σ H := fun E σ H ⟨F, O, ρ, out, R, hf, hq⟩ => by
  unfold sSet at hf
  cases h1 : fe ρ with
  | none => rw [h1] at hf; cases hf
  | some d =>
    rw [h1] at hf
    cases hf
    refine ⟨F, O, ρ, d, R, h1, fun F' H' v R' s s' ⟨a, vs, ds, e1, e2, h2, h3, h4, h5⟩ => ?_⟩
    subst e1; subst e2
    exact hq F' _ _ H' s (R'.seto hi h2 h3 h4 h5)
variable {x : Str} {pos' : Pos} {i j : Nat}
theorem ds_set (hN : X.N.Nodup) (hi : X.N[i]? = some x) (hx : Loc X.env.scope x) (he : DE X T H0 Γ e fe (.q q)) (hl : i < Γ.length := by decide) (hs : swapsWith e (some (.Name x pos')) pos.line X.env = pure false := by rfl)
    (hf : X.fn x = true ∨ X.env.scope.names.lookup x = some .local := by first | exact .inl rfl | exact .inr rfl | assumption) : DS X T H0 Γ (.Assign [.Name x pos'] e pos) (sSet i fe) (Γ.set i (.fz q)) J := PS.wk (ps_set hN hi hx he hs hf) (set_sem hl)
theorem ds_seto (hN : X.N.Nodup) (hi : X.N[i]? = some x) (hx : Loc X.env.scope x) (he : DE X T H0 Γ e fe (.ol q)) (hl : i < Γ.length := by decide) (hs : swapsWith e (some (.Name x pos')) pos.line X.env = pure false := by rfl)
    (hf : X.fn x = true ∨ X.env.scope.names.lookup x = some .local := by first | exact .inl rfl | exact .inr rfl | assumption) : DS X T H0 Γ (.Assign [.Name x pos'] e pos) (sSet i fe) (Γ.set i (.ow q)) J := PS.wk (ps_set hN hi hx he hs hf) (seto_sem hl)
theorem ds_drop (he : DE X T H0 Γ e fe k) (hs : swapsWith e none pos.line X.env = pure false := by rfl) : DS X T H0 Γ (.Expr e pos) (sDrop fe) Γ J := PS.wk (ps_expr he hs) fun E σ H ⟨F, O, ρ, out, R, hf, hq⟩ => by
  unfold sDrop at hf
  cases h1 : fe ρ with
  | none => rw [h1] at hf; cases hf
  | some d =>
    rw [h1] at hf
    cases hf
    exact ⟨F, O, ρ, d, R, h1, fun F' H' v R' s s' r => hq F' O σ H' s R'⟩

def TgS (K : PySem.W.Frag) (T : Tb) (H0 : HZ) (Γ : List Mode) (g : TG) (vs : List Nat) (tg : D → List D → Option (List D)) (q : Q3) (Γ' : List Mode) : Prop :=
  ∀ F O σ H ρ v d ρ' Q, Rl K T H0 Γ F O σ H ρ → Rq K T H0 q F v d → tg d ρ = some ρ' → (∀ σ', Rl K T H0 Γ' F O σ' H ρ' → (∀ j, j ∉ vs → σ'[j]? = σ[j]?) → σ'.length = σ.length → Q σ' H) → g v σ H Q
def tgN (i : Nat) : D → List D → Option (List D) := fun d ρ => some (ρ.set i d)
def setAll : List Nat → List D → List D → Option (List D)
  | [], [], ρ => some ρ
  | i :: is, d :: ds, ρ => setAll is ds (ρ.set i d)
  | _, _, _ => none
def tgT (is : List Nat) : D → List D → Option (List D) := fun d ρ => match d with
  | .tup ds => setAll is ds ρ
  | _ => none
def setMs (q : Q3) : List Nat → List Mode → List Mode
  | [], Γ => Γ
  | i :: is, Γ => setMs q is (Γ.set i (.fz q))
def gNames : List Nat → TGs
  | [] => gNil
  | i :: is => gCons (gName i) (gNames is)
theorem tgs_n {K : PySem.W.Frag} (hi : i < Γ.length) : TgS K T H0 Γ (gName i) [i] (tgN i) q (Γ.set i (.fz q)) := fun F O σ H ρ v d ρ' Q R r h hq => by
  cases h
  refine hq _ (R.setq hi r) (fun j hj => ?_) (by simp)
  rw [List.getElem?_set_ne (fun z => hj (by simp [z]))]
theorem gNames_sem {K : PySem.W.Frag} : ∀ (is : List Nat) {Γ : List Mode} (hl : is.all (fun i => decide (i < Γ.length)) = true) {F : Hp} {O : Own} {σ : L2.St} {H : Hp} {ρ ρ' : List D} {vs : List V} {ds : List D} {Q : L2.St → Hp → Prop},
    Rl K T H0 Γ F O σ H ρ → Rqs K T H0 q F vs ds → setAll is ds ρ = some ρ' → (∀ σ', Rl K T H0 (setMs q is Γ) F O σ' H ρ' → (∀ j, j ∉ is → σ'[j]? = σ[j]?) → σ'.length = σ.length → Q σ' H) → gNames is vs σ H Q
  | [], Γ, hl, F, O, σ, H, ρ, ρ', vs, ds, Q, R, r, h, hq => by
    cases r with
    | nil =>
      cases h
      exact ⟨rfl, hq σ R (fun _ _ => rfl) rfl⟩
    | cons _ _ => cases h
  | i :: is, Γ, hl, F, O, σ, H, ρ, ρ', vs, ds, Q, R, r, h, hq => by
    rw [List.all_cons, Bool.and_eq_true] at hl
    cases r with
    | nil => cases h
    | @cons v vs d ds h1 h2 =>
      have R' := R.setq (of_decide_eq_true hl.1) h1
      refine ⟨v, vs, rfl, ?_⟩
      refine gNames_sem is (by simpa using hl.2) R' h2 h fun σ2 R2 h3 h4 => hq σ2 R2 (fun j hj => ?_) (by rw [h4]; simp)
      simp only [List.mem_cons, not_or] at hj
      rw [h3 j hj.2, List.getElem?_set_ne (fun z => hj.1 z.symm)]
theorem RepsG.len {K : PySem.W.Frag} {N : Addr → Prop} {F : Hp} {vs : List V} {ds : List D} (h : RepsG K T N F vs ds) : vs.length = ds.length := h.length
theorem setAll_len : ∀ {is : List Nat} {ds ρ ρ' : List D}, setAll is ds ρ = some ρ' → ds.length = is.length
  | [], [], _, _, _ => rfl
  | i :: is, d :: ds, ρ, ρ', h => by
    have h : setAll is ds (ρ.set i d) = some ρ' := h
    rw [List.length_cons, List.length_cons, setAll_len h]
  | [], _ :: _, _, _, h => nomatch h
  | _ :: _, [], _, _, h => nomatch h
theorem tgs_t {K : PySem.W.Frag} {is : List Nat} (hl : is.all (fun i => decide (i < Γ.length)) = true) : TgS K T H0 Γ (gTup K is.length (gNames is)) is (tgT is) q (setMs q is Γ) := fun F O σ H ρ v d ρ' Q R r h hq => by
  unfold tgT at h
  split at h
  · cases r with
    | @tup a vs ds hs rs =>
      refine ⟨a, vs, rfl, ?_, ?_, gNames_sem is hl R rs h hq⟩
      · exact (hs.sm R.fh.sm).sq
      · rw [rs.length, setAll_len h]
  · cases h
def sTg (tg : D → List D → Option (List D)) (f : EF) : SF := fun ρ => (f ρ).bind fun d => (tg d ρ).bind fun ρ' => some (.nx ρ')
theorem ds_tg {tge : Expr} {gg : TG} {vs : List Nat} {tg : D → List D → Option (List D)} (he : DE X T H0 Γ e fe (.q q)) (hg : PG X tge gg) (hs : TgS X.K T H0 Γ gg vs tg q Γ1) (h1 : swapsWithSole [tge] e pos.line X.env = pure false := by rfl) (hw : swappedStores [tge] e X.env = pure none := by rfl)
    (h2 : (assignEach [tge] X.env).map (·.2) = [assign tge X.env] := by rfl) : DS X T H0 Γ (.Assign [tge] e pos) (sTg tg fe) Γ1 J := PS.wk (ps_asg he hg h1 hw h2) fun E σ H ⟨F, O, ρ, out, R, hf, hq⟩ => by
  unfold sTg at hf
  cases h1 : fe ρ with
  | none => rw [h1] at hf; cases hf
  | some d =>
    rw [h1] at hf
    simp only [Option.bind_some] at hf
    cases h2 : tg d ρ with
    | none => rw [h2] at hf; cases hf
    | some ρ' =>
      rw [h2] at hf
      cases hf
      exact ⟨F, O, ρ, d, R, h1, fun F' H' v R' s s' r => hs F' O σ H' ρ v d ρ' _ R' r h2 fun σ' R2 _ _ => hq F' O σ' H' s R2⟩
def sPar (i j : Nat) (fs : List D → Option (List D)) : SF := fun ρ => (fs ρ).bind fun ds => match ds with
  | [a, b] => some (.nx ((ρ.set i a).set j b))
  | _ => none
end
end DL

namespace DL
open PySem PySem.Spec PyProof.Rows L2

def ItOk (K : PySem.W.Frag) (T : Tb) (H0 : Hp) (J : It) (items : List D) (q : Q3) (c : Bool) (F1 H1 : Hp) : Prop :=
  ∀ (i : Nat) (F2 H2 : Hp), Same F1 F2 → Same F2 H2 → (c = true → Sm H1 H2) →
    (∀ d, items[i]? = some d → J.go i H2 ∧ ∀ x H3, J.yld i H2 x H3 → Same H2 H3 ∧ ∃ F3, Same F2 F3 ∧ Same F3 H3 ∧ ((∀ b, F2 b = none → (∃ o, H2 b = some o ∧ isMut o = true) → F3 b = none) ∧ (NoT F2 → NoT F3)) ∧ Rq K T H0 q F3 x d) ∧
    (items.length ≤ i → J.stop i H2)
def tDI (K : PySem.W.Frag) (T : Tb) (H0 : HZ) (Γ : List Mode) (fi : List D → Option (List D)) (q : Q3) (c : Bool) : TI := fun σ H R =>
  ∃ F O ρ items, Rl K T H0 Γ F O σ H ρ ∧ fi ρ = some items ∧ ∀ F' H' J, Rl K T H0 Γ F' O σ H' ρ → Same F F' → Sm H H' → ItOk K T H0 J items q c F' H' → R J H'
abbrev DI (X : Cx) (T : Tb) (H0 : HZ) (Γ : List Mode) (tg iter : Expr) (fi : List D → Option (List D)) (q : Q3) (c : Bool) : Prop := PI X tg iter (tDI X.K T H0 Γ fi q c)
def iSeq (f : EF) : List D → Option (List D) := fun ρ => (f ρ).bind fun d => match d with
  | .lst ds => some ds
  | .scr ds => some ds
  | _ => none
def iTupD (f : EF) : List D → Option (List D) := fun ρ => (f ρ).bind fun d => match d with
  | .tup ds => some ds
  | _ => none
theorem small62 {i : Int} (h : small 62 i) : -(2 ^ 62) ≤ i ∧ i < 2 ^ 62 := by
  have h1 := small_lt h
  rw [show (2 : Nat) ^ 62 = 4611686018427387904 from by decide] at h1
  rw [show (2 : Int) ^ 62 = 4611686018427387904 from by decide]
  omega
def rangeD (lo hi : Int) : List D := (List.range (hi - lo).toNat).map fun i => D.int (lo + (i : Nat))
def iRg1 (f : EF) : List D → Option (List D) := fun ρ => (f ρ).bind fun d => match d with
  | .int j => if small 62 j then some (rangeD 0 j) else none
  | _ => none
def iRg2 (f g : EF) : List D → Option (List D) := fun ρ => (f ρ).bind fun d => (g ρ).bind fun d' => match d, d' with
  | .int i, .int j => if small 62 i ∧ small 62 j then some (rangeD i j) else none
  | _, _ => none
section
variable {X : Cx} {T : Tb} {H0 : HZ} {Γ Γ1 Γn Γm : List Mode} {J : Jm} {e a b tg iter : Expr} {es : List Expr} {st : Stmt} {sts : List Stmt} {f g : SF} {fe fa fb : EF} {k ka kb : Knd} {pos : Pos} {q p : Q3} {fi : List D → Option (List D)} {c : Bool}
theorem PI.wk {t t' : TI} (h : PI X tg iter t) (i : ∀ σ H R, t' σ H R → t σ H R) : PI X tg iter t' := ⟨fun pins s σ H R I w => h.run pins s σ H R I (i _ _ _ w)⟩
theorem itl_ok {K : PySem.W.Frag} {a : Addr} {vs : List V} {ds : List D} {F1 H1 : Hp} (hs : SqL K F1 a vs) (rs : Rqs K T H0 q F1 vs ds) : ItOk K T H0 (Itl K a) ds q c F1 H1 := fun i F2 H2 h1 h2 _ => by
  have hs2 : SqL K H2 a vs := (h1.trans h2).seq hs
  refine ⟨fun d hd => ?_, fun hl => ⟨vs, hs2, by rw [rs.length]; exact hl⟩⟩
  obtain ⟨v, hv, rv⟩ := rs.get hd
  refine ⟨⟨vs, v, hs2, hv⟩, fun x H3 ⟨e1, e2⟩ => ?_⟩
  subst e1
  have := e2 vs hs2
  rw [hv] at this; cases this
  exact ⟨.refl _, F2, .refl _, h2, ⟨fun b h _ => h, fun n => n⟩, h1.rq rv⟩
theorem di_list (he : DE X T H0 Γ e fe (.q q)) : DI X T H0 Γ tg e (iSeq fe) q c := PI.wk (pi_list he) fun σ H R ⟨F, O, ρ, items, r, hf, hq⟩ => by
  unfold iSeq at hf
  cases h1 : fe ρ with
  | none => rw [h1] at hf; cases hf
  | some d =>
    rw [h1] at hf
    simp only [Option.bind_some] at hf
    refine ⟨F, O, ρ, d, r, h1, fun F' H' v R' s s' rv => ?_⟩
    split at hf
    · cases hf
      cases rv with
      | @lst a vs ds h2 h3 h4 => exact ⟨a, rfl, ⟨vs, .inl (.inl (R'.fh _ _ h2))⟩, hq F' H' _ R' s s' (itl_ok (.inl (.inl h2)) h4)⟩
    · cases hf
      cases rv with
      | @scr a vs ds h2 h4 => exact ⟨a, rfl, ⟨vs, (same_sqS R'.fh h2).seq⟩, hq F' H' _ R' s s' (itl_ok h2.seq h4)⟩
    · cases hf
theorem di_listf (he : DE X T H0 Γ e fe (.fl q)) : DI X T H0 Γ tg e (iSeq fe) q c := PI.wk (pi_list he) fun σ H R ⟨F, O, ρ, items, r, hf, hq⟩ => by
  unfold iSeq at hf
  cases h1 : fe ρ with
  | none => rw [h1] at hf; cases hf
  | some d =>
    rw [h1] at hf
    simp only [Option.bind_some] at hf
    refine ⟨F, O, ρ, d, r, h1, fun F' H' v R' s s' ⟨a, vs, ds, e1, e2, h2, h4⟩ => ?_⟩
    subst e1; subst e2
    cases hf
    exact ⟨a, rfl, ⟨vs, .inl (.inl (R'.fh _ _ h2))⟩, hq F' H' _ R' s s' (itl_ok (.inl (.inl h2)) h4)⟩
theorem di_tup (he : DE X T H0 Γ e fe (.q q)) : DI X T H0 Γ tg e (iTupD fe) q c := PI.wk (pi_tup he) fun σ H R ⟨F, O, ρ, items, r, hf, hq⟩ => by
  unfold iTupD at hf
  cases h1 : fe ρ with
  | none => rw [h1] at hf; cases hf
  | some d =>
    rw [h1] at hf
    simp only [Option.bind_some] at hf
    refine ⟨F, O, ρ, d, r, h1, fun F' H' v R' s s' rv => ?_⟩
    split at hf
    · cases hf
      cases rv with
      | @tup a vs ds h2 h4 =>
        refine ⟨a, rfl, ⟨vs, (h2.sm R'.fh.sm).sq⟩, hq F' H' _ R' s s' fun i F2 H2 g1 g2 _ => ?_⟩
        have hs2 : SqT X.K H2 a vs := (h2.sm (g1.trans g2).sm).sq
        refine ⟨fun d hd => ?_, fun hl => ⟨vs, hs2, by rw [h4.length]; exact hl⟩⟩
        obtain ⟨v, hv, rv⟩ := h4.get hd
        refine ⟨⟨vs, v, hs2, hv⟩, fun x H3 ⟨e1, e2⟩ => ?_⟩
        subst e1
        have := e2 vs hs2
        rw [hv] at this; cases this
        exact ⟨.refl _, F2, .refl _, g2, ⟨fun b h _ => h, fun n => n⟩, g1.rq rv⟩
    · cases hf
theorem itr_ok {K : PySem.W.Frag} {lo hi : Int} {F1 H1 : Hp} : ItOk K T H0 (Itr lo (hi - lo).toNat) (rangeD lo hi) q c F1 H1 := fun i F2 H2 h1 h2 _ => by
  refine ⟨fun d hd => ?_, fun hl => by
    have e : (rangeD lo hi).length = (hi - lo).toNat := by simp [rangeD]
    rw [e] at hl; exact hl⟩
  unfold rangeD at hd
  rw [List.getElem?_map] at hd
  by_cases hi' : i < (hi - lo).toNat
  · rw [List.getElem?_range hi'] at hd
    cases hd
    refine ⟨hi', fun x H3 ⟨e1, e2⟩ => ?_⟩
    subst e1; subst e2
    exact ⟨.refl _, F2, .refl _, h2, ⟨fun b h _ => h, fun n => n⟩, .int _⟩
  · rw [List.getElem?_eq_none (by simpa using hi')] at hd
    cases hd
variable {po : Pos}
theorem di_range1 (hg : Gl X "range") (hm : X.mg "range" = none) (ha : DE X T H0 Γ a fa ka) (hs : starEach [a] X.env = [(false, eval a X.env)] := by rfl) : DI X T H0 Γ tg (.Call (.Name "range" po) [a] [] pos) (iRg1 fa) q c :=
  PI.wk (pi_range1 hg hm (da_cons ha da_nil hs) hs) fun σ H R ⟨F, O, ρ, items, r, hf, hq⟩ => by
    unfold iRg1 at hf
    cases h1 : fa ρ with
    | none => rw [h1] at hf; cases hf
    | some d =>
      rw [h1] at hf
      simp only [Option.bind_some] at hf
      split at hf
      · split at hf
        · rename_i j hb
          cases hf
          refine ⟨F, O, ρ, [.int j], r, by unfold aCons aNil; rw [h1]; rfl, fun F' H' vs R' s s' rv => ?_⟩
          cases rv with
          | cons r1 r2 =>
            cases r2
            cases r1
            refine ⟨j, rfl, (small62 hb).1, (small62 hb).2, hq F' H' _ R' s s' ?_⟩
            have := @itr_ok T H0 q c X.K 0 j F' H'
            rwa [Int.sub_zero] at this
        · cases hf
      · cases hf
def clrs : List Nat → List D → List D
  | [], ρ => ρ
  | i :: is, ρ => clrs is (ρ.set i .non)
def loopD (tg : D → List D → Option (List D)) (body : SF) (cl : List Nat) : List D → SF
  | [], ρ => some (.nx ρ)
  | x :: xs, ρ => (tg x ρ).bind fun ρ1 => (body ρ1).bind fun o => match o with
    | .nx ρ2 => loopD tg body cl xs (clrs cl ρ2)
    | .ct ρ2 => loopD tg body cl xs (clrs cl ρ2)
    | .bk ρ2 => some (.nx (clrs cl ρ2))
    | .rt d => some (.rt d)
    | .ex c es ρ2 => some (.ex c es ρ2)
def sFor (fi : List D → Option (List D)) (tg : D → List D → Option (List D)) (body : SF) (cl : List Nat) : SF := fun ρ => (fi ρ).bind fun items => loopD tg body cl items (clrs cl ρ)
theorem Rl.clr {K : PySem.W.Frag} {F H : Hp} {O : Own} {σ : L2.St} : ∀ {cl : List Nat} {ρ : List D}, cl.all (fun i => decide (Γ[i]? = some .no)) = true → Rl K T H0 Γ F O σ H ρ → Rl K T H0 Γ F O σ H (clrs cl ρ)
  | [], _, _, R => R
  | i :: cl, ρ, h, R => by
    rw [List.all_cons, Bool.and_eq_true] at h
    refine Rl.clr (cl := cl) (ρ := ρ.set i .non) h.2 ⟨R.h0, R.fh, R.on, R.od, R.ls, by simp [R.lr], fun j m hm => ?_, R.nF, R.tb⟩
    by_cases hj : j = i
    · subst hj
      rw [of_decide_eq_true h.1] at hm
      cases hm
      trivial
    · rw [List.getElem?_set_ne (Ne.symm hj)]
      exact R.sl j m hm
theorem ds_for {gg : TG} {vs : List Nat} {tgd : D → List D → Option (List D)} {body : List Stmt} {cl : List Nat} (hp : PassesOwn (model X.prog X.w) X.A X.env X.xe) (hc : X.calm = true)
    (hi : DI X T H0 Γ tg iter fi q false) (hg : PG X tg gg) (hs : TgS X.K T H0 Γ gg vs tgd q Γ1) (hb : DSs X T H0 Γ1 body f Γ ⟨Γ, Γ, J.r, J.x, J.w⟩)
    (hcl : cl.all (fun i => decide (Γ[i]? = some .no)) = true) (hfs : ∀ x, foldedSetIterable iter X.env x = pure x := by intro _; rfl) : DS X T H0 Γ (.For tg iter body [] pos) (sFor fi tgd f cl) Γ J :=
  PS.wk (ps_for hp hc hi hg hb hfs) fun E σ H ⟨F, O, ρ, out, R, hf, hq⟩ => by
    unfold sFor at hf
    cases h1 : fi ρ with
    | none => rw [h1] at hf; cases hf
    | some items =>
      rw [h1] at hf
      simp only [Option.bind_some] at hf
      refine ⟨F, O, ρ, items, R, h1, fun F1 H1 J1 R1 s1 s1' ok => ?_⟩
      refine ⟨fun i m σ H => m = items.length - i ∧ i ≤ items.length ∧ ∃ F2 O2 ρ2 out2, Same F1 F2 ∧ Rl X.K T H0 Γ F2 O2 σ H ρ2 ∧ loopD tgd f cl (items.drop i) ρ2 = some out2 ∧ Fin X.K T H0 F2 Γ J E out2,
        ⟨items.length, by simp, Nat.zero_le _, F1, O, clrs cl ρ, out, .refl _, R1.clr hcl, by simpa using hf, hq.from s1⟩, ?_⟩
      rintro i m σ2 H2 ⟨rfl, hi, F2, O2, ρ2, out2, s2, R2, hl, hq2⟩
      obtain ⟨ok1, ok2⟩ := ok i F2 H2 s2 R2.fh (fun z => nomatch z)
      by_cases hlt : i < items.length
      · obtain ⟨hgo, hy⟩ := ok1 items[i] (List.getElem?_eq_getElem hlt)
        rw [List.drop_eq_getElem_cons hlt] at hl
        unfold loopD at hl
        cases h3 : tgd items[i] ρ2 with
        | none => rw [h3] at hl; cases hl
        | some ρ3 =>
          rw [h3] at hl
          simp only [Option.bind_some] at hl
          cases h4 : f ρ3 with
          | none => rw [h4] at hl; cases hl
          | some o4 =>
            rw [h4] at hl
            simp only [Option.bind_some] at hl
            refine .inr ⟨hgo, fun σ5 H5 => ∃ F5 O5 ρ5 out5, Same F1 F5 ∧ Rl X.K T H0 Γ F5 O5 σ5 H5 ρ5 ∧ loopD tgd f cl (items.drop (i + 1)) ρ5 = some out5 ∧ Fin X.K T H0 F5 Γ J E out5,
              fun σ5 H5 h5 => ⟨items.length - (i + 1), by omega, rfl, hlt, h5⟩, fun x H3 hx => ?_⟩
            obtain ⟨t3, F3, u3, v3, w3, r3⟩ := hy x H3 hx
            have R3 : Rl X.K T H0 Γ F3 O2 σ2 H3 ρ2 := (R2.growN t3).more u3 v3 (w3.2 R2.nF) fun j b hb => by
              obtain ⟨z1, o, z2, z3⟩ := R2.on j b hb
              exact w3.1 b z1 ⟨o, z2, z3⟩
            refine hs F3 O2 σ2 H3 ρ2 x _ ρ3 _ R3 r3 h3 fun σ4 R4 _ _ => ⟨F3, O2, ρ3, o4, R4, h4, ?_⟩
            cases o4 with
            | nx ρ' => exact fun F6 O6 σ6 H6 s6 R6 => ⟨F6, O6, _, out2, (s2.trans u3).trans s6, R6.clr hcl, hl, hq2.from (u3.trans s6)⟩
            | ct ρ' => exact fun F6 O6 σ6 H6 s6 R6 => ⟨F6, O6, _, out2, (s2.trans u3).trans s6, R6.clr hcl, hl, hq2.from (u3.trans s6)⟩
            | bk ρ' =>
              cases hl
              exact fun F6 O6 σ6 H6 s6 R6 => hq2 F6 O6 σ6 H6 (u3.trans s6) (R6.clr hcl)
            | rt d =>
              cases hl
              exact hq2
            | ex c es ρ' =>
              cases hl
              exact fun F6 O6 σ6 H6 cls od s6 R6 x6 => hq2 F6 O6 σ6 H6 cls od (u3.trans s6) R6 x6
      · have : i = items.length := by omega
        subst this
        rw [List.drop_length] at hl
        cases hl
        exact .inl ⟨ok2 (Nat.le_refl _), hq2 F2 O2 σ2 H2 (.refl _) R2⟩

def whileD (t : List D → Option Bool) (body : SF) (cl : List Nat) : Nat → SF
  | 0, _ => none
  | n + 1, ρ => (t ρ).bind fun b => if b = true then (body ρ).bind fun o => match o with
    | .nx ρ2 => whileD t body cl n (clrs cl ρ2)
    | .ct ρ2 => whileD t body cl n (clrs cl ρ2)
    | .bk ρ2 => some (.nx (clrs cl ρ2))
    | .rt d => some (.rt d)
    | .ex c es ρ2 => some (.ex c es ρ2)
    else some (.nx ρ)
def sWhile (t : List D → Option Bool) (body : SF) (cl : List Nat) (n : Nat) : SF := fun ρ => whileD t body cl n (clrs cl ρ)
theorem ds_while {t : List D → Option Bool} {cnd : Expr} {body : List Stmt} {cl : List Nat} {n : Nat} (hp : PassesOwn (model X.prog X.w) X.A X.env X.xe) (hc : DT X T H0 Γ cnd t) (hb : DSs X T H0 Γ body f Γ ⟨Γ, Γ, J.r, J.x, J.w⟩)
    (hcl : cl.all (fun i => decide (Γ[i]? = some .no)) = true) : DS X T H0 Γ (.While cnd body [] pos) (sWhile t f cl n) Γ J :=
  PS.wk (ps_while hp hc hb) fun E σ H ⟨F, O, ρ, out, R, hf, hq⟩ => by
    refine ⟨fun m σ H => ∃ F2 O2 ρ2 out2, Rl X.K T H0 Γ F2 O2 σ H ρ2 ∧ whileD t f cl m ρ2 = some out2 ∧ Fin X.K T H0 F2 Γ J E out2, ⟨n, F, O, clrs cl ρ, out, R.clr hcl, hf, hq⟩, ?_⟩
    rintro m σ2 H2 ⟨F2, O2, ρ2, out2, R2, hl, hq2⟩
    cases m with
    | zero => cases hl
    | succ m =>
      unfold whileD at hl
      cases h3 : t ρ2 with
      | none => rw [h3] at hl; cases hl
      | some b =>
        rw [h3] at hl
        simp only [Option.bind_some] at hl
        refine ⟨F2, O2, ρ2, b, R2, h3, fun F3 H3 R3 s3 t3 => ?_⟩
        cases b with
        | false =>
          simp at hl
          subst hl
          exact hq2 F3 O2 σ2 H3 s3 R3
        | true =>
          rw [if_pos rfl] at hl ⊢
          cases h4 : f ρ2 with
          | none => rw [h4] at hl; cases hl
          | some o4 =>
            rw [h4] at hl
            simp only [Option.bind_some] at hl
            refine ⟨fun σ5 H5 => ∃ F5 O5 ρ5 out5, Rl X.K T H0 Γ F5 O5 σ5 H5 ρ5 ∧ whileD t f cl m ρ5 = some out5 ∧ Fin X.K T H0 F5 Γ J E out5, fun σ5 H5 h5 => ⟨m, Nat.lt_succ_self m, h5⟩, F3, O2, ρ2, o4, R3, h4, ?_⟩
            cases o4 with
            | nx ρ' => exact fun F6 O6 σ6 H6 s6 R6 => ⟨F6, O6, _, out2, R6.clr hcl, hl, hq2.from (s3.trans s6)⟩
            | ct ρ' => exact fun F6 O6 σ6 H6 s6 R6 => ⟨F6, O6, _, out2, R6.clr hcl, hl, hq2.from (s3.trans s6)⟩
            | bk ρ' =>
              cases hl
              exact fun F6 O6 σ6 H6 s6 R6 => hq2 F6 O6 σ6 H6 (s3.trans s6) (R6.clr hcl)
            | rt d =>
              cases hl
              exact hq2
            | ex c es ρ' =>
              cases hl
              exact fun F6 O6 σ6 H6 cls od s6 R6 x6 => hq2 F6 O6 σ6 H6 cls od (s3.trans s6) R6 x6

def compGo (tg : D → List D → Option (List D)) (tt : List D → Option Bool) (fe : EF) (ρ : List D) : List D → Option (List D)
  | [] => some []
  | x :: xs => (tg x ρ).bind fun ρ1 => (tt ρ1).bind fun b => if b = true then (fe ρ1).bind fun y => (compGo tg tt fe ρ xs).bind fun ys => some (y :: ys) else compGo tg tt fe ρ xs
def eComp (fi : List D → Option (List D)) (tg : D → List D → Option (List D)) (tt : List D → Option Bool) (fe : EF) : EF := fun ρ => (fi ρ).bind fun items => (compGo tg tt fe ρ items).bind fun ds => if ds.length ≤ 1000000 then some (.lst ds) else none
theorem wipe_get : ∀ (vs : List Nat) (σ : L2.St) (j : Nat), (wipe σ vs)[j]? = if j ∈ vs ∧ j < σ.length then some none else σ[j]?
  | [], σ, j => by simp [wipe]
  | v :: vs, σ, j => by
    unfold wipe
    by_cases hj : v = j
    · subst hj
      by_cases hl : v < σ.length
      · rw [List.getElem?_set_self (by rw [wipe_length]; exact hl), if_pos ⟨List.mem_cons_self, hl⟩]
      · rw [List.getElem?_eq_none (by rw [List.length_set, wipe_length]; omega), if_neg (fun z => hl z.2), List.getElem?_eq_none (by omega)]
    · rw [List.getElem?_set_ne hj, wipe_get vs σ j]
      have : (j ∈ v :: vs ∧ j < σ.length) ↔ (j ∈ vs ∧ j < σ.length) := by simp only [List.mem_cons]; exact ⟨fun ⟨h1, h2⟩ => ⟨h1.resolve_left (fun z => hj z.symm), h2⟩, fun ⟨h1, h2⟩ => ⟨.inr h1, h2⟩⟩
      simp only [this]
theorem wipe_eq {vs : List Nat} {σ σ' : L2.St} (hl : σ'.length = σ.length) (h : ∀ j, j ∉ vs → σ'[j]? = σ[j]?) : wipe σ' vs = wipe σ vs := by
  apply List.ext_getElem?
  intro j
  rw [wipe_get, wipe_get, hl]
  by_cases hj : j ∈ vs
  · by_cases hl2 : j < σ.length
    · rw [if_pos ⟨hj, hl2⟩, if_pos ⟨hj, hl2⟩]
    · rw [if_neg (fun z => hl2 z.2), if_neg (fun z => hl2 z.2), List.getElem?_eq_none (by omega), List.getElem?_eq_none (by omega)]
  · rw [if_neg (fun z => hj z.1), if_neg (fun z => hj z.1), h j hj]
theorem wipe_wipe (vs : List Nat) (σ : L2.St) : wipe (wipe σ vs) vs = wipe σ vs := wipe_eq (wipe_length _ _) fun j hj => by rw [wipe_get, if_neg fun z => hj z.1]
theorem Rl.wiped {K : PySem.W.Frag} {F H : Hp} {O : Own} {σ : L2.St} {ρ : List D} {vs : List Nat} (R : Rl K T H0 Γ F O σ H ρ) (h : vs.all (fun i => decide (Γ[i]? = some .no)) = true) : Rl K T H0 Γ F O (wipe σ vs) H ρ :=
  ⟨R.h0, R.fh, R.on, R.od, by rw [wipe_length]; exact R.ls, R.lr, fun j m hm => by
    by_cases hj : j ∈ vs
    · have := of_decide_eq_true (List.all_eq_true.mp h j hj)
      rw [this] at hm; cases hm
      trivial
    · rw [wipe_get, if_neg fun z => hj z.1]
      exact R.sl j m hm, R.nF, R.tb⟩
theorem lc_sem {K : PySem.W.Frag} {gg : TG} {own vs : List Nat} {tgd : D → List D → Option (List D)} {tt : List D → Option Bool} (hs : TgS K T H0 Γ gg vs tgd q Γ1) (hv : vs.all (fun i => own.contains i) = true) (ho : own.all (fun i => decide (Γ[i]? = some .no)) = true) :
    ∀ σ H Q, tD K T H0 Γ (eComp fi tgd tt fe) (.ol p) σ H Q → tLc (tDI K T H0 Γ fi q true) gg (tDT K T H0 Γ1 tt) (tD K T H0 Γ1 fe (.q p)) own σ H Q := by
  rintro σ H Q ⟨F, O, ρ, d, R, hf, hq⟩
  unfold eComp at hf
  cases h1 : fi ρ with
  | none => rw [h1] at hf; cases hf
  | some items =>
    rw [h1] at hf
    simp only [Option.bind_some] at hf
    cases h2 : compGo tgd tt fe ρ items with
    | none => rw [h2] at hf; cases hf
    | some ds =>
      rw [h2] at hf
      simp only [Option.bind_some] at hf
      split at hf
      · rename_i hlen
        cases hf
        refine ⟨F, O, ρ, items, R, h1, fun F1 H1 J1 R1 s1 s1' ok p1 hp1 => ?_⟩
        have big : ∀ n, n ≤ 1000000 → n ≤ sizeLine := fun n h => by rw [sizeLine_eq]; omega
        have hO1 := R1.notOwn hp1
        have hF1 : F1 p1 = none := R1.fh.free hp1
        refine ⟨fun i m H => m = items.length - i ∧ i ≤ items.length ∧ ∃ F2 acc accd rest, Same F1 F2 ∧ Sm H1 H ∧ Rl K T H0 Γ F2 (resv O Γ.length p1) σ H ρ ∧ H p1 = some (.lst acc) ∧ Rqs K T H0 p F2 acc accd ∧ compGo tgd tt fe ρ (items.drop i) = some rest ∧ ds = accd ++ rest,
          ⟨items.length, by simp, Nat.zero_le _, F1, [], [], ds, .refl _, (R1.junk hp1).2, (R1.junk hp1).1.res upd_same rfl hF1 hO1, upd_same, .nil, by simpa using h2, rfl⟩, ?_⟩
        rintro i m H2 ⟨rfl, hi, F2, acc, accd, rest, s2, t2, R2, hp2, ra, hc, hds⟩
        obtain ⟨ok1, ok2⟩ := ok i F2 H2 s2 R2.fh (fun _ => t2)
        by_cases hlt : i < items.length
        · obtain ⟨hgo, hy⟩ := ok1 items[i] (List.getElem?_eq_getElem hlt)
          rw [List.drop_eq_getElem_cons hlt] at hc
          unfold compGo at hc
          cases h3 : tgd items[i] ρ with
          | none => rw [h3] at hc; cases hc
          | some ρ3 =>
            rw [h3] at hc
            simp only [Option.bind_some] at hc
            cases h4 : tt ρ3 with
            | none => rw [h4] at hc; cases hc
            | some b4 =>
              rw [h4] at hc
              simp only [Option.bind_some] at hc
              refine .inr ⟨hgo, fun H5 => ∃ F5 acc5 accd5 rest5, Same F1 F5 ∧ Sm H1 H5 ∧ Rl K T H0 Γ F5 (resv O Γ.length p1) σ H5 ρ ∧ H5 p1 = some (.lst acc5) ∧ Rqs K T H0 p F5 acc5 accd5 ∧ compGo tgd tt fe ρ (items.drop (i + 1)) = some rest5 ∧ ds = accd5 ++ rest5,
                fun H5 h5 => ⟨items.length - (i + 1), by omega, rfl, hlt, h5⟩, fun x H3 hx => ?_⟩
              obtain ⟨t3, F3, u3, v3, w3, r3⟩ := hy x H3 hx
              have R3 : Rl K T H0 Γ F3 (resv O Γ.length p1) σ H3 ρ := (R2.growN t3).more u3 v3 (w3.2 R2.nF) fun j b hb => by
                obtain ⟨z1, o, z2, z3⟩ := R2.on j b hb
                exact w3.1 b z1 ⟨o, z2, z3⟩
              refine hs F3 _ (wipe σ own) H3 ρ x _ ρ3 _ (R3.wiped ho) r3 h3 fun σ4 R4 k4 l4 => ⟨?_, ?_⟩
              · rw [← wipe_wipe own σ]
                exact wipe_eq l4 fun j hj => k4 j fun z => hj (by simpa using List.all_eq_true.mp hv j z)
              · have back : ∀ {F6 H6 : Hp}, Rl K T H0 Γ1 F6 (resv O Γ.length p1) σ4 H6 ρ3 → Same F3 F6 → Sm H3 H6 → Rl K T H0 Γ F6 (resv O Γ.length p1) σ H6 ρ := fun {F6 H6} R6 s6 t6 =>
                  (R3.grow t6 R6.tb).more s6 R6.fh R6.nF fun j b hb => (R6.on j b hb).1
                have len : ∀ {n : Nat} {r : List D}, ds = accd ++ r → r.length = n + 1 → acc.length < sizeLine := fun {n r} e1 e2 => by
                  have e3 : ds.length = accd.length + r.length := by rw [e1, List.length_append]
                  rw [ra.length, sizeLine_eq]
                  omega
                refine ⟨F3, _, ρ3, b4, R4, h4, fun F6 H6 R6 s6 t6 => ?_⟩
                cases b4 with
                | false =>
                  rw [if_neg Bool.false_ne_true] at hc ⊢
                  exact ⟨F6, acc, accd, rest, (s2.trans u3).trans s6, (t2.trans t3).trans t6, back R6 s6 t6, t6 _ _ (t3 _ _ hp2), (u3.trans s6).rqs ra, hc, hds⟩
                | true =>
                  rw [if_pos rfl] at hc ⊢
                  cases h7 : fe ρ3 with
                  | none => rw [h7] at hc; cases hc
                  | some y7 =>
                    rw [h7] at hc
                    simp only [Option.bind_some] at hc
                    cases h8 : compGo tgd tt fe ρ (items.drop (i + 1)) with
                    | none => rw [h8] at hc; cases hc
                    | some r8 =>
                      rw [h8] at hc
                      cases hc
                      refine ⟨F6, _, ρ3, y7, R6, h7, fun F9 H9 v9 R9 s9 t9 r9 => ⟨acc, t9 _ _ (t6 _ _ (t3 _ _ hp2)), len hds (by rw [List.length_cons]), ?_⟩⟩
                      have R9' := back R9 (s6.trans s9) (t6.trans t9)
                      have h9 : H1 p1 = none := hp1
                      refine ⟨F9, acc ++ [v9], accd ++ [y7], r8, ((s2.trans u3).trans s6).trans s9, ⟨fun b o e n => ?_⟩, R9'.upRes rfl, upd_same, (((u3.trans s6).trans s9).rqs ra).append (.cons r9 .nil), rfl, by rw [hds, List.append_assoc]; rfl⟩
                      rw [upd_ne (ne_of_none e h9)]
                      exact (((t2.trans t3.sm).trans t6).trans t9) _ _ e
        · have : i = items.length := by omega
          subst this
          rw [List.drop_length] at hc
          cases hc
          rw [List.append_nil] at hds
          subst hds
          exact .inl ⟨ok2 (Nat.le_refl _), hq F2 H2 _ R2.unres (s1.trans s2) (s1'.trans t2) ⟨p1, acc, ds, rfl, rfl, hp2, (R2.on Γ.length p1 (.inr ⟨rfl, rfl⟩)).1, hO1, ra⟩⟩
      · cases hf
def tTrue : List D → Option Bool := fun _ => some true
theorem pts_no : PTs X [] (tDT X.K T H0 Γ tTrue) := ⟨fun pins s σ H Q I ⟨F, O, ρ, b, R, hf, hq⟩ => by
  cases hf
  exact (pts_nil (X := X)).run pins s σ H Q I (hq F H R (.refl _) (.refl _))⟩
theorem de_comp {elt : Expr} {ifs : List Expr} {scope : Scope} {own : List (Str × Nat)} {gg : TG} {vs : List Nat} {tgd : D → List D → Option (List D)} {tt : List D → Option Bool} (hc : X.calm = true) (hN : X.N.Nodup) (hi : DI X T H0 Γ tg iter fi q true) (ok : BlkOk X.N X.env.scope scope own)
    (hg : ∀ (s : Shared) (H : Hp) (C : Addr) (cl : List (Str × Addr)) (fp : List Addr), PG (X.blk s H scope (compEnvC scope cl C X.env) fp) tg gg) (hs : TgS X.K T H0 Γ gg vs tgd q Γ1)
    (ht : ∀ (s : Shared) (H : Hp) (C : Addr) (cl : List (Str × Addr)) (fp : List Addr), PTs (X.blk s H scope (compEnvC scope cl C X.env) fp) ifs (tDT X.K T H0 Γ1 tt))
    (he : ∀ (s : Shared) (H : Hp) (C : Addr) (cl : List (Str × Addr)) (fp : List Addr), DE (X.blk s H scope (compEnvC scope cl C X.env) fp) T H0 Γ1 elt fe (.q p))
    (hv : vs.all (fun i => (own.map (·.2)).contains i) = true) (ho : (own.map (·.2)).all (fun i => decide (Γ[i]? = some .no)) = true) (hfs : ∀ x, foldedSetIterable iter X.env x = pure x := by intro _; rfl) :
    DE X T H0 Γ (.ListComp elt [⟨tg, iter, ifs, 0⟩] scope pos) (eComp fi tgd tt fe) (.ol p) := PE.wk (pe_lc hc hN hi ok hg ht he hfs) (lc_sem hs hv ho)
end
end DL

namespace DL
open PySem PySem.Spec PyProof.Rows L2

def gIx : D → D → Option D
  | .lst ds, .int i => atI ds i
  | .scr ds, .int i => atI ds i
  | _, _ => none
def gIxT : D → D → Option D
  | .tup ds, .int i => atI ds i
  | _, _ => none
def gLen : D → Option D
  | .lst ds => some (.int ds.length)
  | .scr ds => some (.int ds.length)
  | .tup ds => some (.int ds.length)
  | _ => none
section
variable {X : Cx} {T : Tb} {H0 : HZ} {Γ Γ1 Γn Γm : List Mode} {J : Jm} {e a b tg iter : Expr} {es : List Expr} {st : Stmt} {sts : List Stmt} {f g : SF} {fe fa fb : EF} {k ka kb : Knd} {pos po : Pos} {q p : Q3} {fi : List D → Option (List D)} {c : Bool} {fs : List D → Option (List D)}
theorem RepsG.at {K : PySem.W.Frag} {N : Addr → Prop} {F : Hp} {vs : List V} {ds : List D} {i : Int} {d : D} (r : RepsG K T N F vs ds) (h : atI ds i = some d) : ∃ v, atI vs i = some v ∧ RepG K T N F v d := by
  unfold atI at h ⊢
  rw [r.length]
  cases h1 : ixN ds.length i with
  | none => rw [h1] at h; cases h
  | some j =>
    rw [h1] at h
    simp only [Option.bind_some] at h ⊢
    exact r.get h
def Knd.item : Knd → Knd
  | .q q => .q q
  | .B => .B
  | .bl q => .q q
  | .fl q => .q q
  | .ol q => .q q
theorem Rp.seq {K : PySem.W.Frag} {F H : Hp} {O : Own} {σ : L2.St} {ρ : List D} {v : V} {ds : List D} (R : Rl K T H0 Γ F O σ H ρ) (h : Rp K T H0 F H O k v (.lst ds)) : ∃ a vs, v = .ref a ∧ H a = some (.lst vs) ∧ RUs K T H vs ds ∧
    ∀ (i : Int) d, atI ds i = some d → ∃ w, atI vs i = some w ∧ Rp K T H0 F H O k.item w d := by
  cases k with
  | q k =>
    cases h with
    | @lst a vs ds h1 h2 h3 => exact ⟨a, vs, rfl, R.fh _ _ h1, R.Us_of h3, fun i d hd => h3.at hd⟩
  | B =>
    cases h with
    | @lst a vs ds h1 h2 h3 => exact ⟨a, vs, rfl, h1, h3, fun i d hd => h3.at hd⟩
  | bl k =>
    obtain ⟨a, vs, ds, rfl, e, h1, h3⟩ := h
    cases e
    exact ⟨a, vs, rfl, h1, R.Us_of h3, fun i d hd => h3.at hd⟩
  | fl k =>
    obtain ⟨a, vs, ds, rfl, e, h1, h3⟩ := h
    cases e
    exact ⟨a, vs, rfl, R.fh _ _ h1, R.Us_of h3, fun i d hd => h3.at hd⟩
  | ol k =>
    obtain ⟨a, vs, ds, rfl, e, h1, _, _, h3⟩ := h
    cases e
    exact ⟨a, vs, rfl, h1, R.Us_of h3, fun i d hd => h3.at hd⟩
theorem Rp.scr {K : PySem.W.Frag} {F H : Hp} {O : Own} {σ : L2.St} {ρ : List D} {v : V} {ds : List D} (R : Rl K T H0 Γ F O σ H ρ) (h : Rp K T H0 F H O k v (.scr ds)) : ∃ a vs, v = .ref a ∧ SqL K H a vs ∧ RUs K T H vs ds ∧
    ∀ (i : Int) d, atI ds i = some d → ∃ w, atI vs i = some w ∧ Rp K T H0 F H O k.item w d := by
  cases k with
  | q k =>
    cases h with
    | @scr a vs ds h1 h3 => exact ⟨a, vs, rfl, (same_sqS R.fh h1).seq, R.Us_of h3, fun i d hd => h3.at hd⟩
  | B =>
    cases h with
    | @scr a vs ds h1 h3 => exact ⟨a, vs, rfl, h1.seq, h3, fun i d hd => h3.at hd⟩
  | bl k => obtain ⟨a, vs, ds, _, e, _⟩ := h; cases e
  | fl k => obtain ⟨a, vs, ds, _, e, _⟩ := h; cases e
  | ol k => obtain ⟨a, vs, ds, _, e, _⟩ := h; cases e
theorem Rp.tup {K : PySem.W.Frag} {F H : Hp} {O : Own} {σ : L2.St} {ρ : List D} {v : V} {ds : List D} (R : Rl K T H0 Γ F O σ H ρ) (h : Rp K T H0 F H O k v (.tup ds)) : ∃ a vs, v = .ref a ∧ SqT K H a vs ∧ RUs K T H vs ds ∧
    ∀ (i : Int) d, atI ds i = some d → ∃ w, atI vs i = some w ∧ Rp K T H0 F H O k.item w d := by
  cases k with
  | q k =>
    cases h with
    | @tup a vs ds h1 h3 => exact ⟨a, vs, rfl, (h1.sm R.fh.sm).sq, R.Us_of h3, fun i d hd => h3.at hd⟩
  | B =>
    cases h with
    | @tup a vs ds h1 h3 => exact ⟨a, vs, rfl, h1.sq, h3, fun i d hd => h3.at hd⟩
  | bl k => obtain ⟨a, vs, ds, _, e, _⟩ := h; cases e
  | fl k => obtain ⟨a, vs, ds, _, e, _⟩ := h; cases e
  | ol k => obtain ⟨a, vs, ds, _, e, _⟩ := h; cases e
theorem de_ix (ha : DE X T H0 Γ a fa ka) (hb : DE X T H0 Γ b fb kb) (hp : ka.pers = true := by rfl) (hs : PlainIx b := by exact fun _ _ => rfl) : DE X T H0 Γ (.Subscript a b pos) (e2 gIx fa fb) ka.item :=
  PE.wk (pe_ix ix_list ha hb hs) (bin_sem hp fun F O σ H ρ v u x y d Q R rv ru hg hq => by
    unfold gIx at hg
    split at hg
    · obtain ⟨p, vs, rfl, h1, _, h3⟩ := Rp.seq R rv
      obtain ⟨w, h4, h5⟩ := h3 _ _ hg
      exact ⟨p, vs, _, w, rfl, ru.int, SqL.of h1, h4, hq F H w R (.refl _) (.refl _) h5⟩
    · obtain ⟨p, vs, rfl, h1, _, h3⟩ := Rp.scr R rv
      obtain ⟨w, h4, h5⟩ := h3 _ _ hg
      exact ⟨p, vs, _, w, rfl, ru.int, h1, h4, hq F H w R (.refl _) (.refl _) h5⟩
    · cases hg)
theorem de_ixt (ha : DE X T H0 Γ a fa ka) (hb : DE X T H0 Γ b fb kb) (hp : ka.pers = true := by rfl) (hs : PlainIx b := by exact fun _ _ => rfl) : DE X T H0 Γ (.Subscript a b pos) (e2 gIxT fa fb) ka.item :=
  PE.wk (pe_ix ix_tup ha hb hs) (bin_sem hp fun F O σ H ρ v u x y d Q R rv ru hg hq => by
    unfold gIxT at hg
    split at hg
    · obtain ⟨p, vs, rfl, h1, _, h3⟩ := Rp.tup R rv
      obtain ⟨w, h4, h5⟩ := h3 _ _ hg
      exact ⟨p, vs, _, w, rfl, ru.int, h1, h4, hq F H w R (.refl _) (.refl _) h5⟩
    · cases hg)
theorem callB_sem {K : PySem.W.Frag} {r : List V → Hp → VK → Prop} {g : D → Option D}
    (hr : ∀ F O σ H ρ v x d Q, Rl K T H0 Γ F O σ H ρ → RU K T H v x → g x = some d → (∀ F' H' w, Rl K T H0 Γ F' O σ H' ρ → Same F F' → Sm H H' → Rp K T H0 F' H' O k w d → Q w H') → r [v] H Q) :
    ∀ σ H Q, tD K T H0 Γ (e1 g fa) k σ H Q → tCB r (tDA K T H0 Γ (aCons fa aNil)) σ H Q := by
  rintro σ H Q ⟨F, O, ρ, d, R, hf, hq⟩
  unfold e1 at hf
  cases h1 : fa ρ with
  | none => rw [h1] at hf; cases hf
  | some x =>
    rw [h1] at hf
    simp only [Option.bind_some] at hf
    refine ⟨F, O, ρ, [x], R, by unfold aCons aNil; rw [h1]; rfl, fun F1 H1 vs R1 s1 t1 r1 => ?_⟩
    cases r1 with
    | cons r1 r2 =>
      cases r2
      exact hr F1 O σ H1 ρ _ x d Q R1 r1 hf fun F' H' w R' s' t' rw => hq F' H' w R' (s1.trans s') (t1.trans t') rw
theorem de_len (hg : Gl X "len") (hm : X.mg "len" = none) (ha : DE X T H0 Γ a fa ka) (hs : starEach [a] X.env = (false, eval a X.env) :: starEach [] X.env := by rfl) : DE X T H0 Γ (.Call (.Name "len" po) [a] [] pos) (e1 gLen fa) (.q q) :=
  PE.wk (pe_callB call_len hg hm PySem.boot_len (da_cons ha da_nil hs) (he := hs)) (callB_sem fun F O σ H ρ v x d Q R rv hg hq => by
    unfold gLen at hg
    split at hg
    · cases hg
      cases rv with
      | @lst a vs ds h1 h2 h3 => exact ⟨_, _, rfl, .inl ⟨vs, SqL.of h1, rfl⟩, by rw [h3.length]; exact hq F H _ R (.refl _) (.refl _) (RepG.int _)⟩
    · cases hg
      cases rv with
      | @scr a vs ds h1 h3 => exact ⟨_, _, rfl, .inl ⟨vs, h1.seq, rfl⟩, by rw [h3.length]; exact hq F H _ R (.refl _) (.refl _) (RepG.int _)⟩
    · cases hg
      cases rv with
      | @tup a vs ds h1 h3 => exact ⟨_, _, rfl, .inr ⟨vs, h1.sq, rfl⟩, by rw [h3.length]; exact hq F H _ R (.refl _) (.refl _) (RepG.int _)⟩
    · cases hg)
theorem big6 {n : Nat} (h : n ≤ 1000000) : n ≤ sizeLine := by rw [sizeLine_eq]; omega

def Knd.its : Knd → Option Q3
  | .q q => some q
  | .B => none
  | .bl q => some q
  | .fl q => some q
  | .ol q => some q
theorem Rp.lst {K : PySem.W.Frag} {F H : Hp} {O : Own} {σ : L2.St} {ρ : List D} {v : V} {ds : List D} (R : Rl K T H0 Γ F O σ H ρ) (h : Rp K T H0 F H O k v (.lst ds)) (hk : k.its = some q) : ∃ a vs, v = .ref a ∧ H a = some (.lst vs) ∧ Rqs K T H0 q F vs ds := by
  cases k with
  | q k =>
    cases hk
    cases h with
    | @lst a vs ds h1 h2 h3 => exact ⟨a, vs, rfl, R.fh _ _ h1, h3⟩
  | B => cases hk
  | bl k =>
    cases hk
    obtain ⟨a, vs, ds, rfl, e, h1, h3⟩ := h
    cases e
    exact ⟨a, vs, rfl, h1, h3⟩
  | fl k =>
    cases hk
    obtain ⟨a, vs, ds, rfl, e, h1, h3⟩ := h
    cases e
    exact ⟨a, vs, rfl, R.fh _ _ h1, h3⟩
  | ol k =>
    cases hk
    obtain ⟨a, vs, ds, rfl, e, h1, _, _, h3⟩ := h
    cases e
    exact ⟨a, vs, rfl, h1, h3⟩
theorem Rp.tupq {K : PySem.W.Frag} {F H : Hp} {O : Own} {σ : L2.St} {ρ : List D} {v : V} {ds : List D} (R : Rl K T H0 Γ F O σ H ρ) (h : Rp K T H0 F H O (.q q) v (.tup ds)) : ∃ a vs, v = .ref a ∧ SqT K F a vs ∧ Rqs K T H0 q F vs ds := by
  cases h with
  | @tup a vs ds h1 h3 => exact ⟨a, vs, rfl, h1.sq, h3⟩
def gCat : D → D → Option D
  | .lst xs, .lst ys => if xs.length + ys.length ≤ 1000000 then some (.lst (xs ++ ys)) else none
  | _, _ => none
theorem new_lst {K : PySem.W.Frag} {F H : Hp} {O : Own} {σ : L2.St} {ρ : List D} {vs : List V} {ds : List D} {Q : VK} (R : Rl K T H0 Γ F O σ H ρ) (rs : Rqs K T H0 q F vs ds)
    (hq : ∀ F' H' w, Rl K T H0 Γ F' O σ H' ρ → Same F F' → Sm H H' → Rp K T H0 F' H' O (.ol q) w (.lst ds) → Q w H') (p : Addr) (hp : H p = none) : Q (.ref p) (upd H p (.lst vs)) :=
  hq F _ _ (R.junk hp).1 (.refl _) (R.junk hp).2 ⟨p, vs, ds, rfl, rfl, upd_same, R.fh.free hp, R.notOwn hp, rs⟩
theorem de_cat (ha : DE X T H0 Γ a fa ka) (hb : DE X T H0 Γ b fb kb) (hka : ka.its = some q := by rfl) (hkb : kb.its = some q := by rfl) (hp : ka.pers = true := by rfl) : DE X T H0 Γ (.BinOp a .Add b pos) (e2 gCat fa fb) (.ol q) :=
  PE.wk (pe_op op_cat ha hb) (bin_sem hp fun F O σ H ρ v u x y d Q R rv ru hg hq => by
    unfold gCat at hg
    split at hg
    · split at hg
      · rename_i hl
        cases hg
        obtain ⟨a1, vs, rfl, h1, h2⟩ := Rp.lst R rv hka
        obtain ⟨a2, us, rfl, h3, h4⟩ := Rp.lst R ru hkb
        refine ⟨a1, a2, vs, us, rfl, rfl, h1, h3, by rw [h2.length, h4.length]; exact big6 hl, fun p hp => new_lst R (h2.append h4) hq p hp⟩
      · cases hg
    · cases hg)
def gList : D → Option D
  | .lst ds => some (.lst ds)
  | _ => none
def gListT : D → Option D
  | .tup ds => some (.lst ds)
  | _ => none
theorem callB_semK {K : PySem.W.Frag} {r : List V → Hp → VK → Prop} {g : D → Option D}
    (hr : ∀ F O σ H ρ v x d Q, Rl K T H0 Γ F O σ H ρ → Rp K T H0 F H O ka v x → g x = some d → (∀ F' H' w, Rl K T H0 Γ F' O σ H' ρ → Same F F' → Sm H H' → Rp K T H0 F' H' O k w d → Q w H') → r [v] H Q) :
    ∀ σ H Q, tD K T H0 Γ (e1 g fa) k σ H Q → tCB r (tCons (tD K T H0 Γ fa ka) tNil) σ H Q := by
  rintro σ H Q ⟨F, O, ρ, d, R, hf, hq⟩
  unfold e1 at hf
  cases h1 : fa ρ with
  | none => rw [h1] at hf; cases hf
  | some x =>
    rw [h1] at hf
    simp only [Option.bind_some] at hf
    refine ⟨F, O, ρ, x, R, h1, fun F1 H1 v R1 s1 t1 r1 => ?_⟩
    exact hr F1 O σ H1 ρ _ x d Q R1 r1 hf fun F' H' w R' s' t' rw => hq F' H' w R' (s1.trans s') (t1.trans t') rw
theorem de_list (hg : Gl X "list") (hm : X.mg "list" = none) (ha : DE X T H0 Γ a fa ka) (hk : ka.its = some q := by rfl) (hs : starEach [a] X.env = (false, eval a X.env) :: starEach [] X.env := by rfl) : DE X T H0 Γ (.Call (.Name "list" po) [a] [] pos) (e1 gList fa) (.ol q) :=
  PE.wk (pe_callTy call_list_of hg hm (by decide +kernel) (pa_cons ha pa_nil hs) (he := hs)) (callB_semK fun F O σ H ρ v x d Q R rv hg hq => by
    unfold gList at hg
    split at hg
    · cases hg
      obtain ⟨a1, vs, rfl, h1, h2⟩ := Rp.lst R rv hk
      exact ⟨a1, vs, rfl, .inl (SqL.of h1), fun p hp => new_lst R h2 hq p hp⟩
    · cases hg)
def gTuple : D → Option D
  | .lst ds => some (.tup ds)
  | _ => none
def cutD (xs : List D) (lo hi : Option Int) : List D := (xs.drop (HT.sIx xs.length 0 lo)).take (HT.sIx xs.length xs.length hi - HT.sIx xs.length 0 lo)
def oNo : List D → Option (Option Int) := fun _ => some none
def oYes (f : EF) : List D → Option (Option Int) := fun ρ => (f ρ).bind fun d => match d with
  | .int i => some (some i)
  | _ => none
def tDO (K : PySem.W.Frag) (T : Tb) (H0 : HZ) (Γ : List Mode) (fo : List D → Option (Option Int)) : TO := fun σ H Q =>
  ∃ F O ρ o, Rl K T H0 Γ F O σ H ρ ∧ fo ρ = some o ∧ ∀ F' H', Rl K T H0 Γ F' O σ H' ρ → Same F F' → Sm H H' → Q o H'
abbrev DO (X : Cx) (T : Tb) (H0 : HZ) (Γ : List Mode) (e : Option Expr) (fo : List D → Option (Option Int)) : Prop := PO X e (tDO X.K T H0 Γ fo)
theorem do_no : DO X T H0 Γ none oNo := ⟨fun pins s σ H Q I ⟨F, O, ρ, o, R, hf, hq⟩ => by
  cases hf
  exact (po_none (X := X)).run pins s σ H Q I (hq F H R (.refl _) (.refl _))⟩
theorem do_yes (h : DE X T H0 Γ e fe k) : DO X T H0 Γ (some e) (oYes fe) := ⟨fun pins s σ H Q I ⟨F, O, ρ, o, R, hf, hq⟩ => by
  refine (po_some h).run pins s σ H Q I ?_
  unfold oYes at hf
  cases h1 : fe ρ with
  | none => rw [h1] at hf; cases hf
  | some d =>
    rw [h1] at hf
    simp only [Option.bind_some] at hf
    split at hf
    · cases hf
      exact ⟨F, O, ρ, _, R, h1, fun F1 H1 v R1 s1 t1 r1 => ⟨_, Rp.int r1, hq F1 H1 R1 s1 t1⟩⟩
    · cases hf⟩
variable {lo hi : Option Expr} {fl fh : List D → Option (Option Int)} {p2 : Pos}
def eSl (g : D → Option Int → Option Int → Option D) (f : EF) (fl fh : List D → Option (Option Int)) : EF := fun ρ => (f ρ).bind fun x => (fl ρ).bind fun l => (fh ρ).bind fun h => g x l h
def gSlL (x : D) (l h : Option Int) : Option D := match x with
  | .lst ds => some (.lst (cutD ds l h))
  | _ => none
def gSlT (x : D) (l h : Option Int) : Option D := match x with
  | .tup ds => some (.tup (cutD ds l h))
  | _ => none
theorem RepsG.cutV {K : PySem.W.Frag} {N : Addr → Prop} {F : Hp} {vs : List V} {ds : List D} (r : RepsG K T N F vs ds) (l h : Option Int) : RepsG K T N F (L2.cutV vs l h) (cutD ds l h) := by
  unfold L2.cutV cutD
  rw [r.length]
  exact (r.drop _).take _
theorem sl_sem {K : PySem.W.Frag} {r : V → Option Int → Option Int → Hp → VK → Prop} {g : D → Option Int → Option Int → Option D} (hp : ka.pers = true)
    (hr : ∀ F O σ H ρ v x l h d Q, Rl K T H0 Γ F O σ H ρ → Rp K T H0 F H O ka v x → g x l h = some d → (∀ F' H' w, Rl K T H0 Γ F' O σ H' ρ → Same F F' → Sm H H' → Rp K T H0 F' H' O k w d → Q w H') → r v l h H Q) :
    ∀ σ H Q, tD K T H0 Γ (eSl g fa fl fh) k σ H Q → tSl r (tD K T H0 Γ fa ka) (tDO K T H0 Γ fl) (tDO K T H0 Γ fh) σ H Q := by
  rintro σ H Q ⟨F, O, ρ, d, R, hf, hq⟩
  unfold eSl at hf
  cases h1 : fa ρ with
  | none => rw [h1] at hf; cases hf
  | some x =>
    rw [h1] at hf
    simp only [Option.bind_some] at hf
    cases h2 : fl ρ with
    | none => rw [h2] at hf; cases hf
    | some l =>
      rw [h2] at hf
      simp only [Option.bind_some] at hf
      cases h3 : fh ρ with
      | none => rw [h3] at hf; cases hf
      | some h =>
        rw [h3] at hf
        simp only [Option.bind_some] at hf
        refine ⟨F, O, ρ, x, R, h1, fun F1 H1 v R1 s1 t1 r1 => ⟨F1, O, ρ, l, R1, h2, fun F2 H2 R2 s2 t2 => ⟨F2, O, ρ, h, R2, h3, fun F3 H3 R3 s3 t3 => ?_⟩⟩⟩
        exact hr F3 O σ H3 ρ v x l h d Q R3 (r1.pers hp (s2.trans s3) (t2.trans t3)) hf fun F' H' w R' s' t' rw => hq F' H' w R' (((s1.trans s2).trans s3).trans s') (((t1.trans t2).trans t3).trans t') rw
theorem de_slL (ha : DE X T H0 Γ a fa ka) (hl : DO X T H0 Γ lo fl) (hh : DO X T H0 Γ hi fh) (hk : ka.its = some q := by rfl) (hp : ka.pers = true := by rfl) : DE X T H0 Γ (.Subscript a (.Slice lo hi none p2) pos) (eSl gSlL fa fl fh) (.ol q) :=
  PE.wk (pe_slice sl_list ha hl hh) (sl_sem hp fun F O σ H ρ v x l h d Q R rv hg hq => by
    unfold gSlL at hg
    split at hg
    · cases hg
      obtain ⟨a1, vs, rfl, h1, h2⟩ := Rp.lst R rv hk
      exact ⟨a1, vs, rfl, SqL.of h1, fun p hp => new_lst R (h2.cutV l h) hq p hp⟩
    · cases hg)
theorem cut_all {xs : List D} {l h : Option Int} (w : HT.sIx xs.length 0 l = 0 ∧ HT.sIx xs.length xs.length h = xs.length) : cutD xs l h = xs := by
  unfold cutD
  rw [w.1, w.2]
  simp
theorem de_slT (ha : DE X T H0 Γ a fa (.q q)) (hl : DO X T H0 Γ lo fl) (hh : DO X T H0 Γ hi fh) : DE X T H0 Γ (.Subscript a (.Slice lo hi none p2) pos) (eSl gSlT fa fl fh) (.q q) :=
  PE.wk (pe_slice sl_tupA ha hl hh) (sl_sem rfl fun F O σ H ρ v x l h d Q R rv hg hq => by
    unfold gSlT at hg
    split at hg
    · cases hg
      obtain ⟨a1, vs, rfl, h1, h2⟩ := Rp.tupq R rv
      refine ⟨a1, vs, rfl, same_sqT R.fh h1, fun hw => ?_, fun hw p hp => ?_⟩
      · rw [h2.length] at hw
        exact hq F H _ R (.refl _) (.refl _) (by rw [cut_all hw]; exact rv)
      · obtain ⟨R2, s2, t2⟩ := R.laid (o := .tup (L2.cutV vs l h)) hp
        exact hq _ _ _ R2 s2 t2 (RepG.tup (.inl upd_same) (s2.rqs (h2.cutV l h)))
    · cases hg)
def gCatT : D → D → Option D
  | .tup xs, .tup ys => if xs.length + ys.length ≤ 1000000 then some (.tup (xs ++ ys)) else none
  | _, _ => none
theorem RepsG.nil_iff {K : PySem.W.Frag} {N : Addr → Prop} {F : Hp} {vs : List V} {ds : List D} (r : RepsG K T N F vs ds) : vs = [] ↔ ds = [] := by cases r <;> simp
theorem de_catT (ha : DE X T H0 Γ a fa (.q q)) (hb : DE X T H0 Γ b fb (.q q)) : DE X T H0 Γ (.BinOp a .Add b pos) (e2 gCatT fa fb) (.q q) :=
  PE.wk (pe_op op_catA ha hb) (bin_sem rfl fun F O σ H ρ v u x y d Q R rv ru hg hq => by
    unfold gCatT at hg
    split at hg
    · split at hg
      · rename_i hl
        cases hg
        obtain ⟨a1, vs, rfl, h1, h2⟩ := Rp.tupq R rv
        obtain ⟨a2, us, rfl, h3, h4⟩ := Rp.tupq R ru
        refine ⟨a1, a2, vs, us, rfl, rfl, same_sqT R.fh h1, same_sqT R.fh h3, by rw [h2.length, h4.length]; exact big6 hl, fun e => ?_, fun _ e => ?_, fun _ _ p hp => ?_⟩
        · have := h2.nil_iff.mp e
          subst this
          exact hq F H _ R (.refl _) (.refl _) (by simpa using ru)
        · have := h4.nil_iff.mp e
          subst this
          exact hq F H _ R (.refl _) (.refl _) (by simpa using rv)
        · obtain ⟨R2, s2, t2⟩ := R.laid (o := .tup (vs ++ us)) hp
          exact hq _ _ _ R2 s2 t2 (RepG.tup (.inl upd_same) (s2.rqs (h2.append h4)))
      · cases hg
    · cases hg)
end

def conv : Nat → D → PyData
  | _, .non => .none
  | _, .bl b => .bool b
  | _, .int i => .int i
  | _, .str s => .str s
  | n + 1, .lst ds => .list (ds.map (conv n))
  | n + 1, .scr ds => .list (ds.map (conv n))
  | n + 1, .tup ds => .tuple (ds.map (conv n))
  | _, _ => .none
def dok : Nat → D → Bool
  | _, .non => true
  | _, .bl _ => true
  | _, .int _ => true
  | _, .str s => PyData.canLay0 (.str s)
  | n + 1, .lst ds => ds.all (dok n)
  | n + 1, .scr ds => ds.all (dok n)
  | n + 1, .tup ds => ds.all (dok n)
  | _, _ => false
theorem depthAll_le {n : Nat} : ∀ {ds : List PyData}, (∀ d ∈ ds, d.depth ≤ n) → PyData.depthAll ds ≤ n
  | [], _ => by simp [PyData.depthAll]
  | d :: ds, h => by
    simp only [PyData.depthAll]
    have h1 := h d List.mem_cons_self
    have h2 := depthAll_le (ds := ds) fun x hx => h x (List.mem_cons_of_mem _ hx)
    omega
theorem layAll_of : ∀ {ds : List PyData}, (∀ d ∈ ds, d.canLay0 = true) → PyData.canLayAll0 ds = true
  | [], _ => by simp [PyData.canLayAll0]
  | d :: ds, h => by
    simp only [PyData.canLayAll0, Bool.and_eq_true]
    exact ⟨h d List.mem_cons_self, layAll_of (ds := ds) fun x hx => h x (List.mem_cons_of_mem _ hx)⟩
theorem conv_ok : ∀ (n : Nat) (d : D), dok n d = true → (conv n d).canLay0 = true ∧ (conv n d).depth ≤ n := by
  intro n
  induction n with
  | zero =>
    intro d h
    cases d <;> first | (simp [dok] at h; done) | (refine ⟨?_, ?_⟩ <;> simp [conv, PyData.canLay0, PyData.depth] <;> (try simpa [dok, PyData.canLay0] using h))
  | succ n ih =>
    intro d h
    have key : ∀ ds : List D, ds.all (dok n) = true → PyData.canLayAll0 (ds.map (conv n)) = true ∧ PyData.depthAll (ds.map (conv n)) ≤ n := fun ds h => by
      refine ⟨layAll_of fun x hx => ?_, depthAll_le fun x hx => ?_⟩ <;> obtain ⟨y, hy, rfl⟩ := List.mem_map.mp hx
      · exact (ih y (List.all_eq_true.mp h y hy)).1
      · exact (ih y (List.all_eq_true.mp h y hy)).2
    cases d with
    | lst ds => obtain ⟨h1, h2⟩ := key ds (by simpa [dok] using h); simp only [conv, PyData.canLay0, PyData.depth]; exact ⟨h1, by omega⟩
    | scr ds => obtain ⟨h1, h2⟩ := key ds (by simpa [dok] using h); simp only [conv, PyData.canLay0, PyData.depth]; exact ⟨h1, by omega⟩
    | tup ds => obtain ⟨h1, h2⟩ := key ds (by simpa [dok] using h); simp only [conv, PyData.canLay0, PyData.depth]; exact ⟨h1, by omega⟩
    | str s => simp only [conv, PyData.depth]; exact ⟨by simpa [dok] using h, by omega⟩
    | non => simp [conv, PyData.canLay0, PyData.depth]
    | bl b => simp [conv, PyData.canLay0, PyData.depth]
    | int i => simp [conv, PyData.canLay0, PyData.depth]
    | ins _ _ => simp [dok] at h
    | dic _ _ => simp [dok] at h
    | dit _ _ => simp [dok] at h
    | exn _ _ => simp [dok] at h
theorem shaped_of {n : Nat} {d : D} (h : dok n d = true) (hn : n ≤ 64) : SeqAt.shaped (conv n d) = true := by
  obtain ⟨h1, h2⟩ := conv_ok n d h
  unfold SeqAt.shaped
  rw [h1, Bool.true_and]
  exact decide_eq_true (by omega)
theorem dp_all {K : PySem.W.Frag} {T : Tb} {N : Addr → Prop} {H : Hp} {n : Nat} (ih : ∀ (d : D) (v : V), dok n d = true → RepG K T N H v d → Dp K H v (conv n d)) : ∀ {vs : List V} {ds : List D}, ds.all (dok n) = true → RepsG K T N H vs ds → DpAll K H vs (ds.map (conv n))
  | _, _, _, .nil => .nil
  | _, _, h, .cons r rs => by
    rw [List.all_cons, Bool.and_eq_true] at h
    exact .cons (ih _ _ h.1 r) (dp_all ih h.2 rs)
theorem dp_of {K : PySem.W.Frag} {T : Tb} {N : Addr → Prop} {H : Hp} : ∀ (n : Nat) (d : D) (v : V), dok n d = true → RepG K T N H v d → Dp K H v (conv n d) := by
  intro n
  induction n with
  | zero =>
    intro d v h r
    cases r <;> first | (simp [dok] at h; done) | (simp only [conv]; constructor)
  | succ n ih =>
    intro d v h r
    cases r with
    | non => simp only [conv]; constructor
    | bl b => simp only [conv]; constructor
    | int b => simp only [conv]; constructor
    | str b => simp only [conv]; constructor
    | tup h1 rs => simp only [conv]; exact .tup h1.sq (dp_all ih (by simpa [dok] using h) rs)
    | lst h1 _ rs => simp only [conv]; exact .lst (.inl (.inl h1)) (dp_all ih (by simpa [dok] using h) rs)
    | scr h1 rs => simp only [conv]; exact .lst h1.seq (dp_all ih (by simpa [dok] using h) rs)
    | ins _ _ _ _ => simp [dok] at h
    | dic _ _ _ => simp [dok] at h
    | dit _ _ _ => simp [dok] at h
    | exn _ _ _ _ => simp [dok] at h
def gEqD (x y : D) : Option D := if dok 6 x = true ∧ dok 6 y = true then some (.bl (PyData.eqv (conv 6 x) (conv 6 y))) else none
def gNeD (x y : D) : Option D := if dok 6 x = true ∧ dok 6 y = true then some (.bl (!PyData.eqv (conv 6 x) (conv 6 y))) else none
def gInD (x y : D) : Option D := match y with
  | .lst ds => if dok 6 x = true ∧ ds.all (dok 6) = true then some (.bl (ds.any fun z => PyData.eqv (conv 6 z) (conv 6 x))) else none
  | _ => none
def gNotInD (x y : D) : Option D := match y with
  | .lst ds => if dok 6 x = true ∧ ds.all (dok 6) = true then some (.bl (!ds.any fun z => PyData.eqv (conv 6 z) (conv 6 x))) else none
  | _ => none
section
variable {X : Cx} {T : Tb} {H0 : HZ} {Γ Γ1 Γn Γm : List Mode} {J : Jm} {e a b tg iter : Expr} {es : List Expr} {st : Stmt} {sts : List Stmt} {f g : SF} {fe fa fb : EF} {k ka kb : Knd} {pos po : Pos} {q p : Q3} {fi : List D → Option (List D)} {c : Bool} {fs : List D → Option (List D)}
theorem cs_eqD {K : PySem.W.Frag} (hp : ka.pers = true) : ∀ σ H Q, tD K T H0 Γ (e2 gEqD fa fb) (.q q) σ H Q → tOp (rEqD K) (tD K T H0 Γ fa ka) (tD K T H0 Γ fb kb) σ H Q := bin_sem hp fun F O σ H ρ v u x y d Q R rv ru hg hq => by
  unfold gEqD at hg
  split at hg
  · rename_i h
    cases hg
    exact ⟨_, _, dp_of 6 x v h.1 (R.toB rv), dp_of 6 y u h.2 (R.toB ru), shaped_of h.1 (by omega), shaped_of h.2 (by omega), hq F H _ R (.refl _) (.refl _) (RepG.bl _)⟩
  · cases hg
theorem cs_neD {K : PySem.W.Frag} (hp : ka.pers = true) : ∀ σ H Q, tD K T H0 Γ (e2 gNeD fa fb) (.q q) σ H Q → tOp (rNeD K) (tD K T H0 Γ fa ka) (tD K T H0 Γ fb kb) σ H Q := bin_sem hp fun F O σ H ρ v u x y d Q R rv ru hg hq => by
  unfold gNeD at hg
  split at hg
  · rename_i h
    cases hg
    exact ⟨_, _, dp_of 6 x v h.1 (R.toB rv), dp_of 6 y u h.2 (R.toB ru), shaped_of h.1 (by omega), shaped_of h.2 (by omega), hq F H _ R (.refl _) (.refl _) (RepG.bl _)⟩
  · cases hg
theorem any_conv {n : Nat} {x : PyData} {ds : List D} : (ds.map (conv n)).any (fun z => PyData.eqv z x) = ds.any fun z => PyData.eqv (conv n z) x := by
  rw [List.any_map]; rfl
theorem cs_inD {K : PySem.W.Frag} (hp : ka.pers = true) : ∀ σ H Q, tD K T H0 Γ (e2 gInD fa fb) (.q q) σ H Q → tOp (rInD K) (tD K T H0 Γ fa ka) (tD K T H0 Γ fb kb) σ H Q := bin_sem hp fun F O σ H ρ v u x y d Q R rv ru hg hq => by
  unfold gInD at hg
  split at hg
  · rename_i ds
    split at hg
    · rename_i h
      cases hg
      have h2 : dok 7 (.lst ds) = true := by simpa [dok] using h.2
      refine ⟨_, _, dp_of 6 x v h.1 (R.toB rv), dp_of 7 _ u h2 (R.toB ru), shaped_of h.1 (by omega), shaped_of (n := 7) h2 (by omega), ?_⟩
      rw [any_conv]
      exact hq F H _ R (.refl _) (.refl _) (RepG.bl _)
    · cases hg
  · cases hg
theorem cs_notInD {K : PySem.W.Frag} (hp : ka.pers = true) : ∀ σ H Q, tD K T H0 Γ (e2 gNotInD fa fb) (.q q) σ H Q → tOp (rNotInD K) (tD K T H0 Γ fa ka) (tD K T H0 Γ fb kb) σ H Q := bin_sem hp fun F O σ H ρ v u x y d Q R rv ru hg hq => by
  unfold gNotInD at hg
  split at hg
  · rename_i ds
    split at hg
    · rename_i h
      cases hg
      have h2 : dok 7 (.lst ds) = true := by simpa [dok] using h.2
      refine ⟨_, _, dp_of 6 x v h.1 (R.toB rv), dp_of 7 _ u h2 (R.toB ru), shaped_of h.1 (by omega), shaped_of (n := 7) h2 (by omega), ?_⟩
      rw [any_conv]
      exact hq F H _ R (.refl _) (.refl _) (RepG.bl _)
    · cases hg
  · cases hg
def intsOf : List D → Option (List Int)
  | [] => some []
  | .int i :: r => (intsOf r).map (i :: ·)
  | _ => none
def blsOf : List D → Option (List Bool)
  | [] => some []
  | .bl i :: r => (blsOf r).map (i :: ·)
  | _ => none
theorem intsOf_map : ∀ ns : List Int, intsOf (ns.map D.int) = some ns
  | [] => rfl
  | n :: ns => by rw [List.map_cons]; unfold intsOf; rw [intsOf_map ns]; rfl
theorem blsOf_map : ∀ ns : List Bool, blsOf (ns.map D.bl) = some ns
  | [] => rfl
  | n :: ns => by rw [List.map_cons]; unfold blsOf; rw [blsOf_map ns]; rfl
theorem intsOf_eq : ∀ {ds : List D} {ns : List Int}, intsOf ds = some ns → ds = ns.map D.int
  | [], _, h => by cases h; rfl
  | .int i :: r, ns, h => by
    unfold intsOf at h
    cases h1 : intsOf r with
    | none => rw [h1] at h; cases h
    | some ms => rw [h1] at h; cases h; rw [intsOf_eq h1]; rfl
  | .non :: _, _, h => nomatch h
  | .bl _ :: _, _, h => nomatch h
  | .str _ :: _, _, h => nomatch h
  | .tup _ :: _, _, h => nomatch h
  | .lst _ :: _, _, h => nomatch h
  | .scr _ :: _, _, h => nomatch h
  | .ins _ _ :: _, _, h => nomatch h
  | .dic _ _ :: _, _, h => nomatch h
  | .dit _ _ :: _, _, h => nomatch h
  | .exn _ _ :: _, _, h => nomatch h
theorem blsOf_eq : ∀ {ds : List D} {ns : List Bool}, blsOf ds = some ns → ds = ns.map D.bl
  | [], _, h => by cases h; rfl
  | .bl i :: r, ns, h => by
    unfold blsOf at h
    cases h1 : blsOf r with
    | none => rw [h1] at h; cases h
    | some ms => rw [h1] at h; cases h; rw [blsOf_eq h1]; rfl
  | .non :: _, _, h => nomatch h
  | .int _ :: _, _, h => nomatch h
  | .str _ :: _, _, h => nomatch h
  | .tup _ :: _, _, h => nomatch h
  | .lst _ :: _, _, h => nomatch h
  | .scr _ :: _, _, h => nomatch h
  | .ins _ _ :: _, _, h => nomatch h
  | .dic _ _ :: _, _, h => nomatch h
  | .dit _ _ :: _, _, h => nomatch h
  | .exn _ _ :: _, _, h => nomatch h
theorem RepsG.ints {K : PySem.W.Frag} {N : Addr → Prop} {F : Hp} : ∀ {vs : List V} {ns : List Int}, RepsG K T N F vs (ns.map D.int) → vs = ns.map V.int
  | _, [], .nil => rfl
  | _, n :: ns, .cons r rs => by
    cases r
    rw [RepsG.ints rs]; rfl
theorem RepsG.bls {K : PySem.W.Frag} {N : Addr → Prop} {F : Hp} : ∀ {vs : List V} {ns : List Bool}, RepsG K T N F vs (ns.map D.bl) → vs = ns.map V.bl
  | _, [], .nil => rfl
  | _, n :: ns, .cons r rs => by
    cases r
    rw [RepsG.bls rs]; rfl
def gSum : D → Option D
  | .lst ds => (intsOf ds).map fun ns => .int ns.sum
  | _ => none
def gAll : D → Option D
  | .lst ds => (blsOf ds).map fun bs => .bl (bs.all id)
  | _ => none
def gAny : D → Option D
  | .lst ds => (blsOf ds).map fun bs => .bl (bs.any id)
  | _ => none
theorem de_all (hc : X.calm = true) (hg : Gl X "all") (hm : X.mg "all" = none) (ha : DE X T H0 Γ a fa ka) (hs : starEach [a] X.env = (false, eval a X.env) :: starEach [] X.env := by rfl) : DE X T H0 Γ (.Call (.Name "all" po) [a] [] pos) (e1 gAll fa) (.q q) :=
  PE.wk (pe_callB (cr_all hc) hg hm (by decide +kernel) (da_cons ha da_nil hs) (he := hs)) (callB_sem fun F O σ H ρ v x d Q R rv hg hq => by
    unfold gAll at hg
    split at hg
    · rename_i ds
      cases h1 : blsOf ds with
      | none => rw [h1] at hg; cases hg
      | some ns =>
        rw [h1] at hg
        cases hg
        have := blsOf_eq h1
        subst this
        cases rv with
        | @lst a vs ds h1 h2 h3 =>
          rw [h3.bls] at h1
          exact ⟨a, ns, rfl, SqL.of h1, hq F H _ R (.refl _) (.refl _) (RepG.bl _)⟩
    · cases hg)
def gInT (x y : D) : Option D := match x, y with
  | .int i, .tup ds => (intsOf ds).map fun ns => .bl (ns.any fun j => decide (j = i))
  | _, _ => none
end
end DL

namespace DL
open PySem PySem.Spec PyProof.Rows L2

def sApp (i : Nat) (f : EF) : SF := fun ρ => match ρ[i]? with
  | some (.lst ds) => (f ρ).bind fun d => if ds.length < 1000000 then some (.nx (ρ.set i (.lst (ds ++ [d])))) else none
  | _ => none
def sExt (i : Nat) (f : EF) : SF := fun ρ => match ρ[i]? with
  | some (.lst ds) => (f ρ).bind fun d => match d with
    | .lst es => if ds.length + es.length ≤ 1000000 then some (.nx (ρ.set i (.lst (ds ++ es)))) else none
    | _ => none
  | _ => none
def sRev (i : Nat) : SF := fun ρ => match ρ[i]? with
  | some (.lst ds) => some (.nx (ρ.set i (.lst ds.reverse)))
  | _ => none
def sClr (i : Nat) : SF := fun ρ => match ρ[i]? with
  | some (.lst _) => some (.nx (ρ.set i (.lst [])))
  | _ => none
def sPut (i : Nat) (fi fe : EF) : SF := fun ρ => (fe ρ).bind fun d => match ρ[i]? with
  | some (.lst ds) => (fi ρ).bind fun n => match n with
    | .int n => (ixN ds.length n).bind fun j => some (.nx (ρ.set i (.lst (ds.set j d))))
    | _ => none
  | _ => none
section
variable {X : Cx} {T : Tb} {H0 : HZ} {Γ Γ1 Γn Γm : List Mode} {J : Jm} {e a b tg iter : Expr} {es : List Expr} {st : Stmt} {sts : List Stmt} {f g : SF} {fe fa fb : EF} {k ka kb : Knd} {pos po : Pos} {q p : Q3} {fi : List D → Option (List D)} {c : Bool} {fs : List D → Option (List D)}
theorem lt_line {n : Nat} (h : n < 1000000) : n < sizeLine := by rw [sizeLine_eq]; omega
theorem ds_append (i : Nat) (hm : Γ[i]? = some (.ow q)) (h : PE X e (tBM X.K "list" rAppend (tVar i) (tCons (tD X.K T H0 Γ fe (.q q)) tNil))) (hs : swapsWith e none pos.line X.env = pure false := by rfl) : DS X T H0 Γ (.Expr e pos) (sApp i fe) Γ J :=
  PS.wk (ps_expr h hs) fun E σ H ⟨F, O, ρ, out, R, hf, hq⟩ => by
    obtain ⟨a, vs, ds, h1, h2, h3, h4, h5⟩ := R.sl i _ hm
    unfold sApp at hf
    rw [h2] at hf
    simp only at hf
    cases h6 : fe ρ with
    | none => rw [h6] at hf; cases hf
    | some d =>
      rw [h6] at hf
      simp only [Option.bind_some] at hf
      split at hf
      · rename_i hl
        cases hf
        refine ⟨.ref a, h1, .inl ⟨rfl, vs, SqL.of h3⟩, F, O, ρ, d, R, h6, fun F1 H1 v R1 s1 t1 r1 => ?_⟩
        have h7 := t1 _ _ h3
        refine ⟨a, vs, v, rfl, rfl, h7, by rw [h5.length]; exact lt_line hl, ?_⟩
        have R2 := R1.upo (us := vs ++ [v]) (ds := ds ++ [d]) (q := q) hm h1 h7 h4 ((s1.rqs h5).append (.cons r1 .nil))
        rw [show Γ.set i (.ow q) = Γ from by
          apply List.ext_getElem?
          intro j
          by_cases hj : i = j
          · subst hj; rw [List.getElem?_set_self (List.getElem?_eq_some_iff.mp hm).1, hm]
          · rw [List.getElem?_set_ne hj]] at R2
        exact hq F1 O σ _ s1 R2
      · cases hf
theorem set_same {i : Nat} {m : Mode} (hm : Γ[i]? = some m) : Γ.set i m = Γ := by
  apply List.ext_getElem?
  intro j
  by_cases hj : i = j
  · subst hj; rw [List.getElem?_set_self (List.getElem?_eq_some_iff.mp hm).1, hm]
  · rw [List.getElem?_set_ne hj]
theorem ds_extend (i : Nat) (hm : Γ[i]? = some (.ow q)) (hk : ka.its = some q) (h : PE X e (tBM X.K "list" rExtend (tVar i) (tCons (tD X.K T H0 Γ fe ka) tNil))) (hs : swapsWith e none pos.line X.env = pure false := by rfl) : DS X T H0 Γ (.Expr e pos) (sExt i fe) Γ J :=
  PS.wk (ps_expr h hs) fun E σ H ⟨F, O, ρ, out, R, hf, hq⟩ => by
    obtain ⟨a, vs, ds, h1, h2, h3, h4, h5⟩ := R.sl i _ hm
    unfold sExt at hf
    rw [h2] at hf
    simp only at hf
    cases h6 : fe ρ with
    | none => rw [h6] at hf; cases hf
    | some d =>
      rw [h6] at hf
      simp only [Option.bind_some] at hf
      split at hf
      · rename_i es
        split at hf
        · rename_i hl
          cases hf
          refine ⟨.ref a, h1, .inl ⟨rfl, vs, SqL.of h3⟩, F, O, ρ, _, R, h6, fun F1 H1 v R1 s1 t1 r1 => ?_⟩
          have h7 := t1 _ _ h3
          obtain ⟨b, us, rfl, h8, h9⟩ := Rp.lst R1 r1 hk
          refine ⟨a, b, vs, us, rfl, rfl, h7, h8, by rw [h5.length, h9.length]; exact big6 hl, ?_⟩
          have R2 := R1.upo (us := vs ++ us) (ds := ds ++ es) (q := q) hm h1 h7 h4 ((s1.rqs h5).append h9)
          rw [set_same hm] at R2
          exact hq F1 O σ _ s1 R2
        · cases hf
      · cases hf
def spD (K : PySem.W.Frag) (T : Tb) (n : Nat) (φ : List D → Option D) (rk : RK) : Sp := fun vs H Q _ => vs.length = n ∧ ∃ ds d, LamX.Tabs T.t H ∧ RUs K T H vs ds ∧ φ ds = some d ∧ ∀ H' v, RetOk K T (ntb H) H' rk v d → Q v H'
def RK.knd : RK → Knd
  | .q .U => .B
  | .q .A => .q .A
  | .q .L => .q .L
  | .ol q => .ol q
  | .od _ => .B
  | .pl _ => .B
  | .cu _ _ _ _ => .B
def RK.ok : RK → Bool
  | .q .U => true
  | .q .A => true
  | .q .L => true
  | .ol .A => true
  | .ol .L => true
  | _ => false
structure OkF (P : Program) (w : World) (K : PySem.W.Frag) (mg : Str → Option Value) (base : Heap) (T : Tb) (k : Nat) (x : Str) (ps : List Str) (φ : List D → Option D) (rk : RK) : Prop where
  ex : ∃ f fd, mg x = some (.ref f) ∧ PySem.W.keepIn K (.ref f) = true ∧ Binds K fd ps [] ∧ FnOk P w K mg base CX0 k f fd ps (spD K T ps.length φ rk)
theorem ret_in {K : PySem.W.Frag} {F H1 H' : Hp} {O : Own} {σ : L2.St} {ρ : List D} {rk : RK} {v : V} {d : D} (R : Rl K T H0 Γ F O σ H1 ρ) (h : RetOk K T (ntb H1) H' rk v d) (hk : rk.ok = true) : ∃ F', Rl K T H0 Γ F' O σ H' ρ ∧ Same F F' ∧ Sm H1 H' ∧ Rp K T H0 F' H' O rk.knd v d := by
  have fh : Same F (ntb H1) := fun b o e => ntb_some (R.fh _ _ e) (R.nF _ _ e)
  have H01 : Same H0 (ntb H1) := R.h0.trans fh
  have step : ∀ {Fc : Hp}, Same (ntb H1) Fc → Same Fc H' → NoT Fc → LamX.Tabs T.t H' → Rl K T H0 Γ (cut Fc fun b => ∃ i, O i b) O σ H' ρ ∧ Same F (cut Fc fun b => ∃ i, O i b) ∧ Sm H1 H' ∧ (∀ a o, Fc a = some o → isMut o = false → ¬ ∃ i, O i a) := fun {Fc} s1 s2 n1 tb => by
    have sF : Same F (cut Fc fun b => ∃ i, O i b) := fun b o e => by
      rw [cut_out]
      · exact s1 _ _ (fh _ _ e)
      · rintro ⟨i, hi⟩
        rw [(R.on i b hi).1] at e; cases e
    have sm : Sm H1 H' := ⟨fun b o e n => s2 _ _ (s1 _ _ (ntb_some e n))⟩
    refine ⟨(R.grow sm tb).more sF (fun b o e => ?_) n1.cut (fun i b hi => cut_in ⟨i, hi⟩), sF, sm, ?_⟩
    · unfold cut at e
      split at e
      · cases e
      · exact s2 _ _ e
    · rintro a o e hm ⟨i, hi⟩
      obtain ⟨_, u, h2, h3⟩ := R.on i a hi
      have := s1 _ _ (ntb_some h2 (isT_mut h3))
      rw [e] at this; cases this
      rw [hm] at h3; cases h3
  have nkc : ∀ {q : Q3}, (q = .A ∨ q = .L) → ∀ a, NK (ntb H1) q a → ¬ ∃ i, O i a := fun {q} hq a ha ⟨i, hi⟩ => by
    obtain ⟨_, u, h2, h3⟩ := R.on i a hi
    rcases hq with rfl | rfl
    · exact ha
    · have ha : ntb H1 a = none := ha
      rw [ntb_some h2 (isT_mut h3)] at ha; cases ha
  have nk0 : ∀ {q : Q3}, (q = .A ∨ q = .L) → ∀ a, NK (ntb H1) q a → NK H0 q a := fun {q} hq a ha => by
    rcases hq with rfl | rfl
    · exact ha
    · exact H01.free ha
  cases rk with
  | q q =>
    obtain ⟨Fc, s1, s2, ⟨n1, tb⟩, r⟩ := h
    obtain ⟨R2, s3, s4, hT⟩ := step s1 s2 n1 tb
    cases q with
    | U => exact ⟨_, R2, s3, s4, r.mono s2 fun _ _ => trivial⟩
    | A => exact ⟨_, R2, s3, s4, (r.cut (nkc (.inl rfl)) hT).mono (.refl _) (nk0 (.inl rfl))⟩
    | L => exact ⟨_, R2, s3, s4, (r.cut (nkc (.inr rfl)) hT).mono (.refl _) (nk0 (.inr rfl))⟩
  | ol q =>
    have hq : ∀ {q' : Q3}, (RK.ol q = .q q' ∨ RK.ol q = .ol q') → (q' = .A ∨ q' = .L) := fun {q'} e => by
      rcases e with e | e
      · cases e
      · cases e
        cases q <;> first | exact .inl rfl | exact .inr rfl | cases hk
    obtain ⟨Fc, a, vs, ds, e1, e2, s1, s2, ⟨n1, tb⟩, h1, h2, r⟩ := h
    obtain ⟨R2, s3, s4, hT⟩ := step s1 s2 n1 tb
    refine ⟨_, R2, s3, s4, a, vs, ds, e1, e2, h1, ?_, fun i hi => ?_, (r.cut (nkc (hq (.inr rfl))) hT).mono (.refl _) (nk0 (hq (.inr rfl)))⟩
    · unfold cut
      split
      · rfl
      · exact h2
    · obtain ⟨_, u, h3, h4⟩ := R.on i a hi
      rw [s1 _ _ (ntb_some h3 (isT_mut h4))] at h2; cases h2
  | od S => cases hk
  | pl z => cases hk
  | cu _ _ _ _ => cases hk
def eCall (φ : List D → Option D) (fs : List D → Option (List D)) : EF := fun ρ => (fs ρ).bind φ
theorem call_sem {K : PySem.W.Frag} {n : Nat} {φ : List D → Option D} {rk : RK} {E : XK} (hk : rk.ok = true) (hn : ∀ ρ ds, fs ρ = some ds → ds.length = n) :
    ∀ σ H Q, tD K T H0 Γ (eCall φ fs) rk.knd σ H Q → tCall (spD K T n φ rk) [] E (tDA K T H0 Γ fs) σ H Q := by
  rintro σ H Q ⟨F, O, ρ, d, R, hf, hq⟩
  unfold eCall at hf
  cases h1 : fs ρ with
  | none => rw [h1] at hf; cases hf
  | some ds =>
    rw [h1] at hf
    simp only [Option.bind_some] at hf
    refine ⟨F, O, ρ, ds, R, h1, fun F1 H1 vs R1 s1 t1 r1 => ?_⟩
    show spD K T n φ rk (vs ++ []) H1 Q E
    rw [List.append_nil]
    refine ⟨by rw [r1.length]; exact hn _ _ h1, ds, d, R1.tb, r1, hf, fun H' v r => ?_⟩
    obtain ⟨F2, R2, s2, t2, r2⟩ := ret_in R1 r hk
    exact hq F2 H' v R2 (s1.trans s2) (t1.trans t2) r2
theorem aCons_len {n : Nat} (h : ∀ ρ ds, fs ρ = some ds → ds.length = n) : ∀ ρ ds, aCons fe fs ρ = some ds → ds.length = n + 1 := fun ρ ds e => by
  unfold aCons at e
  cases h1 : fe ρ with
  | none => rw [h1] at e; cases e
  | some x =>
    rw [h1] at e
    simp only [Option.bind_some] at e
    cases h2 : fs ρ with
    | none => rw [h2] at e; cases e
    | some xs =>
      rw [h2] at e
      cases e
      rw [List.length_cons, h ρ xs h2]
theorem aNil_len : ∀ ρ ds, aNil ρ = some ds → ds.length = 0 := fun ρ ds e => by cases e; rfl
theorem de_call {j k : Nat} {x : Str} {ps : List Str} {φ : List D → Option D} {rk : RK} (h : OkF X.prog X.w X.K X.mg X.base T j x ps φ rk) (hr : Room k X.A) (hg : Gl X x) (ha : DA X T H0 Γ (e :: es) fs) (hn : ∀ ρ ds, fs ρ = some ds → ds.length = ps.length) (hj : j ≤ k := by decide) (hk : rk.ok = true := by rfl)
    (hdb : (x == ("__debug__" : Str)) = false := by decide) (he : starEach (e :: es) X.env = (false, eval e X.env) :: starEach es X.env := by rfl) (hpl : (backTo pos (starEach es X.env)).any (·.1) = false := by rfl) :
    DE X T H0 Γ (.Call (.Name x po) (e :: es) [] pos) (eCall φ fs) rk.knd := by
  obtain ⟨f, fd, h1, h2, h3, h4⟩ := h.ex
  exact PE.wk (pe_call h4 (hr.mono hj) hg h1 h2 h3 .nil pass0 ha hdb he hpl) (call_sem hk hn)
end
end DL

namespace DL
open PySem PySem.Spec PyProof.Rows L2

inductive PKn where
  | U | A | fA | fU
def PKn.mode : PKn → Mode
  | .U => .fz .U
  | .A => .fz .A
  | .fA => .fl .A
  | .fU => .fl .U
def PKn.chk : PKn → D → Bool
  | .U, _ => true
  | .A, d => d.lf
  | .fA, .lst ds => D.lfs ds
  | .fU, .lst _ => true
  | _, _ => false
def chks : List PKn → List D → Bool
  | [], [] => true
  | p :: ps, d :: ds => p.chk d && chks ps ds
  | _, _ => false
def fnD (pks : List PKn) (m : Nat) (nx : Bool) (body : SF) : List D → Option D := fun args =>
  if chks pks args = true then (body (args ++ List.replicate m .non)).bind fun o => match o with
    | .rt d => some d
    | .nx _ => if nx = true then some .non else none
    | _ => none
  else none
abbrev ms0 (pks : List PKn) (m : Nat) : List Mode := pks.map PKn.mode ++ List.replicate m .no
theorem chks_len : ∀ {pks : List PKn} {ds : List D}, chks pks ds = true → ds.length = pks.length
  | [], [], _ => rfl
  | p :: ps, d :: ds, h => by
    unfold chks at h
    rw [Bool.and_eq_true] at h
    rw [List.length_cons, List.length_cons, chks_len h.2]
theorem chks_get : ∀ {pks : List PKn} {ds : List D} {i : Nat} {p : PKn}, chks pks ds = true → pks[i]? = some p → ∃ d, ds[i]? = some d ∧ p.chk d = true
  | [], [], _, _, _, e => by simp at e
  | p :: ps, d :: ds, 0, q, h, e => by
    unfold chks at h
    rw [Bool.and_eq_true] at h
    simp at e; subst e
    exact ⟨d, rfl, h.1⟩
  | p :: ps, d :: ds, i + 1, q, h, e => by
    unfold chks at h
    rw [Bool.and_eq_true] at h
    obtain ⟨x, h1, h2⟩ := chks_get (i := i) h.2 (by simpa using e)
    exact ⟨x, by simpa using h1, h2⟩
theorem rl_start {K : PySem.W.Frag} {T : Tb} {H : Hp} {pks : List PKn} {m : Nat} {N : List Str} {vs : List V} {ds : List D} (hN : N.length = pks.length + m) (hr : RUs K T H vs ds) (hc : chks pks ds = true) (ht : LamX.Tabs T.t H) :
    Rl K T ⟨ntb H, 0, []⟩ (ms0 pks m) (ntb H) (fun _ _ => False) (L2.start N vs) H (ds ++ List.replicate m .non) := by
  have hl := chks_len hc
  have hv := hr.length
  have hr : RUs K T (ntb H) vs ds := hr.monoS ⟨fun b o e n => ntb_some e n⟩ fun _ h => h
  refine ⟨.refl _, fun b o e => ntb_le e, fun _ _ h => h.elim, fun _ _ _ h => h.elim, ?_, ?_, fun i md hm => ?_, fun b o e => ntb_not e, ht⟩
  · unfold L2.start; simp; omega
  · simp; omega
  · by_cases hi : i < pks.length
    · unfold ms0 at hm
      rw [List.getElem?_append_left (by simpa using hi), List.getElem?_map] at hm
      cases hp : pks[i]? with
      | none => rw [hp] at hm; cases hm
      | some p =>
        rw [hp] at hm
        cases hm
        obtain ⟨d, h1, h2⟩ := chks_get hc hp
        obtain ⟨v, h3, h4⟩ := hr.get h1
        have e1 : (L2.start N vs)[i]? = some (some v) := by
          unfold L2.start
          rw [List.getElem?_append_left (by rw [List.length_map]; omega), List.getElem?_map, h3]; rfl
        have e2 : (ds ++ List.replicate m D.non)[i]? = some d := by
          rw [List.getElem?_append_left (by omega), h1]
        rw [e1, e2]
        cases p with
        | U => exact ⟨v, d, rfl, rfl, h4⟩
        | A => exact ⟨v, d, rfl, rfl, h4.lf h2⟩
        | fA =>
          cases d <;> first | (cases h2; done) | skip
          cases h4 with
          | @lst a vs ds h5 h6 h7 => exact ⟨a, vs, _, rfl, rfl, h5, RepsG.lf h7 h2⟩
        | fU =>
          cases d <;> first | (cases h2; done) | skip
          cases h4 with
          | @lst a vs ds h5 h6 h7 => exact ⟨a, vs, _, rfl, rfl, h5, h7⟩
    · unfold ms0 at hm
      rw [List.getElem?_append_right (by simpa using hi)] at hm
      have : md = .no := by
        have := List.mem_of_getElem? hm
        rw [List.mem_replicate] at this
        exact this.2
      subst this
      trivial
structure FtF (K : PySem.W.Frag) (mg : Str → Option Value) (x qual : Str) (st : Stmt) (ps : List Str) : Prop where
  ex : ∃ f fd, Fun K x qual st f fd ∧ Binds K fd ps [] ∧ mg x = some (.ref f)
abbrev bodyX (P : Program) (w : World) (K : PySem.W.Frag) (mg : Str → Option Value) (base : Heap) (N : List Str) (x : Str) (st : Stmt) (f : Addr) (cdv : Value) (A : Around) (outer : List Env) (s : Shared) (H : Hp) (E : XK) : Cx := (cxOf CX0 P w K mg base N x (defScope st) f cdv A outer s H E).nox
section
variable {P : Program} {w : World} {K : PySem.W.Frag} {mg : Str → Option Value} {base : Heap} {T : Tb}
theorem fn_body {x qual : Str} {st : Stmt} {N ps : List Str} {pks : List PKn} {m k : Nat} {body : SF} {Γn : List Mode} {rk : RK} {nx : Bool} {f : Addr} {fd : FuncData} (F : Fun K x qual st f fd) (S : FnScope N ps (defScope st)) (hN : N.length = pks.length + m) (hp : ps.length = pks.length)
    (hnx : nx = true → ∃ q, rk = .q q) (hb : ∀ (f : Addr) (cdv : Value) (A : Around) (outer : List Env) (s : Shared) (H : Hp) (E : XK), Room k (bodyX P w K mg base N qual st f cdv A outer s H E).A → DSs (bodyX P w K mg base N qual st f cdv A outer s H E) T ⟨ntb H, 0, []⟩ (ms0 pks m) (defBody st) body Γn (jm rk)) :
    FnOk P w K mg base CX0 (k + 1) f fd ps (spD K T ps.length (fnD pks m nx body) rk) := by
  refine F.ok S (fun vs H Q E h => h.1) fun cdv A outer s H vs Q E hr h => ?_
  obtain ⟨hl, ds, d, ht, r, hf, hq⟩ := h
  refine ⟨_, hb f cdv A outer s H E hr, ?_⟩
  unfold fnD at hf
  split at hf
  · rename_i hc
    cases h1 : body (ds ++ List.replicate m .non) with
    | none => rw [h1] at hf; cases hf
    | some o =>
      rw [h1] at hf
      simp only [Option.bind_some] at hf
      refine ⟨ntb H, _, _, o, rl_start hN r hc ht, h1, ?_⟩
      split at hf
      · cases hf
        exact fun H' v hv => hq H' v hv
      · split at hf
        · rename_i hx
          cases hf
          obtain ⟨q, rfl⟩ := hnx hx
          exact fun F' O' σ' H' s R => hq H' .non ⟨F', R.h0, R.fh, ⟨R.nF, R.tb⟩, .non⟩
        · cases hf
      · cases hf
  · cases hf
theorem mk_okf {x : Str} {st : Stmt} {N ps : List Str} {pks : List PKn} {m k : Nat} {body : SF} {Γn : List Mode} {rk : RK} {nx : Bool} (F : FtF K mg x x st ps) (S : FnScope N ps (defScope st)) (hN : N.length = pks.length + m) (hp : ps.length = pks.length)
    (hnx : nx = true → ∃ q, rk = .q q) (hb : ∀ (f : Addr) (cdv : Value) (A : Around) (outer : List Env) (s : Shared) (H : Hp) (E : XK), Room k (bodyX P w K mg base N x st f cdv A outer s H E).A → DSs (bodyX P w K mg base N x st f cdv A outer s H E) T ⟨ntb H, 0, []⟩ (ms0 pks m) (defBody st) body Γn (jm rk)) :
    OkF P w K mg base T (k + 1) x ps (fnD pks m nx body) rk := by
  obtain ⟨f, fd, h1, h2, h3⟩ := F.ex
  exact ⟨f, fd, h3, h1.kp, h2, fn_body h1 S hN hp hnx hb⟩
def spLaw (K : PySem.W.Frag) (M : Nat) (tt : List (Addr × Str) := []) : Sp := fun vs H Q _ => ∃ (a : Addr) (ns : List Int), vs = [.ref a] ∧ LamX.Tabs tt H ∧ SqS K H a (ns.map V.int) ∧ ns.length ≤ M ∧ ∀ H', Q (.bl true) H'
theorem law_ok {k : Nat} {f : Addr} {fd : FuncData} {x : Str} {φ : List D → Option D} {M : Nat} (h : FnOk P w K mg base CX0 k f fd [x] (spD K T 1 φ (.q .A))) (hφ : ∀ ns : List Int, ns.length ≤ M → φ [.scr (ns.map .int)] = some (.bl true)) : FnOk P w K mg base CX0 k f fd [x] (spLaw K M T.t) :=
  h.imp fun vs H Q E ⟨a, ns, e, ht, hs, hl, hq⟩ => by
    subst e
    exact ⟨rfl, [.scr (ns.map .int)], _, ht, .cons (.scr hs (vals_reps ns)) .nil, hφ ns hl, fun H' v ⟨F, _, _, _, r⟩ => by cases r; exact hq H'⟩
end
end DL

namespace DL
open PySem PySem.Spec PyProof.Rows L2
section
variable {X : Cx} {T : Tb} {H0 : HZ} {Γ Γ1 Γn Γm : List Mode} {J : Jm} {e a b tg iter : Expr} {es : List Expr} {st : Stmt} {sts : List Stmt} {f g : SF} {fe fa fb : EF} {k ka kb : Knd} {pos po : Pos} {q p : Q3} {fi : List D → Option (List D)} {c : Bool} {fs : List D → Option (List D)}
theorem dss_one (h1 : DS X T H0 Γ st f Γ1 J) (h : wkAll Γ1 Γn = true) : DSs X T H0 Γ [st] f Γn J := PSs.wk (pss_one h1) fun E σ H ⟨F, O, ρ, out, R, hf, hq⟩ => by
  refine ⟨F, O, ρ, out, R, hf, ?_⟩
  cases out with
  | nx ρ' =>
    intro F1 O1 σ1 H1 s1 R1
    obtain ⟨F', O', s, R'⟩ := wk_of h F1 O1 σ1 H1 ρ' R1
    exact hq F' O' σ1 H1 (s1.trans s) R'
  | bk ρ' => exact hq
  | ct ρ' => exact hq
  | rt d => exact hq
  | ex c es ρ' => exact hq
def sThen (f : SF) (cl : List Nat) : SF := fun ρ => (f ρ).bind fun o => match o with
  | .nx ρ' => some (.nx (clrs cl ρ'))
  | o => some o
theorem dss_clr {cl : List Nat} (h1 : DSs X T H0 Γ sts f Γn J) (h : cl.all (fun i => decide (Γn[i]? = some .no)) = true) : DSs X T H0 Γ sts (sThen f cl) Γn J := PSs.wk h1 fun E σ H ⟨F, O, ρ, out, R, hf, hq⟩ => by
  unfold sThen at hf
  cases h2 : f ρ with
  | none => rw [h2] at hf; cases hf
  | some o =>
    rw [h2] at hf
    simp only [Option.bind_some] at hf
    refine ⟨F, O, ρ, o, R, h2, ?_⟩
    cases o with
    | nx ρ' => cases hf; exact fun F1 O1 σ1 H1 s1 R1 => hq F1 O1 σ1 H1 s1 (R1.clr h)
    | bk ρ' => cases hf; exact hq
    | ct ρ' => cases hf; exact hq
    | rt d => cases hf; exact hq
    | ex c es ρ' => cases hf; exact hq
theorem hr65 {k : Nat} {A : Around} (hr : Room k A) : A.units + 65 < cLine := by
  have := hr.un
  omega
def TupK (K : PySem.W.Frag) (p : Addr) (ns : List Int) : Prop := ∃ (o : Obj) (its : Array Value) (n : Nat), K.lookup p = some o ∧ o.cls = .type "tuple" ∧ o.data = .seq its n ∧ its.size ≤ sizeLine ∧ Vals (ns.map V.int) its.toList
def gAbs (x : D) : Option D := i1 (fun i => some (.int (if i < 0 then -i else i))) x
def t2t (a : EF) : List D → Option Bool := fun ρ => (a ρ).bind fun d => match d with
  | .lst ds => some (!ds.isEmpty)
  | _ => none
end
end DL
namespace DL
open PySem PySem.Spec PyProof.Rows L2
def FtH (K : PySem.W.Frag) (x qual : Str) (st : Stmt) : Prop := ∃ (f : Addr) (oc : Value) (od : Option Addr) (kV dc pm : Value) (an : Option Addr) (cd ct : Value) (sl : Array (Option Value)),
  PySem.W.nsIn K mainGlobals x = some (some (.ref f)) ∧ K.lookup f = some ⟨oc, od, .func (PySem.W.fnOf x qual (defArgs st) (defBody st) (defScope st) .none kV dc pm an cd ct), sl⟩ ∧ PySem.W.codeIn K cd qual = true ∧ PySem.W.keepIn K (.ref f) = true
theorem ft_mk {K : PySem.W.Frag} {h : Heap} {mg : Str → Option Value} {x qual : Str} {st : Stmt} {ps : List Str} (X : K.In h) (G : h.Ns mainGlobals mg) (e : FtH K x qual st)
    (b : ∀ (kV doc pm : Value) (an : Option Addr) (cdv ct : Value) (us : List Value), us.length = ps.length → bindArgs (PySem.W.fnOf x qual (defArgs st) (defBody st) (defScope st) .none kV doc pm an cdv ct) ⟨us, []⟩ = pure (ps.zip us)) : FtF K mg x qual st ps := by
  obtain ⟨f, oc, od, kV, dc, pm, an, cd, ct, sl, h1, h2, h3, h4⟩ := e
  exact ⟨f, _, fun_mk h2 h3 h4, (fun_mk h2 h3 h4).binds b, PySem.W.mg_of X G h1⟩
end DL

namespace DL
open PySem PySem.Spec PyProof.Rows L2

theorem lookup_names : ∀ {fs : List (Str × V)} {names : List Str} {j : Nat} {f : Str}, fs.map (·.1) = names → names.Nodup → names[j]? = some f → fs.lookup f = (fs.map (·.2))[j]?
  | [], _, j, f, e, _, h => by subst e; simp at h
  | (g, v) :: fs, _, 0, f, e, _, h => by
    subst e
    simp at h
    subst h
    simp [List.lookup]
  | (g, v) :: fs, _, j + 1, f, e, nd, h => by
    subst e
    rw [List.map_cons] at nd h
    rw [List.getElem?_cons_succ] at h
    have nd' := List.nodup_cons.mp nd
    have hne : ¬ f = g := fun e => nd'.1 (e ▸ List.mem_of_getElem? h)
    have : (f == g) = false := by simpa using hne
    rw [List.map_cons, List.getElem?_cons_succ, ← lookup_names (fs := fs) rfl nd'.2 h, List.lookup, this]
theorem lookup_no : ∀ {fs : List (Str × V)} {f : Str}, f ∉ fs.map (·.1) → fs.lookup f = none
  | [], _, _ => rfl
  | (g, v) :: fs, f, h => by
    rw [List.map_cons, List.mem_cons, not_or] at h
    have : (f == g) = false := by simpa using h.1
    rw [List.lookup, this]
    exact lookup_no h.2
theorem putF_new : ∀ {fs : List (Str × V)} {f : Str} {v : V}, f ∉ fs.map (·.1) → putF f v fs = fs ++ [(f, v)]
  | [], _, _, _ => rfl
  | (g, u) :: fs, f, v, h => by
    rw [List.map_cons, List.mem_cons, not_or] at h
    unfold putF
    rw [if_neg (fun e => h.1 e.symm), putF_new h.2]; rfl
structure ClsF (K : PySem.W.Frag) (T : Tb) (c j : Nat) (f : Str) : Prop where
  cl : Cls K (T c).1
  na : NoAttr K (T c).1 f
  nm : (T c).2[j]? = some f
  nd : (T c).2.Nodup
def eFld (c j : Nat) (fo : EF) : EF := fun ρ => (fo ρ).bind fun d => match d with
  | .ins c' ds => if c' = c then ds[j]? else none
  | _ => none
section
variable {X : Cx} {T : Tb} {H0 : HZ} {Γ Γ1 Γn Γm : List Mode} {J : Jm} {e a b o tg iter : Expr} {es : List Expr} {st : Stmt} {sts : List Stmt} {f g : SF} {fe fa fb fo : EF} {k ka kb : Knd} {pos po : Pos} {q p : Q3} {fi : List D → Option (List D)} {c : Bool} {fs : List D → Option (List D)} {cl j : Nat} {x : Str}
theorem Rp.ins {K : PySem.W.Frag} {F H : Hp} {O : Own} {σ : L2.St} {ρ : List D} {v : V} {ds : List D} (R : Rl K T H0 Γ F O σ H ρ) (h : Rp K T H0 F H O k v (.ins cl ds)) : ∃ a dx fs, v = .ref a ∧ H a = some (.ins (T cl).1 dx fs) ∧ fs.map (·.1) = (T cl).2 ∧
    ∀ (i : Nat) d, ds[i]? = some d → ∃ w, (fs.map (·.2))[i]? = some w ∧ Rp K T H0 F H O k.item w d := by
  cases k with
  | q k =>
    cases h with
    | @ins a dx c fs ds h1 h2 h3 h4 => exact ⟨a, dx, fs, rfl, R.fh _ _ h1, h3, fun i d hd => h4.get hd⟩
  | B =>
    cases h with
    | @ins a dx c fs ds h1 h2 h3 h4 => exact ⟨a, dx, fs, rfl, h1, h3, fun i d hd => h4.get hd⟩
  | bl k => obtain ⟨a, vs, ds, _, e, _⟩ := h; cases e
  | fl k => obtain ⟨a, vs, ds, _, e, _⟩ := h; cases e
  | ol k => obtain ⟨a, vs, ds, _, e, _⟩ := h; cases e
theorem de_fld (C : ClsF X.K T cl j x) (ha : DE X T H0 Γ o fo ka) (hb : attributeBase o x X.env (eval o X.env) = eval o X.env := by rfl) : DE X T H0 Γ (.Attribute o x pos) (eFld cl j fo) ka.item :=
  PE.wk (pe_fld ha hb) fun σ H Q ⟨F, O, ρ, d, R, hf, hq⟩ => by
    unfold eFld at hf
    cases h1 : fo ρ with
    | none => rw [h1] at hf; cases hf
    | some y =>
      rw [h1] at hf
      simp only [Option.bind_some] at hf
      split at hf
      · split at hf
        · rename_i hc
          subst hc
          refine ⟨F, O, ρ, _, R, h1, fun F1 H1 v R1 s1 t1 r1 => ?_⟩
          obtain ⟨a, dx, fs, e1, h2, h3, h4⟩ := Rp.ins R1 r1
          obtain ⟨w, h5, h6⟩ := h4 _ _ hf
          exact ⟨a, _, dx, fs, w, e1, h2, C.cl, C.na, by rw [lookup_names h3 C.nd C.nm]; exact h5, hq F1 H1 w R1 s1 t1 h6⟩
        · cases hf
      · cases hf

structure OkM (P : Program) (w : World) (K : PySem.W.Frag) (mg : Str → Option Value) (base : Heap) (T : Tb) (k : Nat) (c : Nat) (m : Str) (ps : List Str) (φ : List D → Option D) (rk : RK) : Prop where
  ex : ∃ f fd, Meth K (T c).1 m f ∧ Binds K fd ps [] ∧ FnOk P w K mg base CX0 k f fd ps (spD K T ps.length φ rk)
  cl : Cls K (T c).1
  no : m ∉ (T c).2
def eMeth (c : Nat) (φ : List D → Option D) (fo : EF) (fs : List D → Option (List D)) : EF := fun ρ => (fo ρ).bind fun d => match d with
  | .ins c' ds => if c' = c then (fs ρ).bind fun as => φ (.ins c ds :: as) else none
  | _ => none
theorem meth_sem {K : PySem.W.Frag} {n : Nat} {φ : List D → Option D} {rk : RK} {E : XK} {m : Str} (hk : rk.ok = true) (no : m ∉ (T cl).2) (hp : ka.pers = true) (hn : ∀ ρ ds, fs ρ = some ds → ds.length + 1 = n) :
    ∀ σ H Q, tD K T H0 Γ (eMeth cl φ fo fs) rk.knd σ H Q → tMeth (T cl).1 m (spD K T n φ rk) [] E (tD K T H0 Γ fo ka) (tDA K T H0 Γ fs) σ H Q := by
  rintro σ H Q ⟨F, O, ρ, d, R, hf, hq⟩
  unfold eMeth at hf
  cases h1 : fo ρ with
  | none => rw [h1] at hf; cases hf
  | some y =>
    rw [h1] at hf
    simp only [Option.bind_some] at hf
    split at hf
    · rename_i c' ds'
      split at hf
      · rename_i hc
        subst hc
        cases h2 : fs ρ with
        | none => rw [h2] at hf; cases hf
        | some as =>
          rw [h2] at hf
          simp only [Option.bind_some] at hf
          refine ⟨F, O, ρ, _, R, h1, fun F1 H1 v R1 s1 t1 r1 => ?_⟩
          obtain ⟨a, dx, fs', e1, h3, h4, _⟩ := Rp.ins R1 r1
          refine ⟨a, dx, fs', e1, h3, lookup_no (by rw [h4]; exact no), F1, O, ρ, as, R1, h2, fun F2 H2 vs R2 s2 t2 r2 => ?_⟩
          show spD K T n φ rk (v :: (vs ++ [])) H2 Q E
          rw [List.append_nil]
          refine ⟨by rw [List.length_cons, r2.length]; exact hn _ _ h2, _ :: as, d, R2.tb, .cons (t2.rU (R1.toB r1)) r2, hf, fun H' v r => ?_⟩
          obtain ⟨F3, R3, s3, t3, r3⟩ := ret_in R2 r hk
          exact hq F3 H' v R3 ((s1.trans s2).trans s3) ((t1.trans t2).trans t3) r3
      · cases hf
    · cases hf
theorem de_meth {i k : Nat} {m : Str} {ps : List Str} {φ : List D → Option D} {rk : RK} {pl : Sem Bool} {apos : Pos} (h : OkM X.prog X.w X.K X.mg X.base T i cl m ps φ rk) (hr : Room k X.A) (ho : DE X T H0 Γ o fo ka) (ha : DA X T H0 Γ (e :: es) fs) (hn : ∀ ρ ds, fs ρ = some ds → ds.length + 1 = ps.length) (hp : ka.pers = true := by rfl) (hj : i ≤ k := by decide) (hk : rk.ok = true := by rfl)
    (hst : starEach (e :: es) X.env = (false, eval e X.env) :: starEach es X.env := by rfl) (hpl : (backTo pos (starEach es X.env)).any (·.1) = false := by rfl)
    (ht : eval (.Call (.Attribute o m apos) (e :: es) [] pos) X.env = (do
      let ov ← eval o X.env
      standAt apos.atName
      let (f, first) ← holding [ov] (getMethod ov m pl)
      callWith pos f first (backTo pos (starEach (e :: es) X.env)) (backToKw pos (keywordEach [] X.env))) := by rfl) :
    DE X T H0 Γ (.Call (.Attribute o m apos) (e :: es) [] pos) (eMeth cl φ fo fs) rk.knd := by
  obtain ⟨f, fd, h1, h2, h3⟩ := h.ex
  exact PE.wk (pe_meth ho h.cl h1 h3 (hr.mono hj) h2 .nil pass0 ha hst hpl ht) (meth_sem hk h.no hp hn)
theorem de_meth0 {i k : Nat} {m : Str} {ps : List Str} {φ : List D → Option D} {rk : RK} {pl : Sem Bool} {apos : Pos} (h : OkM X.prog X.w X.K X.mg X.base T i cl m ps φ rk) (hr : Room k X.A) (ho : DE X T H0 Γ o fo ka) (hn : 1 = ps.length := by rfl) (hp : ka.pers = true := by rfl) (hj : i ≤ k := by decide) (hk : rk.ok = true := by rfl)
    (ht : eval (.Call (.Attribute o m apos) [] [] pos) X.env = (do
      let ov ← eval o X.env
      standAt apos.atName
      let (f, first) ← holding [ov] (getMethod ov m pl)
      callWith pos f first (backTo pos (starEach [] X.env)) (backToKw pos (keywordEach [] X.env))) := by rfl) :
    DE X T H0 Γ (.Call (.Attribute o m apos) [] [] pos) (eMeth cl φ fo aNil) rk.knd := by
  obtain ⟨f, fd, h1, h2, h3⟩ := h.ex
  refine PE.wk (pe_meth0 ho h.cl h1 h3 (hr.mono hj) h2 .nil pass0 ht) fun σ H Q hw => ?_
  obtain ⟨F, O, ρ, d, R, h4, h5⟩ := meth_sem (K := X.K) (E := E0) hk h.no hp (fun ρ ds e => by cases e; exact hn) σ H Q hw
  refine ⟨F, O, ρ, d, R, h4, fun F1 H1 v R1 s1 t1 r1 => ?_⟩
  obtain ⟨a, dx, fs', e1, e2, e3, F2, O2, ρ2, as, R2, h6, h7⟩ := h5 F1 H1 v R1 s1 t1 r1
  cases h6
  exact ⟨a, dx, fs', e1, e2, e3, h7 F2 H1 [] R2 (.refl _) (.refl _) .nil⟩

theorem FieldsR.get {K : PySem.W.Frag} {h0 : Hp} {F H : Hp} {o : Addr → Prop} : ∀ {ms : List FM} {vs : List V} {ds : List D} {i : Nat} {m : FM}, FieldsR K T h0 F H o ms vs ds → ms[i]? = some m → ∃ v d, vs[i]? = some v ∧ ds[i]? = some d ∧ FieldR K T h0 F H o v d m
  | m :: ms, v :: vs, d :: ds, 0, _, ⟨h1, _⟩, e => by simp at e; subst e; exact ⟨v, d, rfl, rfl, h1⟩
  | m :: ms, v :: vs, d :: ds, i + 1, _, ⟨_, h2⟩, e => by
    obtain ⟨w, y, h3, h4, h5⟩ := FieldsR.get (i := i) h2 (by simpa using e)
    exact ⟨w, y, by simpa using h3, by simpa using h4, h5⟩
  | [], _, _, _, _, _, e => by simp at e
  | _ :: _, [], _, _, _, h, _ => h.elim
  | _ :: _, _ :: _, [], _, _, h, _ => h.elim
theorem FieldsR.len {K : PySem.W.Frag} {h0 : Hp} {F H : Hp} {o : Addr → Prop} : ∀ {ms : List FM} {vs : List V} {ds : List D}, FieldsR K T h0 F H o ms vs ds → vs.length = ms.length ∧ ds.length = ms.length
  | [], [], [], _ => ⟨rfl, rfl⟩
  | m :: ms, v :: vs, d :: ds, ⟨_, h2⟩ => by
    have := FieldsR.len h2
    simp only [List.length_cons]; omega
  | [], _ :: _, _, h => h.elim
  | [], [], _ :: _, h => h.elim
  | _ :: _, [], _, h => h.elim
  | _ :: _, _ :: _, [], h => h.elim
theorem FieldsR.snoc {K : PySem.W.Frag} {h0 : Hp} {F H : Hp} {o : Addr → Prop} {v : V} {d : D} {m : FM} (hv : FieldR K T h0 F H o v d m) : ∀ {ms : List FM} {vs : List V} {ds : List D}, FieldsR K T h0 F H o ms vs ds → FieldsR K T h0 F H o (ms ++ [m]) (vs ++ [v]) (ds ++ [d])
  | [], [], [], _ => ⟨hv, trivial⟩
  | m :: ms, v :: vs, d :: ds, ⟨h1, h2⟩ => ⟨h1, FieldsR.snoc hv h2⟩
  | [], _ :: _, _, h => h.elim
  | [], [], _ :: _, h => h.elim
  | _ :: _, [], _, h => h.elim
  | _ :: _, _ :: _, [], h => h.elim
theorem FieldsR.put {K : PySem.W.Frag} {h0 : Hp} {F H H' : Hp} {o : Addr → Prop} {d : D} {q : Q3} : ∀ {ms : List FM} {vs : List V} {ds : List D} {j : Nat} {v : V}, FieldsR K T h0 F H o ms vs ds → ms[j]? = some (.ow q) → (∀ i, i ≠ j → ∀ m, ms[i]? = some m → ∃ p, m = FM.fz p) → vs[j]? = some v → FieldR K T h0 F H' o v d (.ow q) → FieldsR K T h0 F H' o ms vs (ds.set j d)
  | m :: ms, v :: vs, d' :: ds, 0, _, ⟨_, h2⟩, e, hz, ev, hv => by
    simp at e ev
    subst e; subst ev
    refine ⟨hv, ?_⟩
    have : ∀ {ms : List FM} {vs : List V} {ds : List D}, FieldsR K T h0 F H o ms vs ds → (∀ (i : Nat) (m : FM), ms[i]? = some m → ∃ p, m = FM.fz p) → FieldsR K T h0 F H' o ms vs ds := by
      intro ms
      induction ms with
      | nil => intro vs ds h _; cases vs <;> cases ds <;> first | trivial | exact h.elim
      | cons m ms ih =>
        intro vs ds h hz
        cases vs with
        | nil => exact h.elim
        | cons v vs =>
          cases ds with
          | nil => exact h.elim
          | cons d ds =>
            obtain ⟨p, rfl⟩ := hz 0 m rfl
            exact ⟨h.1, ih h.2 fun i m' hm => hz (i + 1) m' (by simpa using hm)⟩
    exact this h2 fun i m' hm => hz (i + 1) (by omega) m' (by simpa using hm)
  | m :: ms, v' :: vs, d' :: ds, j + 1, v, ⟨h1, h2⟩, e, hz, ev, hv => by
    obtain ⟨p, rfl⟩ := hz 0 (by omega) m rfl
    exact ⟨h1, FieldsR.put h2 (by simpa using e) (fun i hi m' hm => hz (i + 1) (by omega) m' (by simpa using hm)) (by simpa using ev) hv⟩
  | [], _, _, _, _, _, e, _, _, _ => by simp at e
  | _ :: _, [], _, _, _, h, _, _, _, _ => h.elim
  | _ :: _, _ :: _, [], _, _, h, _, _, _, _ => h.elim
def eSf (i j : Nat) : EF := fun ρ => match ρ[i]? with
  | some (.ins _ ds) => ds[j]?
  | _ => none
theorem take_get {names : List Str} {n j : Nat} {f : Str} (h : names[j]? = some f) (hj : j < n) : (names.take n)[j]? = some f := by rw [List.getElem?_take_of_lt hj]; exact h
theorem sf_core {K : PySem.W.Frag} {F H : Hp} {O : Own} {σ : L2.St} {ρ : List D} {i : Nat} {ms : List FM} {m : FM} (C : ClsF K T cl j x) (R : Rl K T H0 Γ F O σ H ρ) (hm : Γ[i]? = some (.os (.ins cl ms))) (hj : ms[j]? = some m) :
    ∃ a dx fs v d, σ[i]? = some (some (.ref a)) ∧ eSf i j ρ = some d ∧ H a = some (.ins (T cl).1 dx fs) ∧ fs.lookup x = some v ∧ FieldR K T H0 F H (O i) v d m := by
  obtain ⟨v, d, h1, h2, a, dx, fs, ds, e1, e2, h3, h4, hz, h5, h6⟩ := R.sl i _ hm
  subst e1; subst e2
  obtain ⟨w, y, h7, h8, h9⟩ := h6.get hj
  have hl := h6.len
  have hj2 : j < ms.length := (List.getElem?_eq_some_iff.mp hj).1
  refine ⟨a, dx, fs, w, y, h1, by unfold eSf; rw [h2]; exact h8, h3, ?_, h9⟩
  rw [lookup_names h5 (C.nd.sublist (List.take_sublist _ _)) (take_get C.nm (by omega))]
  exact h7
theorem de_sfo {i : Nat} {ms : List FM} (C : ClsF X.K T cl j x) (hm : Γ[i]? = some (.os (.ins cl ms))) (hj : ms[j]? = some (.ow q)) (h : PE X (.Attribute o x pos) (tFld X.K (tVar i) x)) : DE X T H0 Γ (.Attribute o x pos) (eSf i j) (.bl q) :=
  PE.wk h fun σ H Q ⟨F, O, ρ, d, R, hf, hq⟩ => by
    obtain ⟨a, dx, fs, v, d', h1, h2, h3, h4, b, vs, es, e1, e2, h6, _, h7⟩ := sf_core C R hm hj
    rw [h2] at hf; cases hf
    exact ⟨.ref a, h1, a, _, dx, fs, v, rfl, h3, C.cl, C.na, h4, hq F H v R (.refl _) (.refl _) ⟨b, vs, es, e1, e2, h6, h7⟩⟩
def sSf (i : Nat) (fe : EF) : SF := fun ρ => (fe ρ).bind fun d => match ρ[i]? with
  | some (.ins c ds) => some (.nx (ρ.set i (.ins c (ds ++ [d]))))
  | _ => none
theorem Rl.ups {K : PySem.W.Frag} {F H : Hp} {O O' : Own} {σ : L2.St} {ρ : List D} {i : Nat} {S S' : Shp} {a : Addr} {u : HO} {d : D} (R : Rl K T H0 Γ F O σ H ρ) (hm : Γ[i]? = some (.os S)) (ha : O i a) (hu : isMut u = true) (hO : ∀ j b, O' j b → O j b ∨ (j = i ∧ F b = none ∧ (∀ j, ¬ O j b) ∧ ∃ o, H b = some o ∧ isMut o = true)) (hO2 : ∀ j b, O j b → O' j b)
    (hn : ∃ v, σ[i]? = some (some v) ∧ OwnS K T H0 F (upd H a u) (O' i) v d S') : Rl K T H0 (Γ.set i (.os S')) F O' σ (upd H a u) (ρ.set i d) := by
  have hi : i < Γ.length := (List.getElem?_eq_some_iff.mp hm).1
  have fa := (R.on i a ha).1
  have TB : LamX.Tabs T.t (upd H a u) := let ⟨_, _, z1, z2⟩ := R.on i a ha; tabs_up R.tb z1 z2
  refine ⟨R.h0, fun b o e => ?_, fun j b h => ?_, fun j k b h1 h2 => ?_, by simp [R.ls], by simp [R.lr], fun j mj hj => ?_, R.nF, TB⟩
  · rw [upd_ne (ne_of_none e fa)]; exact R.fh _ _ e
  · have key : F b = none ∧ ∃ o, H b = some o ∧ isMut o = true := by
      rcases hO j b h with h | ⟨_, h1, _, h2⟩
      · exact R.on j b h
      · exact ⟨h1, h2⟩
    obtain ⟨k1, o, k2, k3⟩ := key
    by_cases hb : b = a
    · subst hb; exact ⟨k1, u, upd_same, hu⟩
    · exact ⟨k1, o, by rw [upd_ne hb]; exact k2, k3⟩
  · rcases hO j b h1 with h1 | ⟨e1, _, n1, _⟩ <;> rcases hO k b h2 with h2 | ⟨e2, _, n2, _⟩
    · exact R.od j k b h1 h2
    · exact (n2 j h1).elim
    · exact (n1 k h2).elim
    · rw [e1, e2]
  · by_cases hji : j = i
    · subst hji
      rw [List.getElem?_set_self hi] at hj
      cases hj
      rw [List.getElem?_set_self (by rw [R.lr]; exact hi)]
      obtain ⟨v, h1, h2⟩ := hn
      exact ⟨v, d, h1, rfl, h2⟩
    · rw [List.getElem?_set_ne (Ne.symm hji)] at hj
      rw [List.getElem?_set_ne (Ne.symm hji)]
      have s := R.sl j mj hj
      have ne : ∀ b, O j b → b ≠ a := fun b hb z => by subst z; exact hji (R.od _ _ _ hb ha)
      cases mj with
      | no => trivial
      | fz k => exact s
      | fl k => exact s
      | ow k =>
        obtain ⟨b, ws, es, h1, h2, h3, h4, h5⟩ := s
        exact ⟨b, ws, es, h1, h2, by rw [upd_ne (ne b h4)]; exact h3, hO2 _ _ h4, h5⟩
      | os S2 =>
        obtain ⟨v, d2, h1, h2, h3⟩ := s
        exact ⟨v, d2, h1, h2, h3.move (.refl _) (fun b hb => by rw [upd_ne (ne b hb)]) fun b hb => hO2 _ _ hb⟩
theorem names_snoc {names : List Str} {n : Nat} {f : Str} (h : names[n]? = some f) : names.take n ++ [f] = names.take (n + 1) := by
  rw [List.take_add_one, h]; rfl
theorem notin_take {names : List Str} {n : Nat} {f : Str} (nd : names.Nodup) (h : names[n]? = some f) : f ∉ names.take n := fun hm => by
  obtain ⟨i, hi, e⟩ := List.mem_iff_getElem.mp hm
  have hi2 : i < n := by rw [List.length_take] at hi; omega
  have e2 : names[i]? = some f := by
    have := List.getElem?_eq_getElem hi
    rw [e, List.getElem?_take_of_lt hi2] at this
    exact this
  have := nodup_ix nd e2 h
  omega
theorem ds_sfq {i : Nat} {ms : List FM} (C : ClsF X.K T cl ms.length x) (hm : Γ[i]? = some (.os (.ins cl ms))) (hl : (T cl).2.length ≤ 100) (h : PS X st (sFld X.K (tVar i) (tD X.K T H0 Γ fe (.q q)) x)) : DS X T H0 Γ st (sSf i fe) (Γ.set i (.os (.ins cl (ms ++ [.fz q])))) J :=
  PS.wk h fun E σ H ⟨F, O, ρ, out, R, hf, hq⟩ => by
    unfold sSf at hf
    cases h1 : fe ρ with
    | none => rw [h1] at hf; cases hf
    | some y =>
      rw [h1] at hf
      simp only [Option.bind_some] at hf
      refine ⟨F, O, ρ, y, R, h1, fun F1 H1 v R1 s1 t1 r1 => ?_⟩
      obtain ⟨v0, d0, h2, h3, a, dx, fs, ds, e1, e2, h4, h5, hz, h6, h7⟩ := R1.sl i _ hm
      subst e1; subst e2
      rw [h3] at hf
      cases hf
      have hlen := h7.len
      have hx : x ∉ fs.map (·.1) := by rw [h6, hlen.2]; exact notin_take C.nd C.nm
      have hfl : fs.length = ms.length := by rw [← hlen.1, List.length_map]
      have hlt : ms.length < (T cl).2.length := (List.getElem?_eq_some_iff.mp C.nm).1
      refine ⟨.ref a, h2, a, _, dx, fs, rfl, h4, C.cl, C.na, by omega, ?_⟩
      rw [putF_new hx]
      refine hq F1 O σ _ s1 (R1.ups (O' := O) hm h5 rfl (fun j b h => .inl h) (fun j b h => h) ⟨_, h2, a, dx, _, _, rfl, rfl, upd_same, h5, hz, ?_, ?_⟩)
      · rw [List.map_append, h6, List.length_append, List.length_cons, List.length_nil, hlen.2]
        exact names_snoc C.nm
      · rw [List.map_append]
        refine FieldsR.snoc (m := .fz q) r1 (?_ : FieldsR _ _ _ _ _ _ _ _ _)
        have hsep : ∀ b, O i b → b ≠ a → (upd H1 a (.ins (T cl).1 dx (fs ++ [(x, v)]))) b = H1 b := fun b _ hb => upd_ne hb
        have : ∀ {ms : List FM} {vs : List V} {ds : List D}, FieldsR X.K T H0 F1 H1 (O i) ms vs ds → FieldsR X.K T H0 F1 (upd H1 a (.ins (T cl).1 dx (fs ++ [(x, v)]))) (O i) ms vs ds := by
          intro ms
          induction ms with
          | nil => intro vs ds h; cases vs <;> cases ds <;> first | trivial | exact h.elim
          | cons m ms ih =>
            intro vs ds h
            cases vs with
            | nil => exact h.elim
            | cons w vs =>
              cases ds with
              | nil => exact h.elim
              | cons d ds =>
                refine ⟨?_, ih h.2⟩
                cases m with
                | fz p => exact h.1
                | ow p =>
                  obtain ⟨b, us, es, g1, g2, g3, g4, g5⟩ := h.1
                  refine ⟨b, us, es, g1, g2, ?_, g4, g5⟩
                  rw [hsep b g4 (fun z => by subst z; rw [h4] at g3; cases g3)]; exact g3
        exact this h7
theorem FieldsR.upi {K : PySem.W.Frag} {h0 : Hp} {F H : Hp} {o o' : Addr → Prop} {a C dx : Addr} {fs : List (Str × V)} {u : HO} (ha : H a = some (.ins C dx fs)) (ho : ∀ b, o b → o' b) : ∀ {ms : List FM} {vs : List V} {ds : List D}, FieldsR K T h0 F H o ms vs ds → FieldsR K T h0 F (upd H a u) o' ms vs ds
  | [], [], [], _ => trivial
  | m :: ms, v :: vs, d :: ds, ⟨h1, h2⟩ => by
    refine ⟨?_, FieldsR.upi ha ho h2⟩
    cases m with
    | fz p => exact h1
    | ow p =>
      obtain ⟨b, us, es, g1, g2, g3, g4, g5⟩ := h1
      exact ⟨b, us, es, g1, g2, by rw [upd_ne (fun z => by subst z; rw [ha] at g3; cases g3)]; exact g3, ho _ g4, g5⟩
  | [], _ :: _, _, h => h.elim
  | [], [], _ :: _, h => h.elim
  | _ :: _, [], _, h => h.elim
  | _ :: _, _ :: _, [], h => h.elim
theorem ds_sfo {i : Nat} {ms : List FM} (C : ClsF X.K T cl ms.length x) (hm : Γ[i]? = some (.os (.ins cl ms))) (hl : (T cl).2.length ≤ 100) (h : PS X st (sFld X.K (tVar i) (tD X.K T H0 Γ fe (.ol q)) x)) : DS X T H0 Γ st (sSf i fe) (Γ.set i (.os (.ins cl (ms ++ [.ow q])))) J :=
  PS.wk h fun E σ H ⟨F, O, ρ, out, R, hf, hq⟩ => by
    unfold sSf at hf
    cases h1 : fe ρ with
    | none => rw [h1] at hf; cases hf
    | some y =>
      rw [h1] at hf
      simp only [Option.bind_some] at hf
      refine ⟨F, O, ρ, y, R, h1, fun F1 H1 v R1 s1 t1 ⟨b, vs, es, e3, e4, g1, g2, g3, g4⟩ => ?_⟩
      subst e3; subst e4
      obtain ⟨v0, d0, h2, h3, a, dx, fs, ds, e1, e2, h4, h5, hz, h6, h7⟩ := R1.sl i _ hm
      subst e1; subst e2
      rw [h3] at hf
      cases hf
      have hlen := h7.len
      have hx : x ∉ fs.map (·.1) := by rw [h6, hlen.2]; exact notin_take C.nd C.nm
      have hfl : fs.length = ms.length := by rw [← hlen.1, List.length_map]
      have hlt : ms.length < (T cl).2.length := (List.getElem?_eq_some_iff.mp C.nm).1
      have hba : b ≠ a := fun z => by subst z; exact g3 i h5
      refine ⟨.ref a, h2, a, _, dx, fs, rfl, h4, C.cl, C.na, by omega, ?_⟩
      rw [putF_new hx]
      refine hq F1 (resv O i b) σ _ s1 (R1.ups (O' := resv O i b) hm h5 rfl (fun j c h => ?_) (fun j c h => .inl h) ⟨_, h2, a, dx, _, _, rfl, rfl, upd_same, .inl h5, hz, ?_, ?_⟩)
      · rcases h with h | ⟨e1, e2⟩
        · exact .inl h
        · subst e2; exact .inr ⟨e1, g2, g3, _, g1, rfl⟩
      · rw [List.map_append, h6, List.length_append, List.length_cons, List.length_nil, hlen.2]
        exact names_snoc C.nm
      · rw [List.map_append]
        exact FieldsR.snoc (m := .ow q) ⟨b, vs, es, rfl, rfl, by rw [upd_ne hba]; exact g1, .inr ⟨rfl, rfl⟩, g4⟩ (FieldsR.upi h4 (fun b h => .inl h) h7)
def sSa (i j : Nat) (fe : EF) : SF := fun ρ => match ρ[i]? with
  | some (.ins c ds) => (match ds[j]? with
    | some (.lst es) => (fe ρ).bind fun d => if es.length < 1000000 then some (.nx (ρ.set i (.ins c (ds.set j (.lst (es ++ [d])))))) else none
    | _ => none)
  | _ => none
def onlyOw (ms : List FM) (j : Nat) : Bool := (List.range ms.length).all fun i => i == j || (match ms[i]? with
  | some (.fz _) => true
  | _ => false)
theorem onlyOw_of {ms : List FM} {j : Nat} (h : onlyOw ms j = true) : ∀ i, i ≠ j → ∀ m, ms[i]? = some m → ∃ p, m = .fz p := fun i hi m hm => by
  have := List.all_eq_true.mp h i (List.mem_range.mpr (List.getElem?_eq_some_iff.mp hm).1)
  rw [Bool.or_eq_true] at this
  rcases this with h | h
  · exact (hi (by simpa using h)).elim
  · rw [hm] at h
    cases m with
    | fz p => exact ⟨p, rfl⟩
    | ow p => cases h
theorem ds_sfa {i : Nat} {ms : List FM} (C : ClsF X.K T cl j x) (hm : Γ[i]? = some (.os (.ins cl ms))) (hj : ms[j]? = some (.ow q)) (hon : onlyOw ms j = true) (h : PE X e (tBM X.K "list" rAppend (tFld X.K (tVar i) x) (tCons (tD X.K T H0 Γ fe (.q q)) tNil))) (hs : swapsWith e none pos.line X.env = pure false := by rfl) : DS X T H0 Γ (.Expr e pos) (sSa i j fe) Γ J :=
  PS.wk (ps_expr h hs) fun E σ H ⟨F, O, ρ, out, R, hf, hq⟩ => by
    obtain ⟨v0, d0, h2, h3, a, dx, fs, ds, e1, e2, h4, h5, hz, h6, h7⟩ := R.sl i _ hm
    subst e1; subst e2
    unfold sSa at hf
    rw [h3] at hf
    simp only at hf
    obtain ⟨w, y, g1, g2, b, vs, es, e3, e4, g3, g4, g5⟩ := h7.get hj
    subst e3; subst e4
    rw [g2] at hf
    simp only at hf
    have hlen := h7.len
    have hj2 : j < ms.length := (List.getElem?_eq_some_iff.mp hj).1
    cases h8 : fe ρ with
    | none => rw [h8] at hf; cases hf
    | some d =>
      rw [h8] at hf
      simp only [Option.bind_some] at hf
      split at hf
      · rename_i hl
        cases hf
        have hlook : fs.lookup x = some (.ref b) := by
          rw [lookup_names h6 (C.nd.sublist (List.take_sublist _ _)) (take_get C.nm (by omega))]; exact g1
        refine ⟨.ref a, h2, a, _, dx, fs, _, rfl, h4, C.cl, C.na, hlook, .inl ⟨rfl, vs, SqL.of g3⟩, F, O, ρ, d, R, h8, fun F1 H1 v R1 s1 t1 r1 => ?_⟩
        have g6 := t1 _ _ g3
        have h9 := t1 _ _ h4
        have hba : a ≠ b := fun z => by subst z; rw [h4] at g3; cases g3
        refine ⟨b, vs, v, rfl, rfl, g6, by rw [g5.length]; exact lt_line hl, ?_⟩
        have h10 : FieldsR X.K T H0 F1 H1 (O i) ms (fs.map (·.2)) ds := h7.move s1 (fun c hc => by
          obtain ⟨_, o, k1, k2⟩ := R.on i c hc
          rw [t1 _ _ k1 (isT_mut k2), k1]) fun _ h => h
        have R2 := R1.ups (O' := O) (S' := .ins cl ms) (u := .lst (vs ++ [v])) (d := .ins cl (ds.set j (.lst (es ++ [d])))) hm g4 rfl (fun j b h => .inl h) (fun j b h => h) ⟨_, h2, a, dx, fs, _, rfl, rfl, by rw [upd_ne hba]; exact h9, h5, hz, by rw [List.length_set]; exact h6,
          h10.put hj (onlyOw_of hon) g1 ⟨b, _, _, rfl, rfl, upd_same, g4, (s1.rqs g5).append (.cons r1 .nil)⟩⟩
        rw [set_same hm] at R2
        exact hq F1 O σ _ s1 R2
      · cases hf

def spI (K : PySem.W.Frag) (T : Tb) (c n : Nat) (φ : List D → Option (List D)) (q : Q3) : Sp := fun vs H Q _ => ∃ x as, vs = .ref x :: as ∧ as.length = n ∧ ∃ dx ds fds, H x = some (.ins (T c).1 dx []) ∧ LamX.Tabs T.t H ∧ RUs K T (cut (ntb H) (· = x)) as ds ∧ φ ds = some fds ∧
  ∀ F H' dx' fs, Same (cut (ntb H) (· = x)) F → F x = none → Same F H' → (NoT F ∧ LamX.Tabs T.t H') → H' x = some (.ins (T c).1 dx' fs) → fs.map (·.1) = (T c).2 → Rqs K T (cut (ntb H) (· = x)) q F (fs.map (·.2)) fds → Q .non H'
def initD (c : Nat) (pks : List PKn) (m : Nat) (body : SF) : List D → Option (List D) := fun args =>
  if chks pks args = true then (body (.ins c [] :: (args ++ List.replicate m .non))).bind fun (o : Out) => match o with
    | Out.nx ρ => (match ρ[0]? with
      | some (D.ins _ ds) => some ds
      | _ => none)
    | _ => none
  else none
structure OkC (P : Program) (w : World) (K : PySem.W.Frag) (mg : Str → Option Value) (base : Heap) (T : Tb) (k : Nat) (c : Nat) (x : Str) (n : Nat) (φ : List D → Option (List D)) (q : Q3) : Prop where
  ex : ∃ fi fd ps, ps.length = n + 1 ∧ Mk K (T c).1 fi ∧ Binds K fd ps [] ∧ FnOk P w K mg base CX0 k fi fd ps (spI K T c n φ q)
  mg : mg x = some (.ref (T c).1)
def eMake (c : Nat) (φ : List D → Option (List D)) (fs : List D → Option (List D)) : EF := fun ρ => ((fs ρ).bind φ).map (.ins c)
theorem make_sem {K : PySem.W.Frag} {n : Nat} {φ : List D → Option (List D)} {E : XK} (hp : p.le .L = true) (hn : ∀ ρ ds, fs ρ = some ds → ds.length = n) :
    ∀ σ H Q, tD K T H0 Γ (eMake cl φ fs) (.q .L) σ H Q → tMake (T cl).1 (spI K T cl n φ p) [] E (tDA K T H0 Γ fs) σ H Q := by
  rintro σ H Q ⟨F, O, ρ, d, R, hf, hq⟩
  unfold eMake at hf
  cases h1 : fs ρ with
  | none => rw [h1] at hf; cases hf
  | some ds =>
    rw [h1] at hf
    simp only [Option.bind_some] at hf
    cases h2 : φ ds with
    | none => rw [h2] at hf; cases hf
    | some fds =>
      rw [h2] at hf
      cases hf
      refine ⟨F, O, ρ, ds, R, h1, fun F1 H1 vs R1 s1 t1 r1 => ?_⟩
      intro x dx hx hdx hne
      show spI K T cl n φ p (.ref x :: (vs ++ [])) _ _ E
      rw [List.append_nil]
      have s2' : Same H1 (upd (upd H1 dx (.own x)) x (.ins (T cl).1 dx [])) := fun b o e => by
        have hb : ¬ b = x := ne_of_none e hx
        rw [upd_ne hb, upd_ne (ne_of_none e hdx)]; exact e
      have s2 : Sm H1 (cut (ntb (upd (upd H1 dx (.own x)) x (.ins (T cl).1 dx []))) (· = x)) := ⟨fun b o e n => by
        have hb : ¬ b = x := ne_of_none e hx
        rw [cut_out (S := (· = x)) hb]; exact ntb_some (s2' _ _ e) n⟩
      refine ⟨x, vs, rfl, by rw [r1.length]; exact hn _ _ h1, dx, ds, fds, upd_same, R1.tb.ext s2', s2.rUs r1, h2, fun F2 H' dx' fs' s3 f3 s4 n4 h4 h5 h6 => ⟨rfl, ?_⟩⟩
      have s5 : Sm H1 F2 := s2.trans s3.sm
      have sF : Same F1 (upd (cut F2 fun b => ∃ i, O i b) x (.ins (T cl).1 dx' fs')) := fun b o e => by
        have hb : b ≠ x := ne_of_none (R1.fh _ _ e) hx
        rw [upd_ne hb, cut_out]
        · exact s5 _ _ (R1.fh _ _ e) (R1.nF _ _ e)
        · rintro ⟨i, hi⟩
          rw [(R1.on i b hi).1] at e; cases e
      have sC : Same (cut F2 fun b => ∃ i, O i b) (upd (cut F2 fun b => ∃ i, O i b) x (.ins (T cl).1 dx' fs')) := fun b o e => by
        unfold cut at e
        split at e
        · cases e
        · rename_i hb
          rw [upd_ne (ne_of_none e f3), cut_out hb]; exact e
      refine hq _ H' (.ref x) ((R1.grow (s5.trans s4.sm) n4.2).more sF (fun b o e => ?_) (n4.1.cut.upd rfl) (fun i b hi => ?_)) (s1.trans sF) (t1.trans (s5.trans s4.sm)) ?_
      · by_cases hb : b = x
        · subst hb; rw [upd_same] at e; cases e; exact h4
        · rw [upd_ne hb] at e
          unfold cut at e
          split at e
          · cases e
          · exact s4 _ _ e
      · obtain ⟨_, o, k1, _⟩ := R1.on i b hi
        rw [upd_ne (ne_of_none k1 hx)]
        exact cut_in ⟨i, hi⟩
      · refine RepG.ins upd_same (show H0.h x = none from (R1.h0.trans R1.fh).free hx) h5 ?_
        refine (RepsG.cut (S := fun b => ∃ i, O i b) (fun a ha => ?_) (fun a o e hm => ?_) h6).mono sC fun a ha => ?_
        · rintro ⟨i, hi⟩
          obtain ⟨_, o, k1, k2⟩ := R1.on i a hi
          cases p with
          | A => exact ha
          | L =>
            have ha : cut (ntb (upd (upd H1 dx (.own x)) x (.ins (T cl).1 dx []))) (· = x) a = none := ha
            rw [s2 _ _ k1 (isT_mut k2)] at ha; cases ha
          | U => cases hp
        · rintro ⟨i, hi⟩
          obtain ⟨_, u, k1, k2⟩ := R1.on i a hi
          rw [s5 _ _ k1 (isT_mut k2)] at e; cases e
          rw [hm] at k2; cases k2
        · cases p with
          | A => exact ha.elim
          | L => exact (Sm.ofF (fun b o e => R1.nF _ _ (R1.h0 _ _ e)) (R1.h0.trans R1.fh) s2).free ha
          | U => cases hp
theorem de_make {i k : Nat} {n : Nat} {φ : List D → Option (List D)} (h : OkC X.prog X.w X.K X.mg X.base T i cl x n φ p) (hr : Room k X.A) (hg : Gl X x) (ha : DA X T H0 Γ (e :: es) fs) (hn : ∀ ρ ds, fs ρ = some ds → ds.length = n) (hp : p.le .L = true := by rfl) (hj : i + 1 ≤ k := by decide)
    (hdb : (x == ("__debug__" : Str)) = false := by decide) (he : starEach (e :: es) X.env = (false, eval e X.env) :: starEach es X.env := by rfl) (hpl : (backTo pos (starEach es X.env)).any (·.1) = false := by rfl) :
    DE X T H0 Γ (.Call (.Name x po) (e :: es) [] pos) (eMake cl φ fs) (.q .L) := by
  obtain ⟨f, fd, ps, h1, h2, h3, h4⟩ := h.ex
  exact PE.wk (pe_make h2 h4 (hr.mono hj) hg h.mg h3 .nil pass0 ha hdb he hpl) (make_sem hp hn)
end
end DL

namespace DL
open PySem PySem.Spec PyProof.Rows L2
theorem slot_start {K : PySem.W.Frag} {T : Tb} {z : HZ} {F H : Hp} {o : Addr → Prop} {pks : List PKn} {m n : Nat} {vs : List V} {ds : List D} (hr : RUs K T F vs ds) (hc : chks pks ds = true) {i : Nat} {md : Mode} (hm : (ms0 pks m)[i]? = some md) :
    SlotR K T z F H o (vs.map some ++ List.replicate n none)[i]? (ds ++ List.replicate m D.non)[i]? md := by
  have hl := chks_len hc
  have hv := hr.length
  by_cases hi : i < pks.length
  · unfold ms0 at hm
    rw [List.getElem?_append_left (by simpa using hi), List.getElem?_map] at hm
    cases hp : pks[i]? with
    | none => rw [hp] at hm; cases hm
    | some p =>
      rw [hp] at hm
      cases hm
      obtain ⟨d, h1, h2⟩ := chks_get hc hp
      obtain ⟨v, h3, h4⟩ := hr.get h1
      have e1 : (vs.map some ++ List.replicate n none)[i]? = some (some v) := by
        rw [List.getElem?_append_left (by rw [List.length_map]; omega), List.getElem?_map, h3]; rfl
      have e2 : (ds ++ List.replicate m D.non)[i]? = some d := by
        rw [List.getElem?_append_left (by omega), h1]
      rw [e1, e2]
      cases p with
      | U => exact ⟨v, d, rfl, rfl, h4⟩
      | A => exact ⟨v, d, rfl, rfl, h4.lf h2⟩
      | fA =>
        cases d <;> first | (cases h2; done) | skip
        cases h4 with
        | @lst a vs ds h5 h6 h7 => exact ⟨a, vs, _, rfl, rfl, h5, RepsG.lf h7 h2⟩
      | fU =>
        cases d <;> first | (cases h2; done) | skip
        cases h4 with
        | @lst a vs ds h5 h6 h7 => exact ⟨a, vs, _, rfl, rfl, h5, h7⟩
  · unfold ms0 at hm
    rw [List.getElem?_append_right (by simpa using hi)] at hm
    have : md = .no := by
      have := List.mem_of_getElem? hm
      rw [List.mem_replicate] at this
      exact this.2
    subst this
    trivial
def fmOk (q : Q3) : FM → Bool
  | .fz p => p.le q
  | .ow p => p.le q && Q3.L.le q
theorem fields_frz {K : PySem.W.Frag} {T : Tb} {h0 : Hp} {F F' H : Hp} {o : Addr → Prop} {q : Q3} (e : Same F F') (hH : ∀ b vs, o b → H b = some (.lst vs) → F' b = some (.lst vs)) (hN : ∀ b, o b → h0 b = none) : ∀ {ms : List FM} {vs : List V} {ds : List D}, ms.all (fmOk q) = true → FieldsR K T h0 F H o ms vs ds → Rqs K T h0 q F' vs ds
  | [], [], [], _, _ => .nil
  | m :: ms, v :: vs, d :: ds, h, ⟨h1, h2⟩ => by
    rw [List.all_cons, Bool.and_eq_true] at h
    refine .cons ?_ (fields_frz e hH hN h.2 h2)
    cases m with
    | fz p => exact RepG.mono e (NK.le h.1) h1
    | ow p =>
      obtain ⟨b, us, es, g1, g2, g3, g4, g5⟩ := h1
      have h3 := h.1
      unfold fmOk at h3
      rw [Bool.and_eq_true] at h3
      subst g1; subst g2
      exact .lst (hH _ _ g4 g3) (NK.le h3.2 _ (hN _ g4)) (g5.mono e (NK.le h3.1))
  | [], _ :: _, _, _, h => h.elim
  | [], [], _ :: _, _, h => h.elim
  | _ :: _, [], _, _, h => h.elim
  | _ :: _, _ :: _, [], _, h => h.elim
section
variable {P : Program} {w : World} {K : PySem.W.Frag} {mg : Str → Option Value} {base : Heap} {T : Tb}
theorem fn_init {x qual : Str} {st : Stmt} {N ps : List Str} {pks : List PKn} {m k c : Nat} {body : SF} {Γn : List Mode} {ms : List FM} {q : Q3} {f : Addr} {fd : FuncData} (F : Fun K x qual st f fd) (S : FnScope N ps (defScope st)) (hN : N.length = pks.length + 1 + m) (hp : ps.length = pks.length + 1)
    (hΓ : Γn[0]? = some (.os (.ins c ms))) (hms : ms.length = (T c).2.length) (hq : ms.all (fmOk q) = true)
    (hb : ∀ (f : Addr) (cdv : Value) (A : Around) (outer : List Env) (s : Shared) (H : Hp) (E : XK) (z : Addr), Room k (bodyX P w K mg base N qual st f cdv A outer s H E).A → DSs (bodyX P w K mg base N qual st f cdv A outer s H E) T ⟨cut (ntb H) (· = z), z, []⟩ (.os (.ins c []) :: ms0 pks m) (defBody st) body Γn (jm (.q .A))) :
    FnOk P w K mg base CX0 (k + 1) f fd ps (spI K T c pks.length (initD c pks m body) q) := by
  refine F.ok S (fun vs H Q E h => ?_) fun cdv A outer s H vs Q E hr h => ?_
  · obtain ⟨z, as, rfl, hl, _⟩ := h
    rw [List.length_cons, hl, hp]
  obtain ⟨z, as, rfl, hl, dx, ds, fds, hz, ht, r, hf, hQ⟩ := h
  refine ⟨_, hb f cdv A outer s H E z hr, ?_⟩
  unfold initD at hf
  split at hf
  · rename_i hc
    cases h1 : body (D.ins c [] :: (ds ++ List.replicate m D.non)) with
    | none => rw [h1] at hf; cases hf
    | some o =>
      rw [h1] at hf
      simp only [Option.bind_some] at hf
      have hlen := chks_len hc
      have cs : Same (cut (ntb H) (· = z)) H := fun b o e => by
        unfold cut at e
        split at e
        · cases e
        · exact ntb_le e
      have R0 : Rl K T ⟨cut (ntb H) (· = z), z, []⟩ (.os (.ins c []) :: ms0 pks m) (cut (ntb H) (· = z)) (fun i b => i = 0 ∧ b = z) (L2.start N (.ref z :: as)) H (D.ins c [] :: (ds ++ List.replicate m D.non)) := by
        have nn : NoT (cut (ntb H) (· = z)) := NoT.cut fun b o e => ntb_not e
        refine ⟨.refl _, cs, fun i b hb => ?_, fun i j b h1 h2 => by rw [h1.1, h2.1], ?_, ?_, fun i md hm => ?_, nn, ht⟩
        · obtain ⟨_, rfl⟩ := hb
          exact ⟨cut_in (S := (· = b)) rfl, _, hz, rfl⟩
        · unfold L2.start; simp; omega
        · simp; omega
        · cases i with
          | zero =>
            cases hm
            exact ⟨.ref z, _, rfl, rfl, z, dx, [], [], rfl, rfl, hz, ⟨rfl, rfl⟩, rfl, by simp, trivial⟩
          | succ i =>
            rw [List.getElem?_cons_succ] at hm ⊢
            unfold L2.start
            rw [List.map_cons, List.cons_append, List.getElem?_cons_succ]
            exact slot_start r hc hm
      refine ⟨_, _, _, o, R0, h1, ?_⟩
      split at hf
      · rename_i ρ
        split at hf
        · rename_i c' ds' hρ
          cases hf
          intro F' O' σ' H' s' R'
          obtain ⟨v, d, g1, g2, a, dx', fs, es, e1, e2, g3, g4, g5, g6, g7⟩ := R'.sl 0 _ hΓ
          rw [hρ] at g2
          cases g2
          cases e2
          have g5 : a = z := g5
          subst g5
          have hes := g7.len
          classical
          have sF : Same F' (fun b => if O' 0 b ∧ b ≠ a then H' b else F' b) := fun b o e => by
            show (if O' 0 b ∧ b ≠ a then H' b else F' b) = some o
            rw [if_neg]
            · exact e
            · rintro ⟨h2, _⟩
              rw [(R'.on 0 b h2).1] at e; cases e
          refine hQ (fun b => if O' 0 b ∧ b ≠ a then H' b else F' b) H' dx' fs (R'.h0.trans sF) ?_ (fun b o e => ?_) ⟨fun b o e => ?_, R'.tb⟩ g3 ?_ ?_
          · show (if O' 0 a ∧ a ≠ a then H' a else F' a) = none
            rw [if_neg (fun z => z.2 rfl)]
            exact (R'.on 0 a g4).1
          · have e : (if O' 0 b ∧ b ≠ a then H' b else F' b) = some o := e
            split at e
            · exact e
            · exact R'.fh _ _ e
          · have e : (if O' 0 b ∧ b ≠ a then H' b else F' b) = some o := e
            split at e
            · rename_i hb
              obtain ⟨_, u, z1, z2⟩ := R'.on 0 b hb.1
              rw [z1] at e; cases e
              exact isT_mut z2
            · exact R'.nF _ _ e
          · rw [g6, hes.2, hms, List.take_length]
          · refine fields_frz sF (fun b vs hb hv => ?_) (fun b hb => R'.h0.free (R'.on 0 b hb).1) hq g7
            show (if O' 0 b ∧ b ≠ a then H' b else F' b) = _
            rw [if_pos ⟨hb, fun z => by subst z; rw [g3] at hv; cases hv⟩]
            exact hv
        · cases hf
      · cases hf
  · cases hf
structure FtC (K : PySem.W.Frag) (mg : Str → Option Value) (T : Tb) (c : Nat) (x : Str) : Prop where
  mg : mg x = some (.ref (T c).1)
  cl : Cls K (T c).1
structure FtM (K : PySem.W.Frag) (T : Tb) (c : Nat) (m qual : Str) (st : Stmt) (ps : List Str) : Prop where
  ex : ∃ f fd, Fun K m qual st f fd ∧ Binds K fd ps [] ∧ Meth K (T c).1 m f
  cl : Cls K (T c).1
  no : m ∉ (T c).2
structure FtI (K : PySem.W.Frag) (mg : Str → Option Value) (T : Tb) (c : Nat) (x qual : Str) (st : Stmt) (ps : List Str) : Prop where
  ex : ∃ f fd, Fun K "__init__" qual st f fd ∧ Binds K fd ps [] ∧ Mk K (T c).1 f
  mg : mg x = some (.ref (T c).1)
theorem mk_okm {x qual : Str} {c : Nat} {st : Stmt} {N ps : List Str} {pks : List PKn} {m k : Nat} {body : SF} {Γn : List Mode} {rk : RK} {nx : Bool} (F : FtM K T c x qual st ps) (S : FnScope N ps (defScope st)) (hN : N.length = pks.length + m) (hp : ps.length = pks.length)
    (hnx : nx = true → ∃ q, rk = .q q) (hb : ∀ (f : Addr) (cdv : Value) (A : Around) (outer : List Env) (s : Shared) (H : Hp) (E : XK), Room k (bodyX P w K mg base N qual st f cdv A outer s H E).A → DSs (bodyX P w K mg base N qual st f cdv A outer s H E) T ⟨ntb H, 0, []⟩ (ms0 pks m) (defBody st) body Γn (jm rk)) :
    OkM P w K mg base T (k + 1) c x ps (fnD pks m nx body) rk := by
  obtain ⟨f, fd, h1, h2, h3⟩ := F.ex
  exact ⟨⟨f, fd, h3, h2, fn_body h1 S hN hp hnx hb⟩, F.cl, F.no⟩
theorem mk_okc {x qual : Str} {st : Stmt} {N ps : List Str} {pks : List PKn} {m k c : Nat} {body : SF} {Γn : List Mode} {ms : List FM} {q : Q3} (F : FtI K mg T c x qual st ps) (S : FnScope N ps (defScope st)) (hN : N.length = pks.length + 1 + m) (hp : ps.length = pks.length + 1)
    (hΓ : Γn[0]? = some (.os (.ins c ms))) (hms : ms.length = (T c).2.length) (hq : ms.all (fmOk q) = true)
    (hb : ∀ (f : Addr) (cdv : Value) (A : Around) (outer : List Env) (s : Shared) (H : Hp) (E : XK) (z : Addr), Room k (bodyX P w K mg base N qual st f cdv A outer s H E).A → DSs (bodyX P w K mg base N qual st f cdv A outer s H E) T ⟨cut (ntb H) (· = z), z, []⟩ (.os (.ins c []) :: ms0 pks m) (defBody st) body Γn (jm (.q .A))) :
    OkC P w K mg base T (k + 1) c x pks.length (initD c pks m body) q := by
  obtain ⟨f, fd, h1, h2, h3⟩ := F.ex
  exact ⟨⟨f, fd, ps, hp, h3, h2, fn_init h1 S hN hp hΓ hms hq hb⟩, F.mg⟩
end
end DL
namespace DL
theorem aSuc {fs : List D → Option (List D)} {n : Nat} (h : ∀ ρ ds, fs ρ = some ds → ds.length = n) : ∀ ρ ds, fs ρ = some ds → ds.length + 1 = n + 1 := fun ρ ds e => by rw [h ρ ds e]
end DL

namespace DL
open PySem PySem.Spec PyProof.Rows L2
section
variable {K : PySem.W.Frag} {T : Tb} {H0 : HZ} {F F' H H' : Hp} {O O' : Own} {σ : L2.St} {ρ : List D} {Γ Γ' : List Mode} {q : Q3}
theorem RowsR.len {h0 : Hp} {o : Addr → Prop} : ∀ {rows : List Addr} {rds : List (List D)}, RowsR K T h0 q F H o rows rds → rows.length = rds.length
  | _, _, .nil => rfl
  | _, _, .cons _ r => by rw [List.length_cons, List.length_cons, RowsR.len r]
theorem RowsR.get {h0 : Hp} {o : Addr → Prop} : ∀ {rows : List Addr} {rds : List (List D)} {j : Nat} {ds : List D}, RowsR K T h0 q F H o rows rds → rds[j]? = some ds → ∃ b vs, rows[j]? = some b ∧ o b ∧ H b = some (.lst vs) ∧ Rqs K T h0 q F vs ds
  | _, _, _, _, .nil, e => by simp at e
  | _, _, 0, _, .cons ⟨h1, vs, h2, h3⟩ r, e => by
    simp at e; subst e
    exact ⟨_, vs, rfl, h1, h2, h3⟩
  | _, _, j + 1, _, .cons _ r, e => by
    obtain ⟨b, vs, h1, h2⟩ := RowsR.get (j := j) r (by simpa using e)
    exact ⟨b, vs, by simpa using h1, h2⟩
theorem RowsR.ne {h0 : Hp} {o : Addr → Prop} {b : Addr} {u : HO} : ∀ {rows : List Addr} {rds : List (List D)}, b ∉ rows → RowsR K T h0 q F H o rows rds → RowsR K T h0 q F (upd H b u) o rows rds
  | _, _, _, .nil => .nil
  | _, _, hb, .cons ⟨h1, vs, h2, h3⟩ r => by
    rw [List.mem_cons, not_or] at hb
    exact .cons ⟨h1, vs, by rw [upd_ne (Ne.symm hb.1)]; exact h2, h3⟩ (RowsR.ne hb.2 r)
theorem RowsR.put {h0 : Hp} {o : Addr → Prop} {b : Addr} {us : List V} {ds : List D} (hu : Rqs K T h0 q F us ds) : ∀ {rows : List Addr} {rds : List (List D)} {j : Nat}, rows.Nodup → rows[j]? = some b → RowsR K T h0 q F H o rows rds → RowsR K T h0 q F (upd H b (.lst us)) o rows (rds.set j ds)
  | _, _, _, _, e, .nil => by simp at e
  | _, _, 0, nd, e, .cons ⟨h1, vs, h2, h3⟩ r => by
    simp at e; subst e
    exact .cons ⟨h1, us, upd_same, hu⟩ (RowsR.ne (List.nodup_cons.mp nd).1 r)
  | _, _, j + 1, nd, e, .cons ⟨h1, vs, h2, h3⟩ r => by
    have e : _ := List.getElem?_cons_succ ▸ e
    have hb := List.mem_of_getElem? e
    exact .cons ⟨h1, vs, by rw [upd_ne (fun z => by subst z; exact (List.nodup_cons.mp nd).1 hb)]; exact h2, h3⟩ (RowsR.put hu (List.nodup_cons.mp nd).2 e r)
theorem RowsR.snoc {h0 : Hp} {o : Addr → Prop} {b : Addr} {vs : List V} {ds : List D} (ho : o b) (hb : H b = some (.lst vs)) (hv : Rqs K T h0 q F vs ds) : ∀ {rows : List Addr} {rds : List (List D)}, RowsR K T h0 q F H o rows rds → RowsR K T h0 q F H o (rows ++ [b]) (rds ++ [ds])
  | _, _, .nil => .cons ⟨ho, vs, hb, hv⟩ .nil
  | _, _, .cons h r => .cons h (RowsR.snoc ho hb hv r)

def eAt (f : EF) : EF := fun ρ => (f ρ).bind fun d => match d with
  | .int i => some (.int i)
  | .bl i => some (.bl i)
  | .non => some .non
  | .str s => some (.str s)
  | _ => none
end
section
variable {X : Cx} {T : Tb} {H0 : HZ} {Γ Γ1 Γn Γm : List Mode} {J : Jm} {e a b tg iter : Expr} {es : List Expr} {st : Stmt} {sts : List Stmt} {f g : SF} {fe fa fb : EF} {k ka kb : Knd} {pos po : Pos} {q p : Q3} {fi : List D → Option (List D)} {c : Bool} {fs : List D → Option (List D)}
def atL (ds : List D) (d : D) : Option (Nat × List D) := match d with
  | .int i => (ixN ds.length i).bind fun j => match ds[j]? with
    | some (.lst es) => some (j, es)
    | _ => none
  | _ => none
def sRa (n : Nat) (fi fe : EF) : SF := fun ρ => match ρ[n]? with
  | some (.lst ds) => (fi ρ).bind fun i => (atL ds i).bind fun x => (fe ρ).bind fun d => if x.2.length < 1000000 then some (.nx (ρ.set n (.lst (ds.set x.1 (.lst (x.2 ++ [d])))))) else none
  | _ => none
def sRs (n : Nat) (fi fj fe : EF) : SF := fun ρ => (fe ρ).bind fun d => match ρ[n]? with
  | some (.lst ds) => (fi ρ).bind fun i => (atL ds i).bind fun x => (fj ρ).bind fun m => match m with
    | .int m => (ixN x.2.length m).bind fun j => some (.nx (ρ.set n (.lst (ds.set x.1 (.lst (x.2.set j d))))))
    | _ => none
  | _ => none
end
end DL

namespace DL
open PySem PySem.Spec PyProof.Rows L2
section
variable {X : Cx} {T : Tb} {H0 : HZ} {Γ Γ1 Γn Γm : List Mode} {J : Jm} {e a b tg iter : Expr} {es : List Expr} {st : Stmt} {sts : List Stmt} {f g : SF} {fe fa fb : EF} {k ka kb : Knd} {pos po : Pos} {q p : Q3} {fi : List D → Option (List D)} {c : Bool} {fs : List D → Option (List D)}
end
end DL

namespace DL
open PySem PySem.Spec PyProof.Rows L2

def gMin (x y : D) : Option D := i2 (fun i j => some (.int (if j < i then j else i))) x y
def gMax (x y : D) : Option D := i2 (fun i j => some (.int (if j > i then j else i))) x y
def gInt (x : D) : Option D := match x with
  | .int i => some (.int i)
  | .bl b => some (.int (if b then 1 else 0))
  | _ => none
def insB {α : Type} (le : α → α → Bool) (x : α) : List α → List α
  | [] => [x]
  | y :: r => if le x y = true then x :: y :: r else y :: insB le x r
def srtB {α : Type} (le : α → α → Bool) : List α → List α
  | [] => []
  | x :: r => insB le x (srtB le r)
theorem insB_perm {α : Type} (le : α → α → Bool) (x : α) : ∀ l, (insB le x l).Perm (x :: l)
  | [] => .refl _
  | y :: r => by
    unfold insB
    split
    · exact .refl _
    · exact ((insB_perm le x r).cons y).trans (.swap _ _ _)
theorem srtB_perm {α : Type} (le : α → α → Bool) : ∀ l : List α, (srtB le l).Perm l
  | [] => .refl _
  | x :: r => (insB_perm le x (srtB le r)).trans ((srtB_perm le r).cons x)
theorem insB_pw {α : Type} {le : α → α → Bool} (tr : ∀ a b c, le a b = true → le b c = true → le a c = true) (to : ∀ a b, (le a b || le b a) = true) (x : α) : ∀ l, l.Pairwise (fun a b => le a b = true) → (insB le x l).Pairwise fun a b => le a b = true
  | [], _ => by simp [insB]
  | y :: r, h => by
    have h := List.pairwise_cons.mp h
    unfold insB
    split
    · rename_i hx
      refine List.pairwise_cons.mpr ⟨fun z hz => ?_, List.pairwise_cons.mpr h⟩
      rcases List.mem_cons.mp hz with e | hz
      · subst e; exact hx
      · exact tr _ _ _ hx (h.1 z hz)
    · rename_i hx
      refine List.pairwise_cons.mpr ⟨fun z hz => ?_, insB_pw tr to x r h.2⟩
      have hz := (insB_perm le x r).mem_iff.mp hz
      rcases List.mem_cons.mp hz with e | hz
      · subst e
        have := to z y
        rw [Bool.or_eq_true] at this
        exact this.resolve_left hx
      · exact h.1 z hz
theorem srtB_pw {α : Type} {le : α → α → Bool} (tr : ∀ a b c, le a b = true → le b c = true → le a c = true) (to : ∀ a b, (le a b || le b a) = true) : ∀ l : List α, (srtB le l).Pairwise fun a b => le a b = true
  | [] => .nil
  | x :: r => insB_pw tr to x _ (srtB_pw tr to r)
def sortI (ns : List Int) : List Int := srtB (fun a b => decide (a ≤ b)) ns
def inB (p : Int × Int) : Bool := decide (0 ≤ p.1) && decide (p.1 < 64) && decide (0 ≤ p.2) && decide (p.2 < 64)
theorem sortI_perm (ns : List Int) : (sortI ns).Perm ns := srtB_perm _ _
theorem sortI_pw (ns : List Int) : (sortI ns).Pairwise (· ≤ ·) :=
  (srtB_pw (le := fun a b : Int => decide (a ≤ b)) (fun a b c h1 h2 => by simp at *; omega) (fun a b => by simp; omega) ns).imp fun h => of_decide_eq_true h
theorem sortI_uniq {ns ms : List Int} (h1 : ms.Perm ns) (h2 : ms.Pairwise (· ≤ ·)) : ms = sortI ns :=
  (h1.trans (sortI_perm ns).symm).eq_of_pairwise (fun a b _ _ h3 h4 => Int.le_antisymm h3 h4) h2 (sortI_pw ns)
theorem RepsG.perm {K : PySem.W.Frag} {T : Tb} {N : Addr → Prop} {F : Hp} {us vs : List V} (h : us.Perm vs) : ∀ {ds : List D}, RepsG K T N F vs ds → ∃ es, es.Perm ds ∧ RepsG K T N F us es := by
  induction h with
  | nil => intro ds r; exact ⟨ds, .refl _, r⟩
  | cons x h ih =>
    intro ds r
    cases r with
    | cons r rs =>
      obtain ⟨es, h1, h2⟩ := ih rs
      exact ⟨_, h1.cons _, .cons r h2⟩
  | swap x y l =>
    intro ds r
    cases r with
    | cons r rs => cases rs with
      | cons r2 rs => exact ⟨_, .swap _ _ _, .cons r2 (.cons r rs)⟩
  | trans h1 h2 ih1 ih2 =>
    intro ds r
    obtain ⟨es, h3, h4⟩ := ih2 r
    obtain ⟨fs, h5, h6⟩ := ih1 h4
    exact ⟨fs, h5.trans h3, h6⟩
theorem RepsG.mem {K : PySem.W.Frag} {T : Tb} {N : Addr → Prop} {F : Hp} : ∀ {vs : List V} {ds : List D} {v : V}, RepsG K T N F vs ds → v ∈ vs → ∃ d, d ∈ ds ∧ RepG K T N F v d
  | _, _, v, .cons r rs, h => by
    rcases List.mem_cons.mp h with h | h
    · subst h; exact ⟨_, List.mem_cons_self, r⟩
    · obtain ⟨d, h1, h2⟩ := RepsG.mem rs h
      exact ⟨d, List.mem_cons_of_mem _ h1, h2⟩
section
variable {X : Cx} {T : Tb} {H0 : HZ} {Γ Γ1 Γn Γm : List Mode} {J : Jm} {e a b tg iter : Expr} {es : List Expr} {st : Stmt} {sts : List Stmt} {f g : SF} {fe fa fb fc : EF} {k ka kb kc : Knd} {pos po : Pos} {q p : Q3} {fi : List D → Option (List D)} {c : Bool} {fs : List D → Option (List D)}
theorem de_intc (hg : Gl X "int") (hm : X.mg "int" = none) (ha : DE X T H0 Γ a fa ka) (hs : starEach [a] X.env = (false, eval a X.env) :: starEach [] X.env := by rfl) : DE X T H0 Γ (.Call (.Name "int" po) [a] [] pos) (e1 gInt fa) (.q q) :=
  PE.wk (pe_callTy call_int1 hg hm (by decide +kernel) (da_cons ha da_nil hs) (he := hs)) (callB_sem fun F O σ H ρ v x d Q R rv hg hq => by
    unfold gInt at hg
    split at hg
    · cases hg; cases rv; exact .inl ⟨_, rfl, hq F H _ R (.refl _) (.refl _) (RepG.int _)⟩
    · cases hg; cases rv; exact .inr ⟨_, rfl, hq F H _ R (.refl _) (.refl _) (RepG.int _)⟩
    · cases hg)
end
end DL

namespace DL
open PySem PySem.Spec PyProof.Rows L2

section
variable {X : Cx} {T : Tb} {H0 : HZ} {Γ Γ1 Γn Γm : List Mode} {J : Jm} {e a b tg iter : Expr} {es : List Expr} {st : Stmt} {sts : List Stmt} {f g : SF} {fe fa fb fc : EF} {k ka kb kc : Knd} {pos po : Pos} {q p : Q3} {fi : List D → Option (List D)} {c : Bool} {fs : List D → Option (List D)}
def enumD (ds : List D) : List D := ds.mapIdx fun i d => .tup [.int (i : Nat), d]
def iEn (f : EF) : List D → Option (List D) := fun ρ => (f ρ).bind fun d => match d with
  | .lst ds => some (enumD ds)
  | _ => none
def iRv (f : EF) : List D → Option (List D) := fun ρ => (f ρ).bind fun d => match d with
  | .lst ds => some ds.reverse
  | .tup ds => some ds.reverse
  | _ => none
def rangeC (lo c : Int) (n : Nat) : List D := (List.range n).map fun i => D.int (lo + (i : Nat) * c)
def iRgN (f g : EF) : List D → Option (List D) := fun ρ => (f ρ).bind fun d => (g ρ).bind fun d' => match d, d' with
  | .int i, .int j => if small 62 i ∧ small 62 j then some (rangeC i (-1) (i - j).toNat) else none
  | _, _ => none
end
end DL

namespace DL
open PySem PySem.Spec PyProof.Rows L2
theorem rblk {k : Nat} {X : Cx} {s : Shared} {H : Hp} {scope : Scope} {cenv : Env} {fp : List Addr} (h : Room k X.A) : Room k (X.blk s H scope cenv fp).A := h
def D.at : D → Bool
  | .int _ => true
  | .bl _ => true
  | .non => true
  | .str _ => true
  | _ => false
def eLf (f : EF) : EF := fun ρ => (f ρ).bind fun d => match d with
  | .lst ds => if ds.all D.at = true then some (.lst ds) else none
  | _ => none
theorem RepG.at {K : PySem.W.Frag} {T : Tb} {N N' : Addr → Prop} {F F' : Hp} {v : V} {d : D} (h : RepG K T N F v d) (hd : d.at = true) : RepG K T N' F' v d := by
  cases h <;> first | (cases hd; done) | constructor
theorem RepsG.ats {K : PySem.W.Frag} {T : Tb} {N N' : Addr → Prop} {F F' : Hp} : ∀ {vs : List V} {ds : List D}, RepsG K T N F vs ds → ds.all D.at = true → RepsG K T N' F' vs ds
  | _, _, .nil, _ => .nil
  | _, _, .cons r rs, h => by
    rw [List.all_cons, Bool.and_eq_true] at h
    exact .cons (r.at h.1) (RepsG.ats rs h.2)
section
variable {X : Cx} {T : Tb} {H0 : HZ} {Γ Γ1 Γn Γm : List Mode} {J : Jm} {e a b tg iter : Expr} {es : List Expr} {st : Stmt} {sts : List Stmt} {f g : SF} {fe fa fb fc : EF} {k ka kb kc : Knd} {pos po : Pos} {q p : Q3} {fi : List D → Option (List D)} {c : Bool} {fs : List D → Option (List D)}
theorem de_gtupK {x : Str} {ns : List Int} {p : Addr} (hd' : (x == ("__debug__" : Str)) = false) (hg : Gl X x) (hm : X.mg x = some (.ref p)) (r : TupK X.K p ns) (hb : DE X T H0 Γ b fb kb) (hs : PlainIx b := by exact fun _ _ => rfl) : DE X T H0 Γ (.Subscript (.Name x po) b pos) (e2 gIxT (eK (.tup (ns.map D.int))) fb) (.q q) :=
  PE.wk (pe_ix ix_tup (pe_glob (v := .ref p) hg hm rfl hd') hb hs) fun σ H Q ⟨F, O, ρ, d, R, hf, hq⟩ => by
    unfold e2 eK at hf
    simp only [Option.bind_some] at hf
    cases h1 : fb ρ with
    | none => rw [h1] at hf; cases hf
    | some y =>
      rw [h1] at hf
      simp only [Option.bind_some] at hf
      refine ⟨F, O, ρ, y, R, h1, fun F1 H1 u R1 s1 t1 ru => ?_⟩
      unfold gIxT at hf
      split at hf
      · rename_i h2
        cases h2
        obtain ⟨w, h4, h5⟩ := RepsG.at (K := X.K) (T := T) (N := NK H0 q) (F := F1) (vals_reps ns) hf
        exact ⟨p, _, _, w, rfl, ru.int, .inr r, h4, hq F1 H1 w R1 s1 t1 h5⟩
      · cases hf
end
end DL

namespace DL
open PySem PySem.Spec PyProof.Rows L2
def gRep (x y : D) : Option D := match x, y with
  | .lst ds, .int i => if small 62 i ∧ ds.length * i.toNat ≤ 1000000 then some (.lst (List.replicate i.toNat ds).flatten) else none
  | _, _ => none
section
variable {X : Cx} {T : Tb} {H0 : HZ} {Γ Γ1 Γn Γm : List Mode} {J : Jm} {e a b tg iter : Expr} {es : List Expr} {st : Stmt} {sts : List Stmt} {f g : SF} {fe fa fb fc : EF} {k ka kb kc : Knd} {pos po : Pos} {q p : Q3} {fi : List D → Option (List D)} {c : Bool} {fs : List D → Option (List D)}
end
end DL

namespace PySem
open PySem PySem.Spec PyProof.Rows L2
section
variable {P : Program} {w : World} {A : Around} {E : Value → Shared → Prop} {s : Shared}
abbrev newS (w : World) : Obj := { cls := .type "set", dict := none, data := .set #[] 0 (.fresh 0 0 (!w.params.followText "set-order")) }
theorem IsList.pushed {h : Heap} {l : Addr} {xs : Array Value} (i : h.IsList l xs) (o : Obj) : (h.push o).IsList l xs ∧ l < h.objs.size := by
  refine ⟨i.push o, ?_⟩
  obtain ⟨u, e, _⟩ := i
  exact Heap.lt_size e
set_option maxHeartbeats 3200000 in
theorem set_of_ints {l : Addr} {xs : Array Value} (ks : List Int) {Q : Value → Shared → Prop} (calm : A.handled = none) (isl : s.heap.IsList l xs) (ia : IntsAre xs.toList ks) (few : ks.length + 1 < scanBound)
    (go : ∀ (hp : Heap) (t c : Nat), SetR w hp s.heap.objs.size (fun j => decide (j ∈ ks)) c → c ≤ ks.length → (∀ b o, s.heap.get? b = some o → hp.get? b = some o) → Q (.ref s.heap.objs.size) { s with heap := hp, toks := t }) :
    wpAny (model P w) A (call (.type "set") [.ref l]) Q E s := by
  have xsz : xs.size = ks.length := by
    have q := IntsAre.length ia
    rwa [Array.length_toList] at q
  obtain ⟨c, tl, mro⟩ := F.called_set.mro
  have fMade := F.called_set.made
  have fSub := F.called_set.sub
  refine wpAny_call (codeAny_of_tree ?_)
  show wpAny _ _ (callAny (.type "set") _) _ _ _
  refine wpAny_pure ⟨Code.quiet_builtin _ (by decide +kernel), codeAny_builtin F.entry_type_call ?_⟩
  rw [Around.under_plain (weight_type_call_type "set" [.ref l] []) rfl]
  have fNt := F.called_set.notType
  have fCc := F.called_set.canCreate
  have fTc := F.typeCall_set_1 (.ref l)
  repeat (any_goals (first | assumption | wp_step))
  refine codeAny_mono (code_set_led1 (.ref l) (E := E) (Q₁ := fun ob t₁ => ob = .ref s.heap.objs.size ∧ t₁ = { s with heap := s.heap.push (newS w) }) ⟨rfl, rfl⟩) fun r t₁ hr => ?_
  cases r with
  | error e => exact hr
  | ok fl =>
    cases fl with
    | ret ob =>
      obtain ⟨rfl, rfl⟩ := hr
      have atS : (s.heap.push (newS w)).get? s.heap.objs.size = some (newS w) := Heap.get?_push_size _ rfl
      have tyS : Shared.TypeIs { s with heap := s.heap.push (newS w) } (.ref s.heap.objs.size) "set" := ⟨_, atS, rfl⟩
      have fLk := F.called_set.init.lookup
      have fBd := F.called_set.init.bind (.ref s.heap.objs.size)
      repeat (any_goals (first | assumption | wp_step))
      refine codeAny_mono (codeAny_call_builtin (R := wants (fun r t₂ => r = .none ∧ ∃ hp tk c, t₂ = { s with heap := hp, toks := tk } ∧ SetR w hp s.heap.objs.size (fun j => decide (j ∈ ks)) c ∧ c ≤ ks.length ∧
          (∀ b o, s.heap.get? b = some o → hp.get? b = some o)) E) F.called_set.init.plain F.entry_set_init (check_set_init_1 tyS ?_)) fun r₂ t₂ hr₂ => ?_
      · obtain ⟨isl2, lt1⟩ := IsList.pushed isl (newS w)
        have isl3 := isl2
        obtain ⟨ou, at1, k1, nn, k2⟩ := isl3
        obtain ⟨uc, ud, ut, us⟩ := ou
        simp only at k1 k2
        subst k1; subst k2
        have fL1 := F.sub_list_set
        have fL2 := F.sub_list_frozenset
        have fL3 : (Value.type "list" == Value.type "dict") = false := by decide
        unfold Builtin.«set.__init__» noKeywords Builtin.Frozenset.updateFrom
        generalize hPI : pyIter = PI
        wp_walk
        subst hPI
        refine wpAny_pyIter_list isl2 ?_
        refine wpAny_bind (wpAny_runValue ?_)
        have calm3 : A.in1.in1.in1.handled = none := by simp [calm]
        have sz1 : (s.heap.push (newS w)).objs.size = s.heap.objs.size + 1 := Heap.size_push ..
        have ne1 : l ≠ (s.heap.push (newS w)).objs.size := by rw [sz1]; exact Nat.ne_of_lt (Nat.lt_succ_of_lt lt1)
        have nf : s.heap.objs.size ∉ [(s.heap.push (newS w)).objs.size, l] := by
          rw [sz1]
          intro z
          simp only [List.mem_cons, List.not_mem_nil, or_false] at z
          rcases z with z | z
          · exact Nat.ne_of_lt (Nat.lt_succ_self _) z
          · exact Nat.ne_of_gt lt1 z
        have vals : ∀ (i : Nat) (v : Value), xs[i]? = some v → ∃ k t, ks[i]? = some k ∧ v = .int k t := fun i v hv => by
          have il : i < ks.length := by rw [← xsz]; exact (Array.getElem?_eq_some_iff.mp hv).1
          obtain ⟨t, e⟩ := PyProof.Rows.IntsAre.int_at ia i v (by rw [Array.getElem?_toList]; exact hv)
          rw [List.getD_eq_getElem?_getD, List.getElem?_eq_getElem il] at e
          exact ⟨ks[i], t, List.getElem?_eq_getElem il, e⟩
        refine set_update_ints ((Walks.list calm3 _ l ne1 xs).toS) s.heap.objs.size nf ks xsz few vals (xs.size - 0) 0 _ (by omega) (Nat.zero_le _) ⟨⟨_, Heap.get?_push_size _ rfl, rfl, rfl⟩, (isl2.push _)⟩ ?z0 ?zR
        case z0 => exact ⟨0, Nat.le_refl 0, setR_new_at (Heap.get?_push_of_some _ atS)⟩
        case zR =>
          intro t' c' hm hc' hS'
          obtain ⟨hp, g2, d2, tk2, o2⟩ := t'
          have eg : g2 = s.gens := hm.gens
          have ed : d2 = s.drawn := hm.drawn
          have eo : o2 = s.os := hm.os
          subst eg; subst ed; subst eo
          show wpAny _ _ _ _ _ _
          refine wpAny_pure ?_
          show wpAny _ _ (ret Value.none) _ _ _
          rw [xsz] at hc'
          refine wpAny_pure ⟨rfl, hp, tk2, c', rfl, hS', hc', fun b o e => ?_⟩
          have lb : b < s.heap.objs.size := Heap.lt_size e
          refine hm.heap b o (fun z => ?_) (Heap.get?_push_of_some _ (Heap.get?_push_of_some _ e))
          rw [sz1] at z
          simp only [List.mem_cons, List.not_mem_nil, or_false] at z
          rcases z with z | z
          · exact Nat.ne_of_lt lb z
          · exact Nat.ne_of_lt (Nat.lt_succ_of_lt lb) z
      · cases r₂ with
        | error e => exact hr₂
        | ok fl₂ =>
          cases fl₂ with
          | ret r =>
            obtain ⟨rfl, hp, tk, c', rfl, hS', hc', hk'⟩ := hr₂
            repeat (any_goals (first | assumption | wp_step))
            exact go _ _ _ hS' hc' hk'
          | _ => exact hr₂.elim
    | _ => exact hr.elim
end
end PySem
namespace DL
open PySem PySem.Spec PyProof.Rows L2
theorem sub_len {α : Type} [DecidableEq α] : ∀ {xs ys : List α}, xs.Nodup → (∀ x ∈ xs, x ∈ ys) → xs.length ≤ ys.length
  | [], _, _, _ => Nat.zero_le _
  | x :: xs, ys, hn, hs => by
    obtain ⟨h1, h2⟩ := List.nodup_cons.mp hn
    have hx := hs x List.mem_cons_self
    have ih := sub_len (ys := ys.erase x) h2 fun y hy => (List.mem_erase_of_ne (show y ≠ x from fun e => h1 (by rw [← e]; exact hy))).mpr (hs y (List.mem_cons_of_mem _ hy))
    rw [List.length_erase_of_mem hx] at ih
    have := List.length_pos_of_mem hx
    rw [List.length_cons]; omega
def ints0 (b : Nat) : List Int := (List.range b).map fun (i : Nat) => (i : Int)
theorem ints0_mem {b : Nat} {i : Int} (h0 : 0 ≤ i) (h1 : i < b) : i ∈ ints0 b := List.mem_map.mpr ⟨i.toNat, List.mem_range.mpr (by omega), by omega⟩
theorem setR_few {w : World} {h : Heap} {a : Addr} {ns : List Int} {c b : Nat} (R : SetR w h a (fun j => decide (j ∈ ns)) c) (hb : ∀ x ∈ ns, 0 ≤ x ∧ x < b) : c ≤ b := by
  obtain ⟨o, es, ep, t, _, _, _, _, nd, hm, _, _, hn, _⟩ := R
  have h1 := sub_len (ys := ints0 b) nd fun x hx => by
    have hx := of_decide_eq_true ((hm x).mpr hx)
    exact ints0_mem (hb x hx).1 (hb x hx).2
  rw [List.length_map, Array.length_toList, hn] at h1
  simpa [ints0] using h1
def rSetL (K : PySem.W.Frag) (w : World) : List V → Hp → VK → Prop := fun xs H Q => ∃ (l : Addr) (ns : List Int), xs = [V.ref l] ∧ SqL K H l (ns.map V.int) ∧ ns.length ≤ 4000 ∧
  ∀ (p : Addr) (c : Nat), H p = none → c ≤ ns.length → (∀ b : Nat, (∀ x ∈ ns, 0 ≤ x ∧ x < b) → c ≤ b) → Q (.ref p) (upd H p (SetO w p (fun j => decide (j ∈ ns)) c))
theorem cr_setL {X : Cx} (hc : X.calm = true) : CallR X (.type "set") (rSetL X.K X.w) := by
  intro pins s σ H xs us Q I r h
  obtain ⟨l, ns, rfl, hl, hlen, q⟩ := h
  rw [Vals.ref1 r]
  obtain ⟨its, r1, pl, hz⟩ := I.list hl
  refine set_of_ints ns (I.ok.hd hc) pl.isList (by simpa using RZ.intsAre_vals r1) (by unfold scanBound; omega) fun hp t c hS hcl hk => ?_
  exact ⟨.ref _, upd H s.heap.objs.size (SetO X.w s.heap.objs.size (fun j => decide (j ∈ ns)) c), I.laid (t' := t) hk (Nat.le_refl _) (setO_new hS), rfl, q _ c (I.hok.fresh (Nat.le_refl _)) hcl fun b hb => setR_few hS hb⟩
def insU (x : Int) : List Int → List Int
  | [] => [x]
  | y :: r => if x < y then x :: y :: r else if x = y then y :: r else y :: insU x r
def sset : List Int → List Int
  | [] => []
  | x :: r => insU x (sset r)
theorem insU_mem (x z : Int) : ∀ l, z ∈ insU x l ↔ z = x ∨ z ∈ l
  | [] => by simp [insU]
  | y :: r => by
    unfold insU
    split
    · simp
    · split
      · rename_i h; subst h; simp
      · rw [List.mem_cons, insU_mem x z r, List.mem_cons]
        constructor
        · rintro (h | h | h) <;> simp [h]
        · rintro (h | h | h) <;> simp [h]
theorem sset_mem (z : Int) : ∀ l, z ∈ sset l ↔ z ∈ l
  | [] => Iff.rfl
  | x :: r => by unfold sset; rw [insU_mem, sset_mem z r, List.mem_cons]
theorem insU_pw (x : Int) : ∀ l, l.Pairwise (· < ·) → (insU x l).Pairwise (· < ·)
  | [], _ => by simp [insU]
  | y :: r, h => by
    have h' := List.pairwise_cons.mp h
    unfold insU
    split
    · rename_i hx
      exact List.pairwise_cons.mpr ⟨fun z hz => by
        rcases List.mem_cons.mp hz with e | hz
        · rw [e]; exact hx
        · exact Int.lt_trans hx (h'.1 z hz), h⟩
    · split
      · exact h
      · refine List.pairwise_cons.mpr ⟨fun z hz => ?_, insU_pw x r h'.2⟩
        rcases (insU_mem x z r).mp hz with e | hz
        · rw [e]; omega
        · exact h'.1 z hz
theorem sset_pw : ∀ l, (sset l).Pairwise (· < ·)
  | [] => .nil
  | x :: r => insU_pw x _ (sset_pw r)
theorem pw_ext : ∀ {xs ys : List Int}, xs.Pairwise (· < ·) → ys.Pairwise (· < ·) → (∀ z, z ∈ xs ↔ z ∈ ys) → xs = ys
  | [], [], _, _, _ => rfl
  | [], y :: ys, _, _, h => absurd ((h y).mpr List.mem_cons_self) List.not_mem_nil
  | x :: xs, [], _, _, h => absurd ((h x).mp List.mem_cons_self) List.not_mem_nil
  | x :: xs, y :: ys, h1, h2, h => by
    have p1 := List.pairwise_cons.mp h1
    have p2 := List.pairwise_cons.mp h2
    have e : x = y := by
      have a := (h x).mp List.mem_cons_self
      have b := (h y).mpr List.mem_cons_self
      rcases List.mem_cons.mp a with a | a
      · exact a
      · rcases List.mem_cons.mp b with b | b
        · exact b.symm
        · have := p2.1 x a; have := p1.1 y b; omega
    subst e
    congr 1
    refine pw_ext p1.2 p2.2 fun z => ?_
    have hz := h z
    rw [List.mem_cons, List.mem_cons] at hz
    constructor
    · intro m
      rcases hz.mp (.inr m) with e | m'
      · have := p1.1 z m; omega
      · exact m'
    · intro m
      rcases hz.mpr (.inr m) with e | m'
      · have := p2.1 z m; omega
      · exact m'
def fewI (ns : List Int) : Bool := decide (ns.length < 64) || ns.all fun x => decide (0 ≤ x) && decide (x < 63)
def gSSet (x : D) : Option D := match x with
  | .lst ds => (intsOf ds).bind fun ns => if ns.length ≤ 4000 ∧ fewI ns = true then some (.lst ((sset ns).map .int)) else none
  | _ => none
section
variable {X : Cx} {T : Tb} {H0 : HZ} {Γ : List Mode} {a : Expr} {fa : EF} {ka : Knd} {pos po p2 q2 : Pos} {q : Q3}
theorem de_sset (hc : X.calm = true) (hg : Gl X "sorted") (hm : X.mg "sorted" = none) (hg2 : Gl X "set") (hm2 : X.mg "set" = none) (ha : DE X T H0 Γ a fa ka)
    (hs : starEach [a] X.env = (false, eval a X.env) :: starEach [] X.env := by rfl) (hs2 : starEach [Expr.Call (.Name "set" p2) [a] [] q2] X.env = (false, eval (Expr.Call (.Name "set" p2) [a] [] q2) X.env) :: starEach [] X.env := by rfl) :
    DE X T H0 Γ (.Call (.Name "sorted" po) [.Call (.Name "set" p2) [a] [] q2] [] pos) (e1 gSSet fa) (.ol q) :=
  PE.wk (pe_callB (cr_sortedSet hc) hg hm (by decide +kernel) (pa_cons (pe_callTy (cr_setL hc) hg2 hm2 boot_set (pa_cons ha pa_nil hs) (he := hs)) pa_nil hs2) (he := hs2)) fun σ H Q ⟨F, O, ρ, d, R, hf, hq⟩ => by
    unfold e1 at hf
    cases h1 : fa ρ with
    | none => rw [h1] at hf; cases hf
    | some x =>
      rw [h1] at hf
      simp only [Option.bind_some] at hf
      refine ⟨F, O, ρ, x, R, h1, fun F1 H1 v R1 s1 t1 r1 => ?_⟩
      have rv := R1.toB r1
      unfold gSSet at hf
      split at hf
      · rename_i ds
        cases h2 : intsOf ds with
        | none => rw [h2] at hf; cases hf
        | some ns =>
          rw [h2] at hf
          simp only [Option.bind_some] at hf
          split at hf
          · rename_i hl
            cases hf
            have := intsOf_eq h2
            subst this
            cases rv with
            | @lst l vs ds h3 h4 h5 =>
              rw [h5.ints] at h3
              refine ⟨l, ns, rfl, SqL.of h3, hl.1, fun p c hp hcl hcb => ?_⟩
              have h64 : c < 64 := by
                have := hl.2
                unfold fewI at this
                rw [Bool.or_eq_true, decide_eq_true_eq, List.all_eq_true] at this
                rcases this with h | h
                · omega
                · have := hcb 63 fun x hx => by have := h x hx; simpa using this
                  omega
              refine ⟨p, _, c, rfl, upd_same, h64, fun ys u hpw hmem hlen hu => ?_⟩
              obtain ⟨R2, t2⟩ := R1.junk (o := SetO X.w p (fun j => decide (j ∈ ns)) c) hp
              have e : ys = sset ns := pw_ext hpw (sset_pw ns) fun z => by rw [hmem, sset_mem, decide_eq_true_eq]
              rw [e]
              exact new_lst R2 (vals_reps (sset ns)) (fun F' H' w R' s' t' r' => hq F' H' w R' (s1.trans s') ((t1.trans t2).trans t') r') u hu
          · cases hf
      · cases hf
end
end DL

namespace PySem
open PySem PySem.Spec PyProof.Rows L2
section
variable {P : Program} {w : World} {A : Around} {E : Value → Shared → Prop} {s : Shared}
theorem gather_tup {l : Addr} {o : Obj} {xs : Array Value} {n : Nat} {Q : List Value → Shared → Prop} (at_ : s.heap.get? l = some o) (ty : o.cls = .type "tuple") (da : o.data = .seq xs n) (fit : xs.size ≤ sizeLine)
    (go : ∀ h' : Heap, h'.objs.size = s.heap.objs.size + 1 → (∀ b u, s.heap.get? b = some u → h'.get? b = some u) → Q xs.toList { s with heap := h' }) : wpAny (model P w) A (collect (.ref l)) Q E s := by
  have up : ∀ b u, s.heap.get? b = some u → (s.heap.push (seqObj "list" #[] 0)).get? b = some u := fun b u z => Heap.get?_push_of_some _ z
  have new : (s.heap.push (seqObj "list" #[] 0)).get? s.heap.objs.size = some (seqObj "list" #[] 0) := Heap.get?_push_size _ rfl
  unfold collect
  refine wpAny_bind (wpAny_runValue (codeAny_builtin entry_proto_collect' ?_))
  show wpAny _ _ (newList [] >>= fun z => again (.builtin "list.__iadd__" ⟨[z, .ref l], []⟩)) _ _ s
  refine wpAny_bind (wpAny_newList (wpAny_pure ⟨Code.quiet_builtin _ (by decide +kernel), codeAny_builtin entry_list_iadd' ?_⟩))
  unfold Builtin.«list.__iadd__»
  show wpAny _ _ (Builtin.List.listExtendWith _ _ _) _ _ { s with heap := s.heap.push (seqObj "list" #[] 0) }
  unfold Builtin.List.listExtendWith
  refine wpAny_bind (wpAny_typeOf (T := "tuple") ⟨o, up l o at_, ty⟩ ?_)
  rw [if_pos (by rw [Bool.or_eq_true]; exact .inr rfl)]
  refine wpAny_bind (listItems_at (up l o at_) da ?_)
  refine wpAny_bind (listItems_at (xs := #[]) (n := 0) new rfl ?_)
  rw [if_neg (by simp)]
  have fit2 : ((#[] : Array Value) ++ xs).size ≤ sizeLine + 1 := by rw [Array.size_append]; simp; omega
  refine wpAny_bind (listUpdate_at (xs := #[]) (n := 0) new rfl ?_ (Nat.zero_le _) fit2)
  refine wpAny_pure ?_
  show wpAny _ _ (load s.heap.objs.size >>= fun z => match z.data with | .seq ys _ => pure ys.toList | _ => unsupported "internal:collect") Q E _
  refine wpAny_bind (wpAny_load (get?_update_seq new _) ?_)
  have e : ((#[] : Array Value) ++ xs).toList = xs.toList := by simp
  show wpAny _ _ (pure ((#[] : Array Value) ++ xs).toList) Q E _
  rw [e]
  refine wpAny_pure (go _ ?_ fun b u z => ?_)
  · rw [Heap.size_update, size_push']
  · have lt := Heap.lt_size z
    rw [Heap.get?_update_ne _ _ _ _ (Nat.ne_of_lt lt)]
    exact up b u z
theorem sorted_tupI {l : Addr} {o : Obj} {items : Array Value} {n : Nat} {ns : List Int} {Q : Value → Shared → Prop} (ho : s.heap.get? l = some o) (hc : o.cls = .type "tuple") (hd : o.data = .seq items n) (hI : IntsAre items.toList ns) (h64 : items.toList.length < 64)
    (hQ : ∀ t' p (out : Array Value) (c : Nat) (ns' : List Int), (∀ b u, s.heap.get? b = some u → t'.heap.get? b = some u) → t'.gens = s.gens → t'.drawn = s.drawn → t'.os = s.os → s.heap.objs.size ≤ p →
      t'.heap.get? p = some (seqObj "list" out c) → IntsAre out.toList ns' → ns'.Perm ns → ns'.Pairwise (· ≤ ·) → Q (.ref p) t') :
    wpAny (model P w) A (call (.builtin "sorted") [.ref l]) Q E s := by
  have hz : items.size ≤ sizeLine := by rw [Array.length_toList] at h64; rw [sizeLine_eq]; omega
  refine Calls.call_function_entry kind_sorted plain_sorted entry_sorted (args_sorted1 _) ?_
  unfold Builtin.«sorted»
  refine wpAny_bind (m := checkCount "sorted" 1 1 _) (wpAny_pure ?_)
  refine wpAny_bind (gather_tup ho hc hd hz fun h' k0 k1 => ?_)
  refine wpAny_bind (wpAny_newList ?_ (by rw [Array.length_toList]; exact hz))
  have hoL : (h'.push (seqObj "list" items.toList.toArray 0)).get? h'.objs.size = some (seqObj "list" items.toList.toArray 0) := Heap.get?_push_size _ rfl
  refine wpAny_bind (wpAny_holding (wpAny_call_entry slot_list_sort ⟨_, hoL, rfl⟩ entry_list_sort (list_sort_tree hoL hI h64 fun out ns' a1 a2 a3 => ⟨_, rfl, ?_⟩) (args_list_sort _)))
  obtain ⟨c, hcc⟩ := sortedHeap_at (vs := items.toList) (out := out) hoL
  refine wpAny_pure ⟨_, rfl, hQ _ h'.objs.size out c ns' (fun b u e => ?_) rfl rfl rfl (by rw [k0]; exact Nat.le_succ _) hcc a1 a2 a3⟩
  have q := k1 b u e
  have hlt := Heap.lt_size q
  show (sortedHeap (h'.push (seqObj "list" items.toList.toArray 0)) h'.objs.size items.toList out).get? b = some u
  rw [sortedHeap_old (Nat.ne_of_lt hlt) (by rw [size_push']; exact Nat.lt_succ_of_lt hlt)]
  exact Heap.get?_push_of_some _ q
end
end PySem
namespace DL
open PySem PySem.Spec PyProof.Rows L2
def rSortTI (K : PySem.W.Frag) : List V → Hp → VK → Prop := fun vs H Q => ∃ (a : Addr) (ns : List Int), vs = [V.ref a] ∧ SqT K H a (ns.map V.int) ∧ ns.length < 64 ∧
  ∀ (ns' : List Int) (p : Addr), ns'.Perm ns → ns'.Pairwise (· ≤ ·) → H p = none → Q (.ref p) (upd H p (.lst (ns'.map V.int)))
theorem cr_sortTI {X : Cx} : CallR X (.builtin "sorted") (rSortTI X.K) := by
  intro pins s σ H vs us Q I r h
  obtain ⟨a, ns, rfl, ht, h64, q⟩ := h
  obtain ⟨its, rv, ⟨o, ho, hc, n, hdt⟩, _⟩ := I.tuple ht
  rw [Vals.ref1 r]
  have hi := rv.ints
  refine sorted_tupI ho hc hdt (by simpa using hi) (by simpa using (by rw [IntsAre.length hi]; exact h64)) fun t' p out c ns' k g d o hp hg hI hperm hpw => ?_
  have hn : H p = none := I.hok.fresh hp
  have hlen : (ns'.map V.int).length ≤ sizeLine := by rw [List.length_map, hperm.length_eq, sizeLine_eq]; omega
  have e : t' = { s with heap := t'.heap, toks := t'.toks } := by
    cases t'; cases s; cases g; cases d; cases o; rfl
  rw [e]
  exact ⟨.ref p, upd H p (.lst (ns'.map V.int)), I.laid (t' := t'.toks) k hp ⟨hlen, out.toList, c, vals_of_ints hI, hg⟩, rfl, q ns' p hperm hpw hn⟩
def gSortT (x : D) : Option D := match x with
  | .tup ds => (intsOf ds).bind fun ns => if ns.length < 64 then some (.lst ((sortI ns).map .int)) else none
  | _ => none
def t2i (a : EF) : List D → Option Bool := fun ρ => (a ρ).bind fun d => match d with
  | .int i => some (i != 0)
  | _ => none
def gLrg1 (x : D) : Option D := i1 (fun j => if small 62 j ∧ j ≤ 1000000 then some (.lst (rangeD 0 j)) else none) x
section
variable {X : Cx} {T : Tb} {H0 : HZ} {Γ : List Mode} {a b o : Expr} {fa fb fo : EF} {ka kb ko : Knd} {pos po p2 q2 apos cpos : Pos} {q : Q3}
theorem de_sortT (hg : Gl X "sorted") (hm : X.mg "sorted" = none) (ha : DE X T H0 Γ a fa ka) (hs : starEach [a] X.env = (false, eval a X.env) :: starEach [] X.env := by rfl) : DE X T H0 Γ (.Call (.Name "sorted" po) [a] [] pos) (e1 gSortT fa) (.ol q) :=
  PE.wk (pe_callB cr_sortTI hg hm (by decide +kernel) (da_cons ha da_nil hs) (he := hs)) (callB_sem fun F O σ H ρ v x d Q R rv hg hq => by
    unfold gSortT at hg
    split at hg
    · rename_i ds
      cases h1 : intsOf ds with
      | none => rw [h1] at hg; cases hg
      | some ns =>
        rw [h1] at hg
        simp only [Option.bind_some] at hg
        split at hg
        · rename_i h64
          cases hg
          have := intsOf_eq h1
          subst this
          cases rv with
          | @tup a vs ds h1 h3 =>
            rw [h3.ints] at h1
            refine ⟨a, ns, rfl, h1.sq, h64, fun ns' p hp hw hn => ?_⟩
            rw [sortI_uniq hp hw]
            exact new_lst R (vals_reps _) hq p hn
        · cases hg
    · cases hg)
theorem dt_int' (ha : DE X T H0 Γ a fa ka) (he : ∀ whole, isTrue a X.env whole = (do let v ← whole; standAt a.pos; holding [v] (truthy v)) := by intro _; rfl) : DT X T H0 Γ a (t2i fa) :=
  PT.wk (pt_truth ha he) fun σ H Q ⟨F, O, ρ, d, R, hf, hq⟩ => by
    unfold t2i at hf
    cases h1 : fa ρ with
    | none => rw [h1] at hf; cases hf
    | some x =>
      rw [h1] at hf
      simp only [Option.bind_some] at hf
      split at hf
      · cases hf
        refine ⟨F, O, ρ, _, R, h1, fun F1 H1 v R1 s1 t1 r1 => ?_⟩
        rw [r1.int]
        exact ⟨_, rfl, hq F1 H1 R1 s1 t1⟩
      · cases hf
theorem rg_reps {K : PySem.W.Frag} {N : Addr → Prop} {F : Hp} (i j : Int) : RepsG K T N F (rgV i j) (rangeD i j) := by
  have h1 : rgV i j = ((List.range (j - i).toNat).map fun (k : Nat) => i + (k : Int)).map V.int := by rw [List.map_map]; rfl
  have h2 : rangeD i j = ((List.range (j - i).toNat).map fun (k : Nat) => i + (k : Int)).map D.int := by rw [List.map_map]; rfl
  rw [h1, h2]
  exact vals_reps _
theorem rgOk_of {i j : Int} (h1 : small 62 i) (h2 : small 62 j) (h3 : j - i ≤ 1000000) : RgOk i j := ⟨(small62 h1).1, (small62 h1).2, (small62 h2).1, (small62 h2).2, by omega⟩
theorem de_lrg1 (hc : X.calm = true) (hg : Gl X "list") (hm : X.mg "list" = none) (hg2 : Gl X "range") (hm2 : X.mg "range" = none) (ha : DE X T H0 Γ a fa ka)
    (hs : starEach [a] X.env = (false, eval a X.env) :: starEach [] X.env := by rfl) (hs2 : starEach [Expr.Call (.Name "range" p2) [a] [] q2] X.env = (false, eval (Expr.Call (.Name "range" p2) [a] [] q2) X.env) :: starEach [] X.env := by rfl) :
    DE X T H0 Γ (.Call (.Name "list" po) [.Call (.Name "range" p2) [a] [] q2] [] pos) (e1 gLrg1 fa) (.ol q) :=
  PE.wk (pe_listRg hc hg hm (prg_1 hg2 hm2 ha hs) hs2) fun σ H Q ⟨F, O, ρ, d, R, hf, hq⟩ => by
    unfold e1 at hf
    cases h1 : fa ρ with
    | none => rw [h1] at hf; cases hf
    | some x =>
      rw [h1] at hf
      simp only [Option.bind_some] at hf
      refine ⟨F, O, ρ, x, R, h1, fun F1 H1 v R1 s1 t1 r1 => ?_⟩
      unfold gLrg1 i1 at hf
      split at hf
      · rename_i j
        dsimp only at hf
        split at hf
        · rename_i hj
          cases hf
          rw [r1.int]
          exact ⟨j, rfl, rgOk_of (by decide) hj.1 (by omega), fun u hu => new_lst R1 (rg_reps 0 j) (fun F' H' w R' s' t' r' => hq F' H' w R' (s1.trans s') (t1.trans t') r') u hu⟩
        · cases hf
      · cases hf
end
end DL

namespace DL
open PySem PySem.Spec PyProof.Rows L2
section
variable {X : Cx} {T : Tb} {H0 : HZ} {Γ : List Mode} {J : Jm} {e : Expr} {fe : EF} {pos pos' : Pos} {x : Str}
variable {es : List Expr} {fs : List D → Option (List D)} {po : Pos} {cl : Nat} {p : Q3}
end
end DL

namespace DL
open PySem PySem.Spec PyProof.Rows L2
theorem meets_enum1 {v : Value} {o : Obj} {H : Heap → Prop} (B : Begins v o H) :
    Meets (Builtin.«enumerate.__new__» ⟨[.type "enumerate", v], []⟩) (fun _ R s => H s.heap ∧
      R (.ok (.ret (.ref (s.heap.push o).objs.size))) { s with heap := (s.heap.push o).push { cls := .type "enumerate", data := .fields #[.none, .bool false, .ref s.heap.objs.size, rawInt 0, .none, .none] } }) :=
  .of_wp fun prog w A R s h => by
    obtain ⟨hp, g, d, tk, os⟩ := s; obtain ⟨h1, h⟩ := h
    have hsub := sub_enumerate
    have q1 : ∀ {A' : Around} {E : Value → Shared → Prop} {Q : Value → Shared → Prop}, Q (.ref hp.objs.size) ⟨hp.push o, g, d, tk, os⟩ → wpAny (model prog w) A' (pyIter v) Q E ⟨hp, g, d, tk, os⟩ :=
      fun q => B.iter prog w _ _ ⟨hp, g, d, tk, os⟩ _ h1 q
    wp_walk using q1
    refine wpAny_stack_any fun st => wpAny_pure ?_
    split
    · rename_i c _ _ _ _ _
      cases (c == Value.type "enumerate")
      · wp_walk using q1
        exact ⟨_, rfl, h⟩
      · wp_walk using q1
        exact ⟨_, rfl, h⟩
    · wp_walk using q1
      exact ⟨_, rfl, h⟩
section
variable {prog : Program} {w : World} {A : Around} {E : Value → Shared → Prop} {s : Shared}
theorem enum1_begins {v : Value} {o : Obj} {H : Heap → Prop} {Q : Value → Shared → Prop} (B : Begins v o H) (h1 : H s.heap)
    (h : ∀ h', IsEnum h' (s.heap.objs.size + 1) s.heap.objs.size 0 .none → h'.get? s.heap.objs.size = some o → h'.objs.size = s.heap.objs.size + 2 →
      (∀ b o, s.heap.get? b = some o → h'.get? b = some o) → Q (.ref (s.heap.objs.size + 1)) { s with heap := h' }) :
    wpAny (model prog w) A (call (.type "enumerate") [v]) Q E s := by
  refine callType_new F.called_enumerate (by decide) (F.typeCall_enumerate_1 _) (F.newCall_enumerate_1 _) (fun obj => F.args_object_init_2 obj _) F.entry_enumerate_new
    (meets_enum1 B) ⟨h1, ?_⟩
  have hz : (s.heap.push o).objs.size = s.heap.objs.size + 1 := Heap.size_push ..
  show _ ∧ _
  rw [hz]
  have he : IsEnum ((s.heap.push o).push { cls := .type "enumerate", data := .fields #[.none, .bool false, .ref s.heap.objs.size, rawInt 0, .none, .none] }) (s.heap.objs.size + 1) s.heap.objs.size 0 .none := by
    have := Heap.get?_push_size (s.heap.push o) (o := { cls := .type "enumerate", data := .fields #[.none, .bool false, .ref s.heap.objs.size, rawInt 0, .none, .none] }) rfl
    rw [hz] at this; exact this
  refine ⟨⟨_, he, rfl⟩, h _ he (Heap.get?_push_of_some _ (Heap.get?_push_size _ B.free)) (by rw [Heap.size_push, hz]) fun b o x => Heap.get?_push_of_some _ (Heap.get?_push_of_some _ x)⟩
end
def ItcT (K : PySem.W.Frag) (a : Addr) : It :=
  ⟨fun i H => ∃ (xs : List V) (x : V), SqT K H a xs ∧ xs[i]? = some x, fun i H v H' => ∃ T x, v = .ref T ∧ H T = none ∧ H' = upd H T (.tup [.int (i : Nat), x]) ∧ ∀ xs, SqT K H a xs → xs[i]? = some x, fun i H => ∃ xs : List V, SqT K H a xs ∧ xs.length ≤ i⟩
theorem turn_enumT {P : Program} {w : World} {K : PySem.W.Frag} {elts : List Expr} {kk : Nat} {tpos : Pos} (a e it : Addr) :
    Turn P w K (.Tuple elts kk tpos) (ItcT K a) [e, it] e (fun i h => (∃ old, IsEnum h e it ((i : Nat) : Int) old) ∧ h.IsTupleIter it a i ∧ e ≠ it) where
  mem := by simp
  obj := fun i h st b hb => by
    obtain ⟨⟨old, he⟩, ⟨o, ho, hc, hd⟩, _⟩ := st
    have e' : b = e ∨ b = it := by simpa using hb
    rcases e' with z | z
    · rw [z]; exact ⟨_, he, fun v q => nomatch q⟩
    · rw [z]; exact ⟨o, ho, fun v q => by rw [hd] at q; cases q⟩
  keep := fun i h h' st k => let ⟨⟨old, he⟩, hi, hne⟩ := st; ⟨⟨old, k e (by simp) _ he⟩, hi.at fun o q => k it (by simp) o q, hne⟩
  item := by
    intro X hP hw hK hc i pins s σ H E I hf st hg
    subst hP hw hK
    obtain ⟨⟨old, he⟩, hit, hne⟩ := st
    obtain ⟨xs, x, hq, hx⟩ := hg
    obtain ⟨its, rv, p, hz⟩ := I.tuple hq
    obtain ⟨u, hu, ru⟩ := rv.get hx
    have hT0 : s.heap.IsTuple a its.toArray := p
    have hel : e < s.heap.objs.size := Heap.lt_size he
    have hil : it < s.heap.objs.size := by obtain ⟨_, q, _⟩ := hit; exact Heap.lt_size q
    have hea : a ≠ e := fun q => by
      subst q
      obtain ⟨o, ho, hc, _⟩ := hT0
      rw [he] at ho; cases ho
      exact absurd (Value.type.inj hc) (by decide)
    have hai : a ≠ it := fun q => by
      subst q
      obtain ⟨o, ho, hc, _⟩ := hT0
      obtain ⟨o2, ho2, hc2, _⟩ := hit
      rw [ho] at ho2; cases ho2; rw [hc] at hc2
      exact absurd (Value.type.inj hc2) (by decide)
    have hi0 : i < its.length := (List.getElem?_eq_some_iff.mp hu).1
    refine wpAny_pyNext_enum_itemD (Draws.tuple (A := X.A.in1) (I.ok.hd hc) it a hai its.toArray) he ⟨hit, hT0⟩ (by simpa using hi0) hne (by simp [hne, Ne.symm hea]) fun x' h' tk hPx ho hst' hT hsz hk => ?_
    have hxu : x' = u := by
      have : its[i]? = some x' := by simpa using hPx
      rw [hu] at this; cases this; rfl
    subst hxu
    refine ⟨_, rfl, wpAny_letOwnedTupleGo_enum (s := { s with heap := h', toks := tk + 1 }) ho fun h'' he' sb => ?_⟩
    have hT2 : h''.get? s.heap.objs.size = some { cls := .type "tuple", data := .seq #[.int i tk, x'] } := (sb.2 _ (Nat.ne_of_gt hel)).trans hT
    have new : ObjOk X.prog X.w (upd H s.heap.objs.size (.tup [.int (i : Nat), x])) h'' s.heap.objs.size (.tup [.int (i : Nat), x]) :=
      ⟨by show 2 ≤ sizeLine; decide, [.int i tk, x'], .cons ⟨_, rfl⟩ (.cons ru .nil), ⟨_, hT2, rfl, _, rfl⟩⟩
    have I1 : Inv X pins σ (upd H s.heap.objs.size (.tup [.int (i : Nat), x])) { s with heap := h'', toks := tk + 1 } :=
      I.turnedNew (ch := [e, it]) (fun b ob hb q => (sb.2 b (fun z => hb (by simp [z]))).trans (hk b ob (fun z => hb (by simp [z])) (fun z => hb (by simp [z])) q)) hf (Nat.le_refl _) new
    refine ⟨.ref s.heap.objs.size, _, I1, rfl, ⟨_, x, rfl, I.hok.fresh (Nat.le_refl _), rfl, fun ys hy => by rw [I.tuple_inj hy hq]; exact hx⟩, ⟨⟨x', ?_⟩, hst'.1.at fun o q => (sb.2 it (Ne.symm hne)).trans q, hne⟩, fun b hb => ?_⟩
    · have e1 : ((i + 1 : Nat) : Int) = (i : Int) + 1 := by omega
      rw [e1]; exact he'
    · have hb' : b < s.heap.objs.size := by
        have e' : b = e ∨ b = it := by simpa using hb
        rcases e' with z | z
        · rw [z]; exact hel
        · rw [z]; exact hil
      rw [upd_ne (Nat.ne_of_lt hb')]
      exact (hf b hb).1
  done := by
    intro X hP hw hK hc i pins s σ H E I hf st hg
    subst hP hw hK
    obtain ⟨⟨old, he⟩, hit, hne⟩ := st
    obtain ⟨xs, hq, hx⟩ := hg
    obtain ⟨its, rv, p, hz⟩ := I.tuple hq
    have hT0 : s.heap.IsTuple a its.toArray := p
    have hai : a ≠ it := fun q => by
      subst q
      obtain ⟨o, ho, hc, _⟩ := hT0
      obtain ⟨o2, ho2, hc2, _⟩ := hit
      rw [ho] at ho2; cases ho2; rw [hc] at hc2
      exact absurd (Value.type.inj hc2) (by decide)
    obtain ⟨f0, f1, f2, f3, f4, f5⟩ := hf it (by simp)
    have hl := rv.length
    have hD : ∀ (Q : Option Value → Shared → Prop) (E : Value → Shared → Prop), (∀ h', Heap.ExtBut it s.heap h' → Q none { s with heap := h' }) → wpAny (model X.prog X.w) X.A (pyNext (.ref e)) Q E s := by
      intro Q E hQ
      have hT : s.TypeIs (.ref e) "enumerate" := ⟨_, he, rfl⟩
      unfold pyNext
      refine wpAny_bind (wpAny_attempt (wpAny_callSpecial?_slot (name := Str.ofString "__next__") hT F.slot_enumerate_next
        (wpAny_call_entry F.slot_enumerate_next hT F.entry_enumerate_next ?_ (F.args_enumerate_next_1 _))))
      show wpAny _ _ (field (.ref e) 2 >>= _) _ _ _
      refine wpAny_bind (wpAny_field he rfl (x := .ref it) rfl ?_)
      refine wpAny_bind (wpAny_nextOf_tuple_end (I.ok.hd hc) hit hT0 (by simp; omega) fun h' x he' hx' => ?_)
      obtain ⟨o, ho, hc⟩ := hx'
      refine wpAny_bind (wpAny_isInstance (T := "StopIteration") (b := true) ⟨o, ho, hc⟩ isSubtype_stop ?_)
      exact wpAny_pure (hQ _ he')
    exact hD _ _ fun h' eb => ⟨rfl, I.turned (t' := s.toks) (fun b o hb q => eb b o hb q) f0 f1 f3 f4 f5⟩
  self := fun A i s Q E st h => let ⟨⟨_, he⟩, _⟩ := st; wpAny_pyIter_enum he h
def iEnumT (K : PySem.W.Frag) (ta : TA) : TI := fun σ H R => ta σ H fun vs H1 => ∃ a xs, vs = [.ref a] ∧ SqT K H1 a xs ∧ R (ItcT K a) H1
theorem pi_enumT {X : Cx} {e : Expr} {ta : TA} {p pos tpos : Pos} {elts : List Expr} {kk : Nat} (hg : Gl X "enumerate") (hm : X.mg "enumerate" = none) (ha : PA X [e] ta) (hs : starEach [e] X.env = [(false, eval e X.env)] := by rfl) :
    PI X (.Tuple elts kk tpos) (.Call (.Name "enumerate" p) [e] [] pos) (iEnumT X.K ta) := by
  refine ⟨fun pins s σ H R I h => ?_⟩
  refine Call_ (ld_blt I hg hm boot_enumerate (PyProof.Rows.callWith_type1 (thn (ha.run pos pins s σ H _ I h) fun us s1 ⟨vs, H1, I1, r1, q1⟩ => ?_) hs rfl))
  obtain ⟨a, xs, ex, hq, q⟩ := q1
  subst ex
  cases r1 with
  | cons r rr =>
    cases rr
    cases r
    obtain ⟨its, rv, p', hz⟩ := I1.tuple hq
    refine enum1_begins (begins_tuple a its.toArray) p' fun h' he hit hsz hk => wpAny_pyIter_enum he ?_
    have I2 : Inv X pins σ H1 { s1 with heap := h' } := I1.kept (t' := s1.toks) hk
    refine ⟨s1.heap.objs.size + 1, [s1.heap.objs.size + 1, s1.heap.objs.size], _, _, H1, rfl, I2, turn_enumT a (s1.heap.objs.size + 1) s1.heap.objs.size, ⟨⟨.none, he⟩, ⟨_, hit, rfl, rfl⟩, Nat.succ_ne_self _⟩, fun b hb => ?_, q⟩
    have e' : b = s1.heap.objs.size + 1 ∨ b = s1.heap.objs.size := by simpa using hb
    have hle : s1.heap.objs.size ≤ b := by
      rcases e' with z | z
      · rw [z]; exact Nat.le_add_right _ _
      · rw [z]; exact Nat.le_refl _
    exact I1.fpOk hle (I1.hok.fresh hle)
section
variable {X : Cx} {T : Tb} {H0 : HZ} {Γ : List Mode} {e : Expr} {fe : EF} {k : Knd} {pos po : Pos} {q : Q3} {c : Bool}
def iEnT (f : EF) : List D → Option (List D) := fun ρ => (f ρ).bind fun d => match d with
  | .tup ds => some (enumD ds)
  | _ => none
theorem itcT_ok {K : PySem.W.Frag} {a : Addr} {vs : List V} {ds : List D} {F1 H1 : Hp} (hs : SqT K F1 a vs) (rs : Rqs K T H0 q F1 vs ds) : ItOk K T H0 (ItcT K a) (enumD ds) q c F1 H1 := fun i F2 H2 h1 h2 _ => by
  have hs2 : SqT K H2 a vs := same_sqT (h1.trans h2) hs
  refine ⟨fun d hd => ?_, fun hl => ⟨vs, hs2, by rw [rs.length]; simpa [enumD] using hl⟩⟩
  unfold enumD at hd
  rw [List.getElem?_mapIdx] at hd
  cases h3 : ds[i]? with
  | none => rw [h3] at hd; cases hd
  | some d0 =>
    rw [h3] at hd
    cases hd
    obtain ⟨v, hv, rv⟩ := rs.get h3
    refine ⟨⟨vs, v, hs2, hv⟩, fun x H3 ⟨t, y, e1, e2, e3, e4⟩ => ?_⟩
    subst e1; subst e3
    have := e4 vs hs2
    rw [hv] at this; cases this
    have f2 : F2 t = none := h2.free e2
    have sH : Same H2 (upd H2 t (.tup [.int (i : Nat), v])) := fun b u e => by rw [upd_ne (ne_of_none e e2)]; exact e
    have sF : Same F2 (upd F2 t (.tup [.int (i : Nat), v])) := fun b u e => by rw [upd_ne (ne_of_none e f2)]; exact e
    refine ⟨sH, upd F2 t (.tup [.int (i : Nat), v]), sF, fun b u e => ?_, ⟨fun b hb hh => ?_, fun n => n.upd rfl⟩, ?_⟩
    · by_cases hb : b = t
      · subst hb; rw [upd_same] at e ⊢; exact e
      · rw [upd_ne hb] at e ⊢; exact h2 _ _ e
    · rw [upd_ne (fun z => by subst z; obtain ⟨_, z, _⟩ := hh; rw [e2] at z; cases z)]; exact hb
    · exact RepG.tup (.inl upd_same) (.cons (.int _) (.cons ((h1.trans sF).rq rv) .nil))
theorem di_enumT {elts : List Expr} {kk : Nat} {tpos : Pos} (hg : Gl X "enumerate") (hm : X.mg "enumerate" = none) (he : DE X T H0 Γ e fe (.q q)) (hs : starEach [e] X.env = [(false, eval e X.env)] := by rfl) :
    DI X T H0 Γ (.Tuple elts kk tpos) (.Call (.Name "enumerate" po) [e] [] pos) (iEnT fe) q c :=
  PI.wk (pi_enumT hg hm (pa_cons he pa_nil hs) hs) fun σ H R ⟨F, O, ρ, items, r, hf, hq⟩ => by
    unfold iEnT at hf
    cases h1 : fe ρ with
    | none => rw [h1] at hf; cases hf
    | some d =>
      rw [h1] at hf
      simp only [Option.bind_some] at hf
      split at hf
      · cases hf
        refine ⟨F, O, ρ, _, r, h1, fun F' H' v R' s s' rv => ?_⟩
        cases rv with
        | @tup a vs ds h2 h3 => exact ⟨a, vs, rfl, (h2.sm R'.fh.sm).sq, hq F' H' _ R' s s' (itcT_ok h2.sq h3)⟩
      · cases hf
end
end DL

namespace DL
open PySem PySem.Spec PyProof.Rows L2
section
variable {prog : Program} {w : World} {A : Around} {E : Value → Shared → Prop} {s : Shared}
end
section
variable {X : Cx} {T : Tb} {H0 : HZ} {Γ : List Mode} {a : Expr} {fa : EF} {ka : Knd} {pos po p2 pos2 : Pos} {q : Q3}
end
end DL

namespace DL
open PySem PySem.Spec PyProof.Rows L2
section
variable {prog : Program} {w : World} {A : Around} {E : Value → Shared → Prop} {s : Shared}
end
section
variable {X : Cx} {T : Tb} {H0 : HZ} {Γ : List Mode} {a : Expr} {fa : EF} {ka : Knd} {pos po p2 pos2 : Pos} {q : Q3}
end
end DL

namespace DL
open PySem PySem.Spec PyProof.Rows L2
section
variable {prog : Program} {w : World} {A : Around} {E : Value → Shared → Prop} {s : Shared}
end
section
variable {X : Cx} {T : Tb} {H0 : HZ} {Γ : List Mode} {a : Expr} {fa : EF} {ka : Knd} {pos po p2 pos2 p3 q2 : Pos} {q : Q3}
end
end DL

namespace DL
open PySem PySem.Spec PyProof.Rows L2

section
variable {κ : Type} [DecidableEq κ]
def dFind : List κ → List D → κ → Option D
  | k :: ks, d :: ds, x => if k = x then some d else dFind ks ds x
  | _, _, _ => none
def dRep : List κ → List D → κ → D → List D
  | k :: ks, d :: ds, x, y => (if k = x then y else d) :: dRep ks ds x y
  | _, _, _, _ => []
def dPut (ks : List κ) (ds : List D) (x : κ) (y : D) : List κ × List D := if ks.any (fun k => decide (k = x)) = true then (ks, dRep ks ds x y) else (ks ++ [x], ds ++ [y])
end
def keyD : D → Option Key
  | .int i => some (.inl i)
  | .str s => some (.inr s)
  | _ => none
def keysD : List D → Option (List Key)
  | [] => some []
  | d :: ds => (keyD d).bind fun k => (keysD ds).bind fun ks => some (k :: ks)
def gDG (x y : D) : Option (Option D) := match x with
  | .dic ks ds => (keyD y).map fun k => dFind ks ds k
  | .dit ks ds => (match y with
    | .tup ys => (keysD ys).map fun k => dFind ks ds k
    | _ => none)
  | _ => none
def gDGet (x y : D) : Option D := (gDG x y).bind fun o => o
section
variable {X : Cx} {T : Tb} {H0 : HZ} {Γ Γ1 Γn Γm : List Mode} {J : Jm} {e a b tg iter : Expr} {es : List Expr} {st : Stmt} {sts : List Stmt} {f g : SF} {fe fa fb fc : EF} {k ka kb kc : Knd} {pos po : Pos} {q p : Q3} {fi : List D → Option (List D)} {c : Bool} {fs : List D → Option (List D)}
def DictR (K : PySem.W.Frag) (T : Tb) (H0 : Hp) (q : Q3) (F H : Hp) (v : V) (d : D) : Prop := ∃ a, v = .ref a ∧
  ((∃ kvs ds, d = .dic (kvs.map (·.1)) ds ∧ Rd H a (.dK kvs) ∧ Rqs K T H0 q F (kvs.map (·.2)) ds) ∨ (T.z = false ∧ ∃ kvs ds, d = .dit (kvs.map (·.1)) ds ∧ Rd H a (.dT kvs) ∧ Rqs K T H0 q F (kvs.map (·.2)) ds))
theorem DictR.move {K : PySem.W.Frag} {F F' H H' : Hp} {v : V} {d : D} (h : DictR K T H0 q F H v d) (s : Same F F') (t : Sm H H') : DictR K T H0 q F' H' v d := by
  obtain ⟨a, e, h⟩ := h
  rcases h with ⟨kvs, ds, h1, h2, h3⟩ | ⟨hz, kvs, ds, h1, h2, h3⟩
  · exact ⟨a, e, .inl ⟨kvs, ds, h1, sm_rd t h2, s.rqs h3⟩⟩
  · exact ⟨a, e, .inr ⟨hz, kvs, ds, h1, sm_rd t h2, s.rqs h3⟩⟩
def e3 (g : D → D → D → Option D) (a b c : EF) : EF := fun ρ => (a ρ).bind fun x => (b ρ).bind fun y => (c ρ).bind fun z => g x y z
variable {x : Str} {pos' : Pos} {i j : Nat}
def putD (x y d : D) : Option D := match x with
  | .dic ks ds => (keyD y).bind fun k => if ks.length < 1000000 then some (.dic (dPut ks ds k d).1 (dPut ks ds k d).2) else none
  | .dit ks ds => (match y with
    | .tup ys => (keysD ys).bind fun k => if ks.length < 1000000 then some (.dit (dPut ks ds k d).1 (dPut ks ds k d).2) else none
    | _ => none)
  | _ => none
def sDPutD (i : Nat) (fk fe : EF) : SF := fun ρ => (fe ρ).bind fun d => (fk ρ).bind fun y => match ρ[i]? with
  | some x => (putD x y d).bind fun z => some (.nx (ρ.set i z))
  | none => none
end
end DL

namespace DL
open PySem PySem.Spec PyProof.Rows L2

section
variable {X : Cx} {T : Tb} {H0 : HZ} {Γ Γ1 Γn Γm : List Mode} {J : Jm} {e a b tg iter : Expr} {es : List Expr} {st : Stmt} {sts : List Stmt} {f g : SF} {fe fa fb fc : EF} {k ka kb kc : Knd} {pos po : Pos} {q p : Q3} {fi : List D → Option (List D)} {c : Bool} {fs : List D → Option (List D)}
end
end DL

namespace DL
open PySem PySem.Spec PyProof.Rows L2

section
variable {prog : Program} {w : World} {A : Around} {E : Value → Shared → Prop} {s : Shared}
end
theorem ObjOk_there {P : Program} {w : World} {H : Hp} {h : Heap} {a : Addr} {o : HO} (x : ObjOk P w H h a o) : ∃ o, h.get? a = some o := by
  cases o with
  | lst xs => obtain ⟨_, _, _, _, e⟩ := x; exact ⟨_, e⟩
  | tup xs => obtain ⟨_, _, _, _, e, _⟩ := x; exact ⟨_, e⟩
  | dK kvs => obtain ⟨_, _, _, _, o, _, _, e, _⟩ := x; exact ⟨_, e⟩
  | dT kvs => obtain ⟨_, _, _, _, o, _, _, e, _⟩ := x; exact ⟨_, e⟩
  | set S n => obtain ⟨o, _, _, _, e, _⟩ := x; exact ⟨_, e⟩
  | ins C dx fs => obtain ⟨_, _, _, e, _⟩ := x; exact ⟨_, e⟩
  | own y => exact x
  | xd fs => obtain ⟨_, ⟨_, _, _, e, _⟩, _⟩ := x; exact ⟨_, e⟩
  | rng lo hi => obtain ⟨_, _, _, e⟩ := x; exact ⟨_, e⟩
  | frz ob u => obtain ⟨e, _⟩ := x; exact ⟨_, e⟩
  | tbl ps => exact ⟨_, (show h.get? a = some _ from x)⟩
  | met f y => exact ⟨_, (show h.get? a = some _ from x)⟩
  | ext φ => obtain ⟨_, e, _⟩ := x; exact e
theorem hok_none {P : Program} {w : World} {H : Hp} {h : Heap} {a : Addr} (x : HOk P w H h) (e : h.get? a = none) : H a = none := by
  cases q : H a with
  | none => rfl
  | some u =>
    obtain ⟨o, h1⟩ := ObjOk_there (x a u q)
    rw [e] at h1; cases h1
section
variable {X : Cx} {pins : List (Addr × Obj)} {σ : L2.St} {H : Hp} {s : Shared}
end
end DL

namespace DL
open PySem PySem.Spec PyProof.Rows L2

structure LamS1 (sc scope : Scope) (x a : Str) : Prop where
  kind : scope.kind = .function
  co : scope.isCoroutine = false
  gen : scope.isGenerator = false
  nocell : ∀ y ∈ scope.names, y.2 ≠ .cell
  ha : scope.names.lookup a = some .local
  hx : scope.names.lookup x = some .free
  free : ∀ y ∈ scope.names, y.2 = .free → sc.names.lookup y.1 = some .cell ∨ sc.names.lookup y.1 = some .free
end DL

namespace DL
open PySem PySem.Spec PyProof.Rows L2

section
variable {X : Cx} {T : Tb} {H0 : HZ} {Γ Γ1 Γn Γm : List Mode} {J : Jm} {pos po : Pos} {q p : Q3}
end
structure FtT (K : PySem.W.Frag) (mg : Str → Option Value) (x qual : Str) (st : Stmt) (ps : List Str) (c P : Addr) : Prop where
  ex : ∃ (f : Addr) (oc : Value) (od : Option Addr) (kV doc pm : Value) (an : Option Addr) (ct : Value) (osl : Array (Option Value)),
    K.lookup f = some ⟨oc, od, .func (PySem.W.fnOf x qual (defArgs st) (defBody st) (defScope st) .none kV doc pm an (.ref c) ct), osl⟩ ∧ PySem.W.codeIn K (.ref c) qual = true ∧ PySem.W.keepIn K (.ref f) = true ∧
      Binds K (PySem.W.fnOf x qual (defArgs st) (defBody st) (defScope st) .none kV doc pm an (.ref c) ct) ps [] ∧ mg x = some (.ref f)
section
variable {P : Program} {w : World} {K : PySem.W.Frag} {mg : Str → Option Value} {base : Heap} {T : Tb}
theorem mk_okft {x : Str} {st : Stmt} {N ps : List Str} {pks : List PKn} {m k : Nat} {body : SF} {Γn : List Mode} {rk : RK} {nx : Bool} {c Pt : Addr} (F : FtT K mg x x st ps c Pt) (S : FnScope N ps (defScope st)) (hN : N.length = pks.length + m) (hp : ps.length = pks.length)
    (hnx : nx = true → ∃ q, rk = .q q) (hb : ∀ (f : Addr) (A : Around) (outer : List Env) (s : Shared) (H : Hp) (E : XK), Room k (bodyX P w K mg base N x st f (.ref c) A outer s H E).A → DSs (bodyX P w K mg base N x st f (.ref c) A outer s H E) T ⟨ntb H, 0, []⟩ (ms0 pks m) (defBody st) body Γn (jm rk)) :
    OkF P w K mg base T (k + 1) x ps (fnD pks m nx body) rk := by
  obtain ⟨f, oc, od, kV, doc, pm, an, ct, osl, lk, hcd, kp, bd, hmg⟩ := F.ex
  refine ⟨f, _, hmg, kp, bd, fn_of lk hcd S (fun vs H Q E h => h.1) fun A outer s H vs Q E hr h => ?_⟩
  obtain ⟨hl, ds, d, ht, r, hf, hq⟩ := h
  refine ⟨_, (hb f A outer s H E hr).nox, ?_⟩
  unfold fnD at hf
  split at hf
  · rename_i hc
    cases h1 : body (ds ++ List.replicate m .non) with
    | none => rw [h1] at hf; cases hf
    | some o =>
      rw [h1] at hf
      simp only [Option.bind_some] at hf
      refine ⟨ntb H, _, _, o, rl_start hN r hc ht, h1, ?_⟩
      split at hf
      · cases hf
        exact fun H' v hv => hq H' v hv
      · split at hf
        · rename_i hx
          cases hf
          obtain ⟨q, rfl⟩ := hnx hx
          exact fun F' O' σ' H' s R => hq H' .non ⟨F', R.h0, R.fh, ⟨R.nF, R.tb⟩, .non⟩
        · cases hf
      · cases hf
  · cases hf
end
def spLawL (K : PySem.W.Frag) (M : Nat) (tt : List (Addr × Str)) : Sp := fun vs H Q _ => ∃ (a : Addr) (ns : List Int), vs = [.ref a] ∧ LamX.Tabs tt H ∧ SqL K H a (ns.map V.int) ∧ ns.length ≤ M ∧ ∀ H', Q (.bl true) H'
theorem fn_frz {P : Program} {w : World} {K : PySem.W.Frag} {mg : Str → Option Value} {base : Heap} {k M : Nat} {f : Addr} {fd : FuncData} {x : Str} {tt : List (Addr × Str)} (F : FnOk P w K mg base CX0 k f fd [x] (spLaw K M tt)) : FnOk P w K mg base CX0 k f fd [x] (spLawL K M tt) := by
  refine ⟨fun vs H Q E ⟨a, ns, e, _⟩ => by rw [e]; rfl, fun A outer s H args us vs Q E hr e0 hb r hsp => ?_⟩
  obtain ⟨a, ns, e, ht, hs, hl, hq⟩ := hsp
  subst e
  rcases hs with (h | h) | h
  · obtain ⟨o, ho⟩ := ObjOk_there (e0.hok a _ h)
    have ne : ∀ b u, H b = some u → (∀ xs, u ≠ .lst xs) → b ≠ a := fun b u e n z => by
      subst z
      rw [h] at e; cases e
      exact n _ rfl
    have nn : ∀ b, H b = none → b ≠ a := fun b e z => by
      subst z
      rw [h] at e; cases e
    have e1 : Env0 P w K mg base A outer s (upd H a (.frz o (.lst (ns.map V.int)))) := ⟨e0.frames, e0.mod, fun b u q => ⟨(e0.bs b u q).1, by rw [upd_ne (nn _ (e0.bs b u q).2)]; exact (e0.bs b u q).2⟩, e0.bsz, e0.funs,
      fun b q => by rw [upd_ne (nn _ (e0.frf b q))]; exact e0.frf b q, fun b u q => by
        by_cases hba : b = a
        · subst hba
          rw [upd_same] at q; cases q
          exact ⟨ho, (e0.hok b _ h).stay (fun _ _ _ z => z) (fun c z => by rw [upd_ne (ne _ _ z fun xs y => by cases y)]; exact z) fun c xs z => by rw [upd_ne (ne _ _ z fun xs y => by cases y)]; exact z⟩
        · rw [upd_ne hba] at q
          exact (e0.hok b u q).stay (fun _ _ _ z => z) (fun c z => by rw [upd_ne (ne _ _ z fun xs y => by cases y)]; exact z) fun c xs z => by rw [upd_ne (ne _ _ z fun xs y => by cases y)]; exact z, e0.bare⟩
    have ht1 : LamX.Tabs tt (upd H a (.frz o (.lst (ns.map V.int)))) := fun p hp => by
      obtain ⟨ps, h1, h2, h3⟩ := ht p hp
      refine ⟨ps, by rw [upd_ne (ne _ _ h1 fun xs y => by cases y)]; exact h1, h2, fun pos cv hc => ?_⟩
      obtain ⟨c, g1, g2⟩ := h3 pos cv hc
      exact ⟨c, g1, by rw [upd_ne (ne _ _ g2 fun xs y => by cases y)]; exact g2⟩
    refine codeAny_mono (F.run A outer s _ args us [.ref a] Q E hr e1 hb r ⟨a, ns, rfl, ht1, .inl ⟨o, upd_same⟩, hl, hq⟩) fun r s' hres => ?_
    cases r with
    | error e => exact hres
    | ok fl =>
      cases fl with
      | ret u =>
        obtain ⟨v, H2, os, bare, un, hok, rv, q⟩ := hres
        exact ⟨v, H2, os, bare, ⟨fun b u e n => un.keep b u e (by rw [upd_ne (nn b n)]; exact n), fun b u e n => un.slot b u e (by rw [upd_ne (nn b n)]; exact n), fun b u e n => un.free b u e (by rw [upd_ne (nn b n)]; exact n), un.there,
          fun b xs e => un.tups b xs (by rw [upd_ne (ne _ _ e fun xs y => by cases y)]; exact e), fun b o u e => un.frzs b o u (by rw [upd_ne (ne _ _ e fun xs y => by cases y)]; exact e), fun b ps e => un.tbls b ps (by rw [upd_ne (ne _ _ e fun xs y => by cases y)]; exact e)⟩, hok, rv, q⟩
      | next => exact hres
      | brk => exact hres
      | cont => exact hres
  · exact F.run A outer s H args us [.ref a] Q E hr e0 hb r ⟨a, ns, rfl, ht, .inl h, hl, hq⟩
  · exact F.run A outer s H args us [.ref a] Q E hr e0 hb r ⟨a, ns, rfl, ht, .inr h, hl, hq⟩
theorem law_spT {K : PySem.W.Frag} {M : Nat} {H : Hp} {a : Addr} {ns : List Int} {cs : List (Addr × Addr)} {tt : List (Addr × Str)} (hl : ns.length ≤ M) (hO : ∀ p ∈ cs, H p.2 = some (.tbl #[])) (ht : ∀ p ∈ tt, ∃ c, (c, p.1) ∈ cs) (hs : SqL K H a (ns.map V.int)) : spLawL K M tt [.ref a] H (fun v _ => v = .bl true) fun _ _ _ => False :=
  ⟨a, ns, rfl, fun p hp => by
    obtain ⟨c, hc⟩ := ht p hp
    exact LamX.TabS.nil (hO _ hc), hs, hl, fun _ => rfl⟩
theorem lawAt_of {l : PySem.W.OpenLaw} {w : World} {K : PySem.W.Frag} {k M : Nat} {x : Str} {mg : Str → Option Value} {fa : Addr} {h : Heap} {tt : List (Addr × Str)} {cs : List (Addr × Addr)} (KX : K.In h) (hT : ∀ p ∈ cs, h.get? p.2 = some { cls := .none, data := .fields #[] }) (nT : ∀ p ∈ cs, K.lookup p.2 = none) (C : ∀ p ∈ cs, PySem.W.codeHdIn K p.1 p.2 = true) (ht : ∀ p ∈ tt, ∃ c, (c, p.1) ∈ cs)
    (F : ∃ fd : FuncData, (∀ (s : Shared) (v : Value), BindsTo s fd ⟨[v], []⟩ [(x, v)]) ∧ ∀ base : Heap, K.In base → base.Ns mainGlobals mg → (∀ p ∈ cs, LamX.TabB base mg p.1 p.2) → FnOk l.prog w K mg base CX0 k fa fd [x] (spLaw K M tt)) : LamX.LawAtS l w K CX0 k M x mg fa h := by
  obtain ⟨fd, hb, hF⟩ := F
  exact ⟨fd, cs, spLawL K M tt, hT, nT, fun p hp => PySem.W.codeHd_of_K KX (C p hp), hb, fun H a ns hl _ hH hs => law_spT hl hH ht hs, fun base B G TB => fn_frz (hF base B G TB)⟩
theorem ft_lawT {l : PySem.W.OpenLaw} {w : World} {K : PySem.W.Frag} {h : Heap} {mg : Str → Option Value} {fa : Addr} {st : Stmt} {x : Str} {k : Nat} {sp : Sp} {cs : List (Addr × Addr)} (X : K.In h) (G : h.Ns mainGlobals mg) (hfa : mg "law" = some (.ref fa)) (e : FtH K "law" "law" st)
    (hb : ∀ (kV dc pm : Value) (an : Option Addr) (cd ct : Value) (s : Shared) (v : Value), BindsTo s (PySem.W.fnOf "law" "law" (defArgs st) (defBody st) (defScope st) .none kV dc pm an cd ct) ⟨[v], []⟩ [(x, v)])
    (F : ∀ (fd : FuncData) (base : Heap), (∀ p ∈ cs, LamX.TabB base mg p.1 p.2) → Fun K "law" "law" st fa fd → FnOk l.prog w K mg base CX0 k fa fd [x] sp) :
    ∃ fd : FuncData, (∀ (s : Shared) (v : Value), BindsTo s fd ⟨[v], []⟩ [(x, v)]) ∧ ∀ base : Heap, K.In base → base.Ns mainGlobals mg → (∀ p ∈ cs, LamX.TabB base mg p.1 p.2) → FnOk l.prog w K mg base CX0 k fa fd [x] sp := by
  obtain ⟨f, oc, od, kV, dc, pm, an, cd, ct, sl, h1, h2, h3, h4⟩ := e
  have e := hfa.symm.trans (PySem.W.mg_of X G h1)
  cases e
  exact ⟨_, fun s v => hb kV dc pm an cd ct s v, fun base _ _ TB => F _ base TB (fun_mk h2 h3 h4)⟩
end DL

namespace DL
open PySem PySem.Spec PyProof.Rows L2

def eAlt (f g : EF) : EF := fun ρ => match f ρ with
  | some d => some d
  | none => g ρ
section
variable {X : Cx} {T : Tb} {H0 : HZ} {Γ Γ1 Γn Γm : List Mode} {J : Jm} {e a b c2 tg iter : Expr} {es : List Expr} {st : Stmt} {sts : List Stmt} {f g : SF} {fe ff fa fb fc : EF} {k ka kb kc : Knd} {pos po p2 p3 pos2 q2 : Pos} {q p : Q3} {fi : List D → Option (List D)} {c : Bool} {fs : List D → Option (List D)}
def spP (T : Tb) (c : Nat) (f : Str) : Sp := fun vs H Q _ => ∃ (x : Addr) (v : V) (dx : Addr), vs = [.ref x, v] ∧ H x = some (.ins (T c).1 dx []) ∧ Q .non (upd H x (.ins (T c).1 dx [(f, v)]))
structure OkP (P : Program) (w : World) (K : PySem.W.Frag) (mg : Str → Option Value) (base : Heap) (T : Tb) (k : Nat) (c : Nat) (x f : Str) : Prop where
  ex : ∃ fi fd ps, ps.length = 2 ∧ Mk K (T c).1 fi ∧ Binds K fd ps [] ∧ FnOk P w K mg base CX0 k fi fd ps (spP T c f)
  mg : mg x = some (.ref (T c).1)
  nm : (T c).2 = [f]
def zipD (xs ys : List D) : List D := List.zipWith (fun x y => D.tup [x, y]) xs ys
def iZp (f g : EF) : List D → Option (List D) := fun ρ => (f ρ).bind fun x => (g ρ).bind fun y => match x, y with
  | .lst xs, .lst ys => some (zipD xs ys)
  | _, _ => none
end
end DL

namespace DL
open PySem PySem.Spec PyProof.Rows L2

section
variable {X : Cx} {T : Tb} {H0 : HZ} {Γ Γ1 Γn Γm : List Mode} {J : Jm} {e a b c2 tg iter : Expr} {es : List Expr} {st : Stmt} {sts : List Stmt} {f g : SF} {fe ff fa fb fc : EF} {k ka kb kc : Knd} {pos po p2 p3 pos2 q2 : Pos} {q p : Q3} {fi : List D → Option (List D)} {c : Bool} {fs : List D → Option (List D)}
end
end DL

namespace DL
open PySem PySem.Spec PyProof.Rows L2

section
variable {X : Cx} {T : Tb} {H0 : HZ} {Γ Γ1 Γn Γm : List Mode} {J : Jm} {e a b tg iter : Expr} {es : List Expr} {st : Stmt} {sts : List Stmt} {f g : SF} {fe fa fb fc : EF} {k ka kb kc : Knd} {pos po : Pos} {q p : Q3} {fi : List D → Option (List D)} {c : Bool} {fs : List D → Option (List D)}
end
end DL

namespace DL
open PySem PySem.Spec PyProof.Rows L2

section
variable {X : Cx} {T : Tb} {H0 : HZ} {Γ Γ1 Γn Γm : List Mode} {J : Jm} {e a b tg iter : Expr} {es : List Expr} {st : Stmt} {sts : List Stmt} {f g : SF} {fe fa fb fc : EF} {k ka kb kc : Knd} {pos po p2 q2 : Pos} {q p : Q3} {fi : List D → Option (List D)} {c : Bool} {fs : List D → Option (List D)} {j : Nat}
end
end DL

namespace DL
open PySem PySem.Spec PyProof.Rows L2

section
variable {X : Cx} {T : Tb} {H0 : HZ} {Γ Γ1 Γn Γm : List Mode} {J : Jm} {e a b tg iter : Expr} {es : List Expr} {st : Stmt} {sts : List Stmt} {f g : SF} {fe fa fb fc : EF} {k ka kb kc : Knd} {pos po p2 q2 : Pos} {q p : Q3} {fi : List D → Option (List D)} {c : Bool} {fs : List D → Option (List D)} {j : Nat}
end
end DL

namespace DL
open PySem PySem.Spec PyProof.Rows L2

section
variable {P : Program} {w : World} {K : PySem.W.Frag} {mg : Str → Option Value} {base : Heap}
theorem _root_.L2.Fun.okN {x qual : Str} {st : Stmt} {f : Addr} {fd : FuncData} {N ps : List Str} {k : Nat} {sp : Sp} (F : Fun K x qual st f fd) (S : FnScope N ps (defScope st)) (len : ∀ vs H Q E, sp vs H Q E → vs.length = ps.length)
    (hbody : ∀ (cdv : Value) (A : Around) (outer : List Env) (s : Shared) (H : Hp) (vs : List V) (Q : VK) (E : XK), Room k (A.deeper (envOfC qual (defScope st) s.heap.objs.size f cdv)) → sp vs H Q E →
      ∃ t, PSs (cxOf (L2N.CX P w) P w K mg base N qual (defScope st) f cdv A outer s H E) (defBody st) t ∧ t { nx := fun _ H' => Q .non H', rt := Q } (L2.start N vs) H) : FnOk P w K mg base (L2N.CX P w) (k + 1) f fd ps sp := by
  obtain ⟨oc, od, kV, doc, pm, an, cdv, ct, osl, rfl, lk, hcd⟩ := F.ex
  exact fn_of lk hcd S len fun A outer s H vs Q E hr hsp => hbody cdv A outer s H vs Q E hr hsp
end
inductive Res where
  | rt (d : D) | ex (c : Nat) (es : List D)
abbrev XF := List D → Option Res
def ExOk (K : PySem.W.Frag) (T : Tb) (H0 H' : Hp) (cls : Value) (od : Option Addr) (c : Nat) (es : List D) : Prop := ∃ F, Same H0 F ∧ Same F H' ∧ (NoT F ∧ LamX.Tabs T.t H') ∧ ExR K T F cls od c es
def tDX (K : PySem.W.Frag) (T : Tb) (H0 : HZ) (Γ : List Mode) (f : XF) (k : Knd) (W : WX) : TE := fun σ H Q =>
  ∃ F O ρ r, Rl K T H0 Γ F O σ H ρ ∧ f ρ = some r ∧ (∀ d, r = .rt d → ∀ F' H' v, Rl K T H0 Γ F' O σ H' ρ → Same F F' → Sm H H' → Rp K T H0 F' H' O k v d → Q v H') ∧
    ∀ c es, r = .ex c es → ∀ F' H' cls od, Rl K T H0 Γ F' O σ H' ρ → Same F F' → ExR K T F' cls od c es → W cls od σ H'
abbrev DX (X : Cx) (T : Tb) (H0 : HZ) (Γ : List Mode) (e : Expr) (f : XF) (k : Knd) (W : WX) : Prop := PE X e (tDX X.K T H0 Γ f k W)
def xDrop (f : XF) : SF := fun ρ => (f ρ).bind fun r => match r with
  | .rt _ => some (.nx ρ)
  | .ex c es => some (.ex c es ρ)
def xSet (i : Nat) (f : XF) : SF := fun ρ => (f ρ).bind fun r => match r with
  | .rt d => some (.nx (ρ.set i d))
  | .ex c es => some (.ex c es ρ)
def xRet (f : XF) : SF := fun ρ => (f ρ).bind fun r => match r with
  | .rt d => some (.rt d)
  | .ex c es => some (.ex c es ρ)
section
variable {X : Cx} {T : Tb} {H0 : HZ} {Γ Γ1 Γn Γm : List Mode} {J : Jm} {e a b o tg iter : Expr} {es : List Expr} {st : Stmt} {sts : List Stmt} {f : XF} {fe fa fb fo : EF} {k ka kb : Knd} {pos po pos' : Pos} {q p : Q3} {fs : List D → Option (List D)} {x : Str} {i : Nat} {W : WX} {cl : Nat}
theorem dx_wk (h : DX X T H0 Γ e f k W) {k' : Knd} (i : ∀ F O σ H ρ v d, Rl X.K T H0 Γ F O σ H ρ → Rp X.K T H0 F H O k v d → Rp X.K T H0 F H O k' v d) : DX X T H0 Γ e f k' W :=
  PE.wk h fun σ H Q ⟨F, O, ρ, r, R, hf, hq, hx⟩ => ⟨F, O, ρ, r, R, hf, fun d hd F' H' v R' sF sH r => hq d hd F' H' v R' sF sH (i _ _ _ _ _ _ _ R' r), hx⟩
theorem dx_q (h : DX X T H0 Γ e f (.q p) W) (hl : p.le q = true := by rfl) : DX X T H0 Γ e f (.q q) W := dx_wk h fun F O σ H ρ v d R r => RepG.mono (.refl _) (NK.le hl) r
theorem ds_dropX (he : DX X T H0 Γ e f k J.w) (hx : wkAll Γ J.x = true) (hs : swapsWith e none pos.line X.env = pure false := by rfl) : DS X T H0 Γ (.Expr e pos) (xDrop f) Γ J := PS.wk (ps_expr he hs) fun E σ H ⟨F, O, ρ, out, R, hf, hq⟩ => by
  unfold xDrop at hf
  cases h1 : f ρ with
  | none => rw [h1] at hf; cases hf
  | some r =>
    rw [h1] at hf
    refine ⟨F, O, ρ, r, R, h1, ?_, ?_⟩
    · rintro d rfl F' H' v R' s s' rv
      cases hf
      exact hq F' O σ H' s R'
    · rintro c es rfl F' H' cls od R' s x
      cases hf
      obtain ⟨F2, O2, s2, R2⟩ := wk_of hx F' O σ H' ρ R'
      exact hq F2 O2 σ H' cls od (s.trans s2) R2 (x.mono s2)
theorem ds_retX (he : DX X T H0 Γ e f (.q q) J.w) (hw : wkAll Γ J.x = true) (hr : J.r = .q q := by rfl) : DS X T H0 Γ (.Return (some e) pos) (xRet f) Γn J := PS.wk (ps_ret he) fun E σ H ⟨F, O, ρ, out, R, hf, hq⟩ => by
  unfold xRet at hf
  cases h1 : f ρ with
  | none => rw [h1] at hf; cases hf
  | some r =>
    rw [h1] at hf
    refine ⟨F, O, ρ, r, R, h1, ?_, ?_⟩
    · rintro d rfl F' H' v R' s s' rv
      cases hf
      refine hq H' v ?_
      rw [hr]
      exact ⟨F', R'.h0, R'.fh, ⟨R'.nF, R'.tb⟩, rv⟩
    · rintro c es rfl F' H' cls od R' s x
      cases hf
      obtain ⟨F2, O2, s2, R2⟩ := wk_of hw F' O σ H' ρ R'
      exact hq F2 O2 σ H' cls od (s.trans s2) R2 (x.mono s2)
def spX (K : PySem.W.Frag) (T : Tb) (n : Nat) (φ : List D → Option Res) (rk : RK) : Sp := fun vs H Q E => vs.length = n ∧ ∃ ds r, LamX.Tabs T.t H ∧ RUs K T H vs ds ∧ φ ds = some r ∧
  (∀ d, r = .rt d → ∀ H' v, RetOk K T (ntb H) H' rk v d → Q v H') ∧ ∀ c es, r = .ex c es → ∀ H' cls od, ExOk K T (ntb H) H' cls od c es → E cls od H'
def fnX (pks : List PKn) (m : Nat) (nx : Bool) (body : SF) : List D → Option Res := fun args =>
  if chks pks args = true then (body (args ++ List.replicate m .non)).bind fun o => match o with
    | .rt d => some (.rt d)
    | .nx _ => if nx = true then some (.rt .non) else none
    | .ex c es _ => some (.ex c es)
    | _ => none
  else none
abbrev jx (n : Nat) (rk : RK) (E : XK) : Jm := ⟨[], [], rk, List.replicate n .no, fun cls od _ H => E cls od H⟩
abbrev bodyXX (P : Program) (w : World) (K : PySem.W.Frag) (mg : Str → Option Value) (base : Heap) (N : List Str) (x : Str) (st : Stmt) (f : Addr) (cdv : Value) (A : Around) (outer : List Env) (s : Shared) (H : Hp) (E : XK) : Cx := cxOf (L2N.CX P w) P w K mg base N x (defScope st) f cdv A outer s H E
theorem back_in {K : PySem.W.Frag} {F H1 H' Fc : Hp} {O : Own} {σ : L2.St} {ρ : List D} (R : Rl K T H0 Γ F O σ H1 ρ) (s1 : Same (ntb H1) Fc) (s2 : Same Fc H') (n1 : NoT Fc) (tb : LamX.Tabs T.t H') :
    Rl K T H0 Γ (cut Fc fun b => ∃ i, O i b) O σ H' ρ ∧ Same F (cut Fc fun b => ∃ i, O i b) ∧ Sm H1 H' ∧ ∀ a o, Fc a = some o → isMut o = false → ¬ ∃ i, O i a := by
  have fh : Same F (ntb H1) := fun b o e => ntb_some (R.fh _ _ e) (R.nF _ _ e)
  have sF : Same F (cut Fc fun b => ∃ i, O i b) := fun b o e => by
    rw [cut_out]
    · exact s1 _ _ (fh _ _ e)
    · rintro ⟨i, hi⟩
      rw [(R.on i b hi).1] at e; cases e
  have sm : Sm H1 H' := ⟨fun b o e n => s2 _ _ (s1 _ _ (ntb_some e n))⟩
  refine ⟨(R.grow sm tb).more sF (fun b o e => ?_) n1.cut (fun i b hi => cut_in ⟨i, hi⟩), sF, sm, ?_⟩
  · unfold cut at e
    split at e
    · cases e
    · exact s2 _ _ e
  · rintro a o e hm ⟨i, hi⟩
    obtain ⟨_, u, h2, h3⟩ := R.on i a hi
    have := s1 _ _ (ntb_some h2 (isT_mut h3))
    rw [e] at this; cases this
    rw [hm] at h3; cases h3
theorem ExR.cut {K : PySem.W.Frag} {Fc : Hp} {S : Addr → Prop} (hT : ∀ a o, Fc a = some o → isMut o = false → ¬ S a) {cls : Value} {od : Option Addr} {c : Nat} {es : List D} (h : ExR K T Fc cls od c es) : ExR K T (cut Fc S) cls od c es := by
  obtain ⟨h1, fs, h2, h3, h4⟩ := h
  exact ⟨h1, fs, h2.cut hT, h3, h4.cut (fun _ z => z.elim) hT⟩
theorem ex_in {K : PySem.W.Frag} {F H1 H' : Hp} {O : Own} {σ : L2.St} {ρ : List D} {cls : Value} {od : Option Addr} {c : Nat} {es : List D} (R : Rl K T H0 Γ F O σ H1 ρ) (h : ExOk K T (ntb H1) H' cls od c es) : ∃ F', Rl K T H0 Γ F' O σ H' ρ ∧ Same F F' ∧ ExR K T F' cls od c es := by
  obtain ⟨Fc, s1, s2, ⟨n1, tb⟩, r⟩ := h
  obtain ⟨R2, s3, s4, hT⟩ := back_in R s1 s2 n1 tb
  exact ⟨_, R2, s3, r.cut hT⟩
structure OkFX (P : Program) (w : World) (K : PySem.W.Frag) (mg : Str → Option Value) (base : Heap) (T : Tb) (k : Nat) (x : Str) (ps : List Str) (φ : List D → Option Res) (rk : RK) : Prop where
  ex : ∃ f fd, mg x = some (.ref f) ∧ PySem.W.keepIn K (.ref f) = true ∧ Binds K fd ps [] ∧ FnOk P w K mg base (L2N.CX P w) k f fd ps (spX K T ps.length φ rk)
structure OkMX (P : Program) (w : World) (K : PySem.W.Frag) (mg : Str → Option Value) (base : Heap) (T : Tb) (k : Nat) (c : Nat) (m : Str) (ps : List Str) (φ : List D → Option Res) (rk : RK) : Prop where
  ex : ∃ f fd, Meth K (T c).1 m f ∧ Binds K fd ps [] ∧ FnOk P w K mg base (L2N.CX P w) k f fd ps (spX K T ps.length φ rk)
  cl : Cls K (T c).1
  no : m ∉ (T c).2
def xCall (φ : List D → Option Res) (fs : List D → Option (List D)) : XF := fun ρ => (fs ρ).bind φ
theorem callX_sem {K : PySem.W.Frag} {n : Nat} {φ : List D → Option Res} {rk : RK} (hk : rk.ok = true) (hn : ∀ ρ ds, fs ρ = some ds → ds.length = n) :
    ∀ σ H Q, tDX K T H0 Γ (xCall φ fs) rk.knd W σ H Q → tCallS (spX K T n φ rk) (WE W) (tDA K T H0 Γ fs) σ H Q := by
  rintro σ H Q ⟨F, O, ρ, r, R, hf, hq, hx⟩
  unfold xCall at hf
  cases h1 : fs ρ with
  | none => rw [h1] at hf; cases hf
  | some ds =>
    rw [h1] at hf
    simp only [Option.bind_some] at hf
    refine ⟨F, O, ρ, ds, R, h1, fun F1 H1 vs R1 s1 t1 r1 => ?_⟩
    refine ⟨by rw [r1.length]; exact hn _ _ h1, ds, r, R1.tb, r1, hf, fun d hd H' v r => ?_, fun c es hd H' cls od r => ?_⟩
    · obtain ⟨F2, R2, s2, t2, r2⟩ := ret_in R1 r hk
      exact hq d hd F2 H' v R2 (s1.trans s2) (t1.trans t2) r2
    · obtain ⟨F2, R2, s2, r2⟩ := ex_in R1 r
      exact hx c es hd F2 H' cls od R2 (s1.trans s2) r2
theorem dx_call {j k : Nat} {x : Str} {ps : List Str} {φ : List D → Option Res} {rk : RK} (h : OkFX X.prog X.w X.K X.mg X.base T j x ps φ rk) (tk : L2N.Takes X W) (hr : Room k X.A) (hg : Gl X x) (ha : DA X T H0 Γ (e :: es) fs) (hn : ∀ ρ ds, fs ρ = some ds → ds.length = ps.length) (hj : j ≤ k := by decide) (hk : rk.ok = true := by rfl)
    (hdb : (x == ("__debug__" : Str)) = false := by decide) (he : starEach (e :: es) X.env = (false, eval e X.env) :: starEach es X.env := by rfl) (hpl : (backTo pos (starEach es X.env)).any (·.1) = false := by rfl) :
    DX X T H0 Γ (.Call (.Name x po) (e :: es) [] pos) (xCall φ fs) rk.knd W := by
  obtain ⟨f, fd, h1, h2, h3, h4⟩ := h.ex
  exact PE.wk (pe_callS h4 (hr.mono hj) hg h1 h2 h3 (fun σ => L2N.passAt tk σ) ha hdb he hpl) (callX_sem hk hn)
def xMeth (c : Nat) (φ : List D → Option Res) (fo : EF) (fs : List D → Option (List D)) : XF := fun ρ => (fo ρ).bind fun d => match d with
  | .ins c' ds => if c' = c then (fs ρ).bind fun as => φ (.ins c ds :: as) else none
  | _ => none
end
section
variable {P : Program} {w : World} {K : PySem.W.Frag} {mg : Str → Option Value} {base : Heap} {T : Tb}
theorem fn_bodyX {x qual : Str} {st : Stmt} {N ps : List Str} {pks : List PKn} {m k : Nat} {body : SF} {Γn : List Mode} {rk : RK} {nx : Bool} {f : Addr} {fd : FuncData} (F : Fun K x qual st f fd) (S : FnScope N ps (defScope st)) (hN : N.length = pks.length + m) (hp : ps.length = pks.length)
    (hnx : nx = true → ∃ q, rk = .q q) (hb : ∀ (f : Addr) (cdv : Value) (A : Around) (outer : List Env) (s : Shared) (H : Hp) (E : XK), Room k (bodyXX P w K mg base N qual st f cdv A outer s H E).A → L2N.Takes (bodyXX P w K mg base N qual st f cdv A outer s H E) (fun cls od _ H' => E cls od H') →
      PassesOwn (model P w) (bodyXX P w K mg base N qual st f cdv A outer s H E).A (bodyXX P w K mg base N qual st f cdv A outer s H E).env (bodyXX P w K mg base N qual st f cdv A outer s H E).xe →
      DSs (bodyXX P w K mg base N qual st f cdv A outer s H E) T ⟨ntb H, 0, []⟩ (ms0 pks m) (defBody st) body Γn (jx (pks.length + m) rk E)) :
    FnOk P w K mg base (L2N.CX P w) (k + 1) f fd ps (spX K T ps.length (fnX pks m nx body) rk) := by
  refine F.okN S (fun vs H Q E h => h.1) fun cdv A outer s H vs Q E hr h => ?_
  obtain ⟨hl, ds, r, ht, rr, hf, hq, hx⟩ := h
  refine ⟨_, hb f cdv A outer s H E hr (L2N.takes_of rfl rfl rfl rfl) (passes_of rfl), ?_⟩
  unfold fnX at hf
  split at hf
  · rename_i hc
    cases h1 : body (ds ++ List.replicate m .non) with
    | none => rw [h1] at hf; cases hf
    | some o =>
      rw [h1] at hf
      simp only [Option.bind_some] at hf
      refine ⟨ntb H, _, _, o, rl_start hN rr hc ht, h1, ?_⟩
      split at hf
      · cases hf
        exact fun H' v hv => hq _ rfl H' v hv
      · split at hf
        · rename_i hnn
          cases hf
          obtain ⟨q, rfl⟩ := hnx hnn
          exact fun F' O' σ' H' s R => hq _ rfl H' .non ⟨F', R.h0, R.fh, ⟨R.nF, R.tb⟩, .non⟩
        · cases hf
      · cases hf
        exact fun F' O' σ' H' cls od s R x => hx _ _ rfl H' cls od ⟨F', R.h0, R.fh, ⟨R.nF, R.tb⟩, x⟩
      · cases hf
  · cases hf
theorem mk_okfx {x : Str} {st : Stmt} {N ps : List Str} {pks : List PKn} {m k : Nat} {body : SF} {Γn : List Mode} {rk : RK} {nx : Bool} (F : FtF K mg x x st ps) (S : FnScope N ps (defScope st)) (hN : N.length = pks.length + m) (hp : ps.length = pks.length)
    (hnx : nx = true → ∃ q, rk = .q q) (hb : ∀ (f : Addr) (cdv : Value) (A : Around) (outer : List Env) (s : Shared) (H : Hp) (E : XK), Room k (bodyXX P w K mg base N x st f cdv A outer s H E).A → L2N.Takes (bodyXX P w K mg base N x st f cdv A outer s H E) (fun cls od _ H' => E cls od H') →
      PassesOwn (model P w) (bodyXX P w K mg base N x st f cdv A outer s H E).A (bodyXX P w K mg base N x st f cdv A outer s H E).env (bodyXX P w K mg base N x st f cdv A outer s H E).xe →
      DSs (bodyXX P w K mg base N x st f cdv A outer s H E) T ⟨ntb H, 0, []⟩ (ms0 pks m) (defBody st) body Γn (jx (pks.length + m) rk E)) :
    OkFX P w K mg base T (k + 1) x ps (fnX pks m nx body) rk := by
  obtain ⟨f, fd, h1, h2, h3⟩ := F.ex
  exact ⟨f, fd, h3, h1.kp, h2, fn_bodyX h1 S hN hp hnx hb⟩
end
end DL

namespace DL
open PySem PySem.Spec PyProof.Rows L2

def spE1 (K : PySem.W.Frag) (g : Str) : Sp := fun vs H Q _ => ∃ (a C : Addr) (v : V), vs = [.ref a, v] ∧ OexC K C ∧ PySem.W.findIn K (.ref C) g = some none ∧ H a = some (exo a C none) ∧
  ∀ dx, H dx = none → dx ≠ a → Q .non (upd (upd H dx (exd dx [(g, v)])) a (exo a C (some dx)))
def spE2 (K : PySem.W.Frag) (g1 g2 : Str) : Sp := fun vs H Q _ => ∃ (a C : Addr) (v u : V), vs = [.ref a, v, u] ∧ OexC K C ∧ PySem.W.findIn K (.ref C) g1 = some none ∧ PySem.W.findIn K (.ref C) g2 = some none ∧ H a = some (exo a C none) ∧
  ∀ dx, H dx = none → dx ≠ a → Q .non (upd (upd (upd H dx (exd dx [(g1, v)])) a (exo a C (some dx))) dx (exd dx [(g2, u), (g1, v)]))
section
variable {P : Program} {w : World} {K : PySem.W.Frag} {mg : Str → Option Value} {base : Heap} {T : Tb}
theorem fn_e1 {qual g : Str} {N ps : List Str} {st : Stmt} {f : Addr} {fd : FuncData} (F : Fun K "__init__" qual st f fd) (S : FnScope N ps (defScope st)) (hp : ps.length = 2)
    (hb : ∀ (f : Addr) (cdv : Value) (A : Around) (outer : List Env) (s : Shared) (H : Hp) (E : XK), PSs (bodyX P w K mg base N qual st f cdv A outer s H E) (defBody st) (tOst K g (tVar 0) (tVar 1))) : FnOk P w K mg base CX0 1 f fd ps (spE1 K g) := by
  refine F.ok S (fun vs H Q E h => ?_) fun cdv A outer s H vs Q E hr h => ?_
  · obtain ⟨a, C, v, rfl, _⟩ := h
    exact hp.symm
  · refine ⟨_, hb f cdv A outer s H E, ?_⟩
    obtain ⟨a, C, v, rfl, hc, hf, ha, hq⟩ := h
    exact ⟨v, rfl, .ref a, rfl, a, C, rfl, hc, hf, .inl ⟨ha, fun dx h1 h2 => hq dx h1 h2⟩⟩
structure OkE (P : Program) (w : World) (K : PySem.W.Frag) (mg : Str → Option Value) (base : Heap) (T : Tb) (c : Nat) (x : Str) (gs : List Str) : Prop where
  cl : OexC K (T c).1
  mgx : mg x = some (.ref (T c).1)
  nm : (T c).2 = gs
  ex : match gs with
    | [g] => PySem.W.findIn K (.ref (T c).1) g = some none ∧ ∃ fI fd ps, PySem.W.findIn K (.ref (T c).1) "__init__" = some (some (.ref fI)) ∧ PySem.W.typeIn K (.ref fI) = some (.type "function") ∧ Binds K fd ps [] ∧ FnOk P w K mg base CX0 1 fI fd ps (spE1 K g)
    | [g2, g1] => (PySem.W.findIn K (.ref (T c).1) g1 = some none ∧ PySem.W.findIn K (.ref (T c).1) g2 = some none) ∧ ∃ fI fd ps, PySem.W.findIn K (.ref (T c).1) "__init__" = some (some (.ref fI)) ∧ PySem.W.typeIn K (.ref fI) = some (.type "function") ∧ Binds K fd ps [] ∧ FnOk P w K mg base CX0 1 fI fd ps (spE2 K g1 g2)
    | _ => False
structure OkE0 (K : PySem.W.Frag) (mg : Str → Option Value) (T : Tb) (c : Nat) (x : Str) : Prop where
  mgx : mg x = some (.ref (T c).1)
  kp : PySem.W.keepIn K (.ref (T c).1) = true
  ty : PySem.W.typeIn K (.ref (T c).1) = some (.type "type")
  sb : PySem.W.subIn K (.ref (T c).1) (.type "BaseException") = some true
  ex : ∃ bm, PySem.W.excIn K (T c).1 bm "ValueError.__new__" = true ∧ ∃ B i, ExcBaseFacts B "ValueError.__new__" i bm
  nm : (T c).2 = []
end
theorem del_up1 {H : Hp} {a dx : Addr} {o1 o2 o3 u : HO} (ha : H a = none) (hd : dx ≠ a) : upd (del (upd (upd (upd H a o1) dx o2) a o3) a) dx u = upd H dx u := by
  funext b
  by_cases h1 : b = dx
  · subst h1; rw [upd_same, upd_same]
  · rw [upd_ne h1, upd_ne h1]
    by_cases h2 : b = a
    · subst h2; rw [del_same, ha]
    · rw [del_ne h2, upd_ne h2, upd_ne h1, upd_ne h2]
def sRaise (c : Nat) (fs : List D → Option (List D)) : SF := fun ρ => (fs ρ).bind fun ds => some (.ex c ds.reverse ρ)
section
variable {X : Cx} {T : Tb} {H0 : HZ} {Γ Γ1 Γn Γm : List Mode} {J : Jm} {e a b o tg iter : Expr} {es : List Expr} {pos po : Pos} {fs : List D → Option (List D)} {x g g1 g2 : Str} {cl : Nat} {W : WX}
theorem made_ctx {pins : List (Addr × Obj)} {σ : L2.St} {H1 H2 : Hp} {Q : XK} {s1 s2 : Shared} {h3 : Heap} {a C d : Addr} {fs : List (Str × V)} (hx : Raises X (.ref C)) (I : Inv X pins σ H1 s1) (lo : s1.heap.objs.size ≤ a)
    (kp : ∀ b o, s1.heap.get? b = some o → h3.get? b = some o) (un : Un (frs X.stack) [] (upd H1 a (exo a C none)) H2 h3 s2.heap) (ok : HOk X.prog X.w H2 s2.heap) (ho : s2.os = s1.os) (hb : AllBare s2.gens)
    (ea : H2 a = some (exo a C (some d))) (ed : H2 d = some (exd d fs)) (nd : H1 d = none) (q : Q (.ref C) (some d) (upd (del H2 a) d (.xd fs))) : L2N.MkP X pins σ Q (.ref a) s2 := by
  cases s1
  rcases s2 with ⟨hz, gz, dz, tz, oz⟩
  obtain ⟨t, G, J, kG, gn, ga, na⟩ := mk_end0 (d2 := dz) (t2 := tz) I lo kp un ok ho hb ea ed nd
  refine ⟨a, _, _, _, _, .ref C, some d, rfl, J, kG, gn, ga, ⟨rfl, rfl, fun vs z => ?_⟩, rfl, rfl, na, rfl, hb, hx, q⟩
  cases z
  rfl
theorem pmk_ini {C fI : Addr} {k : Nat} {fd : FuncData} {ps : List Str} {sp : Sp} {ta : TA} (cl : OexC X.K C) (h1 : PySem.W.findIn X.K (.ref C) "__init__" = some (some (.ref fI))) (h2 : PySem.W.typeIn X.K (.ref fI) = some (.type "function"))
    (fn : FnOk X.prog X.w X.K X.mg X.base CX0 k fI fd ps sp) (hr : Room (k + 1) X.A) (hb : Binds X.K fd ps []) (hg : Gl X x) (hm : X.mg x = some (.ref C)) (ha : PA X (e :: es) ta)
    (hdb : (x == ("__debug__" : Str)) = false) (he : starEach (e :: es) X.env = (false, eval e X.env) :: starEach es X.env) (hpl : (backTo pos (starEach es X.env)).any (·.1) = false) :
    L2N.PMk X (.Call (.Name x po) (e :: es) [] pos) (tMkO C sp [] ta) := by
  intro pins s σ H Q I h
  refine wpAny_Call_Name_kw (ld_glob I hg hm (PySem.W.callWith_K (h₀ := X.base) I.ok.mod.kin cl.kC (thn (ha.run pos pins s σ H _ I h) fun us s1 w => ?_) he hpl) hdb)
  obtain ⟨vs, H1, I1, rv, lt, w⟩ := w
  refine ⟨I1.kIn, ?_⟩
  obtain ⟨_, _, _, _, bm, _, _, _, _, _, _, _, _, _, _, hC, hbm⟩ := cl.cls
  cases s1 with
  | mk hp g dr tk os =>
  have lo : hp.objs.size ≤ hp.objs.size + 1 := Nat.le_add_right _ _
  have w := w _ (I1.hok.fresh lo)
  rw [List.append_nil] at w
  have kp : ∀ b o, hp.get? b = some o → ((hp.push (PySem.W.kdv_tup us)).push (PySem.HandSPX.excO C hp.objs.size)).get? b = some o := fun b o z => Heap.get?_push_of_some _ (Heap.get?_push_of_some _ z)
  have at1 : ((hp.push (PySem.W.kdv_tup us)).push (PySem.HandSPX.excO C hp.objs.size)).get? (hp.objs.size + 1) = some (PySem.HandSPX.excO C hp.objs.size) := by heap_get
  have I2 := I1.laid (t' := tk) (o := exo (hp.objs.size + 1) C none) kp lo (exo_ok at1)
  have r2 : Vals (V.ref (hp.objs.size + 1) :: vs) (Value.ref (hp.objs.size + 1) :: us) := .cons rfl rv
  have n2 : (Value.ref (hp.objs.size + 1) :: us).length = ps.length := r2.length.symm.trans (fn.len _ _ _ _ w)
  have few : us.length ≤ sizeLine := by
    have := rv.length
    rw [sizeLine_eq]
    omega
  have b2 := hb _ (Value.ref (hp.objs.size + 1) :: us) I2.kIn (by rw [List.append_nil]; exact n2)
  rw [List.append_nil] at b2
  show wpAny _ _ (call (.ref C) us) _ _ _
  refine wpAny_call (PySem.HandSPX.call_own F.excBase_ValueError (fun Y => PySem.HandSPX.refsVE_contains Y bm hbm) (I1.kIn _ _ hC) (PySem.W.looks_findIn I1.kIn h1) (fun self => PySem.W.bind_fn I1.kIn self h2) few ?_)
  refine codeAny_mono (fn.run _ X.stack _ _ _ _ _ _ (fun _ _ _ => False) (hr.make C us []) (I2.env0.make C us []) b2 r2 w) fun r s' z => ?_
  cases r with
  | error _ => exact z.elim
  | ok fl =>
    cases fl with
    | ret u =>
      obtain ⟨_, H2, o2, bare, un, hok, rn, rfl, d, fs, ea, ed, nd, q⟩ := z
      exact ⟨rn, made_ctx (raises_own cl.exC cl.tyC) I1 lo kp un hok o2 bare ea ed nd q⟩
    | _ => exact z.elim
theorem ds_raise1 (hc : X.calm = true) (tk : L2N.Takes X J.w) (C : OkE X.prog X.w X.K X.mg X.base T cl x [g]) (hr : Room 2 X.A) (hg : Gl X x) (ha : DQ X T H0 Γ (e :: es) fs .A) (hw : wkAll Γ J.x = true) (hn : ∀ ρ ds, fs ρ = some ds → ds.length = 1)
    (hdb : (x == ("__debug__" : Str)) = false := by decide) (he : starEach (e :: es) X.env = (false, eval e X.env) :: starEach es X.env := by rfl) (hpl : (backTo pos (starEach es X.env)).any (·.1) = false := by rfl) {pos2 : Pos} :
    DS X T H0 Γ (.Raise (some (.Call (.Name x po) (e :: es) [] pos)) none pos2) (sRaise cl fs) Γn J := by
  obtain ⟨hf, fI, fd, ps, h1, h2, h3, h4⟩ := C.ex
  refine PS.wk (L2N.ps_raise hc tk (pmk_ini C.cl h1 h2 h4 hr h3 hg C.mgx ha hdb he hpl)) fun E σ H ⟨F, O, ρ, out, R, hfr, hq⟩ => ?_
  unfold sRaise at hfr
  cases h5 : fs ρ with
  | none => rw [h5] at hfr; cases hfr
  | some ds =>
    rw [h5] at hfr
    cases hfr
    refine ⟨F, O, ρ, ds, R, h5, fun F1 H1 vs R1 s1 t1 r1 => ?_⟩
    have hl : ds.length = 1 := hn _ _ h5
    match ds, hl, r1 with
    | [d], _, .cons (v := v) rv .nil =>
      refine ⟨by simp, fun a ha => ?_⟩
      refine ⟨a, _, v, rfl, C.cl, hf, upd_same, fun dx h7 h8 => ⟨rfl, dx, [(g, v)], upd_same, by rw [upd_ne h8, upd_same], ?_, ?_⟩⟩
      · rw [upd_ne h8] at h7; exact h7
      · rw [upd_ne h8] at h7
        rw [del_up1 ha h8]
        obtain ⟨R2, s2, t2⟩ := R1.laid (o := .xd [(g, v)]) h7
        obtain ⟨F3, O3, s3, R3⟩ := wk_of hw _ O σ _ ρ R2
        refine hq F3 O3 σ _ _ _ (s1.trans (s2.trans s3)) R3 ⟨rfl, [(g, v)], .inr ⟨dx, rfl, s3 _ _ upd_same⟩, by rw [C.nm]; rfl, ?_⟩
        exact .cons ((s2.trans s3).rq rv) .nil
theorem ds_raise0 {m : Str} {j} {p2 pos2 : Pos} (hc : X.calm = true) (tk : L2N.Takes X J.w) (C : OkE0 X.K X.mg T cl x) (hg : Gl X x) (hw : wkAll Γ J.x = true) (hdb : (x == ("__debug__" : Str)) = false := by decide) :
    DS X T H0 Γ (.Raise (some (.Call (.Name x po) [.Constant (.str m) j p2] [] pos)) none pos2) (sRaise cl aNil) Γn J := by
  obtain ⟨bm, h1, B, i, h2⟩ := C.ex
  refine PS.wk (L2N.ps_raise hc tk (L2N.pmk_own h2 h1 C.mgx C.kp (raises_own C.sb C.ty) hg hdb)) fun E σ H ⟨F, O, ρ, out, R, hfr, hq⟩ => ?_
  cases hfr
  obtain ⟨F3, O3, s3, R3⟩ := wk_of hw _ O σ _ ρ R
  exact hq F3 O3 σ _ _ _ s3 R3 ⟨rfl, [], .inl ⟨rfl, rfl⟩, by rw [C.nm]; rfl, .nil⟩
end

inductive ResI where
  | ok (fds : List D) | ex (c : Nat) (es : List D)
def spIX (K : PySem.W.Frag) (T : Tb) (c n : Nat) (φ : List D → Option ResI) (q : Q3) : Sp := fun vs H Q E => ∃ x as, vs = .ref x :: as ∧ as.length = n ∧ ∃ dx ds r, H x = some (.ins (T c).1 dx []) ∧ LamX.Tabs T.t H ∧ RUs K T (cut (ntb H) (· = x)) as ds ∧ φ ds = some r ∧
  (∀ fds, r = .ok fds → ∀ F H' dx' fs, Same (cut (ntb H) (· = x)) F → F x = none → Same F H' → (NoT F ∧ LamX.Tabs T.t H') → H' x = some (.ins (T c).1 dx' fs) → fs.map (·.1) = (T c).2 → Rqs K T (cut (ntb H) (· = x)) q F (fs.map (·.2)) fds → Q .non H') ∧
  ∀ ce es, r = .ex ce es → ∀ F H' cls od, Same (cut (ntb H) (· = x)) F → Same F H' → (NoT F ∧ LamX.Tabs T.t H') → ExR K T F cls od ce es → E cls od H'
def initX (c : Nat) (pks : List PKn) (m : Nat) (body : SF) : List D → Option ResI := fun args =>
  if chks pks args = true then (body (.ins c [] :: (args ++ List.replicate m .non))).bind fun (o : Out) => match o with
    | Out.nx ρ => (match ρ[0]? with
      | some (D.ins _ ds) => some (.ok ds)
      | _ => none)
    | Out.ex c es _ => some (.ex c es)
    | _ => none
  else none
structure OkCX (P : Program) (w : World) (K : PySem.W.Frag) (mg : Str → Option Value) (base : Heap) (T : Tb) (k : Nat) (c : Nat) (x : Str) (n : Nat) (φ : List D → Option ResI) (q : Q3) : Prop where
  ex : ∃ fi fd ps, ps.length = n + 1 ∧ Mk K (T c).1 fi ∧ Binds K fd ps [] ∧ FnOk P w K mg base (L2N.CX P w) k fi fd ps (spIX K T c n φ q)
  mg : mg x = some (.ref (T c).1)
section
variable {P : Program} {w : World} {K : PySem.W.Frag} {mg : Str → Option Value} {base : Heap} {T : Tb}
end
section
variable {X : Cx} {T : Tb} {H0 : HZ} {Γ Γ1 Γn Γm : List Mode} {J : Jm} {e a b o tg iter : Expr} {es : List Expr} {pos po : Pos} {fs : List D → Option (List D)} {x g g1 g2 : Str} {cl : Nat} {W : WX} {p : Q3}
def xMake (c : Nat) (φ : List D → Option ResI) (fs : List D → Option (List D)) : XF := fun ρ => ((fs ρ).bind φ).map fun r => match r with
  | .ok fds => .rt (.ins c fds)
  | .ex ce es => .ex ce es
end
end DL

namespace DL
open PySem PySem.Spec PyProof.Rows L2

section
variable {X : Cx} {pins : List (Addr × Obj)} {σ : L2.St} {H : Hp} {s : Shared}
theorem exc_ok {P : Program} {w : World} {h : Heap} {a C : Addr} {od : Option Addr} {oe : Obj} {vs : Array Value} (ha : h.get? a = some oe) (hz : L2N.Zn (.ref C) od oe) (hd : oe.data = .fields vs) : ObjOk P w H h a (ExC a C od) :=
  ⟨⟨oe, vs, ha, hz.1, hz.2.1, hd, hz.2.2 vs hd⟩, ⟨oe, ha⟩, fun _ _ ⟨o, v, q, r⟩ k => ⟨o, v, k o q, r⟩⟩
theorem inv_track {a C : Addr} {od : Option Addr} {oe : Obj} {vs : Array Value} (I : Inv X pins σ H s) (ha : s.heap.get? a = some oe) (hz : L2N.Zn (.ref C) od oe) (hd : oe.data = .fields vs) (na : H a = none) (n0 : X.s_0.heap.get? a = none) (nL : a ≠ X.env.locals)
    (np : ∀ p ∈ X.pn ++ pins, p.1 ≠ a) : Inv X pins σ (upd H a (ExC a C od)) s := by
  have ne : ∀ {b : Addr} {o : HO}, H b = some o → b ≠ a := fun {b o} e => ne_of_none e na
  have nc : ∀ x c, X.env.cells.lookup x = some c → c ≠ a := fun x c e z => by
    obtain ⟨v, o, h1, h2⟩ := I.cell x c e
    rw [z, ha] at h1; cases h1
    rw [hd] at h2; cases h2
  refine ⟨I.ok, I.os, I.bare, ⟨I.base.keep, I.base.slot, fun b o e n hx => ?_, I.base.there, fun b xs e => ?_, fun b o u e => ?_, fun b ps e => ?_⟩, I.loc, I.cell, ?_, fun x c e => ?_, fun p hp => ?_, fun b u e => ?_, I.len⟩
  · rw [upd_ne (fun z => by rw [z, n0] at e; cases e)]; exact I.base.free b o e n hx
  · have q := I.base.tups b xs e
    rw [upd_ne (ne q)]; exact q
  · have q := I.base.frzs b o u e
    rw [upd_ne (ne q)]; exact q
  · obtain ⟨m, q⟩ := I.base.tbls b ps e
    exact ⟨m, by rw [upd_ne (ne q)]; exact q⟩
  · rw [upd_ne (Ne.symm nL)]; exact I.free
  · rw [upd_ne (nc x c e)]; exact I.freeC x c e
  · obtain ⟨h1, h2, h3⟩ := I.pin p hp
    exact ⟨h1, by rw [upd_ne (np p hp)]; exact h2, h3⟩
  · by_cases hb : b = a
    · subst hb
      rw [upd_same] at e
      cases e
      exact exc_ok ha hz hd
    · rw [upd_ne hb] at e
      exact (I.hok b u e).stay (fun c v hc q => q) (fun c q => by rw [upd_ne (ne q)]; exact q) fun c xs q => by rw [upd_ne (ne q)]; exact q
theorem inv_sut {a : Addr} (I : Inv X pins σ H s) : Inv (X.suite a (X.pn ++ pins)) [] σ H s :=
  ⟨I.ok.suite _ _, I.os, I.bare, I.base, I.loc, I.cell, I.free, I.freeC, fun p hp => I.pin p (by rw [List.append_nil] at hp; exact hp), I.hok, I.len⟩
theorem sut_inv {a : Addr} {q : List (Addr × Obj)} (I : Inv (X.suite a (X.pn ++ pins)) q σ H s) (ok : X.Ok) : Inv X pins σ H s :=
  ⟨ok, I.os, I.bare, I.base, I.loc, I.cell, I.free, I.freeC, fun p hp => I.pin p (List.mem_append_left _ hp), I.hok, I.len⟩
end
abbrev Clause := List Nat × List Nat × Nat × SF
def suiteOut (i : Nat) : Out → Option Out
  | .nx ρ => some (.nx (ρ.set i .non))
  | .rt d => some (.rt d)
  | _ => none
def tryGo : List Clause → Nat → List D → SF
  | [], _, _, _ => none
  | (yes, no, i, g) :: cs, c, es, ρ => if c ∈ yes then (g (ρ.set i (.exn c es))).bind (suiteOut i) else if c ∈ no then tryGo cs c es ρ else none
def sTry (f : SF) (cs : List Clause) : SF := fun ρ => (f ρ).bind fun o => match o with
  | .ex c es ρ' => tryGo cs c es ρ'
  | o => some o
section
variable {X : Cx} {T : Tb} {H0 : HZ} {Γ Γ1 Γn Γx : List Mode} {J : Jm} {e a b o tg iter : Expr} {es : List Expr} {pos po : Pos} {f g : SF} {fe fa fb : EF} {k ka kb : Knd} {q p : Q3}
def tHot (a : Addr) (i : Nat) (t : TS) : TS := fun E σ H => σ[i]? = some (some (.ref a)) ∧ (∃ C od, H a = some (ExC a C od)) ∧ t E σ H
inductive HOk (X : Cx) (T : Tb) (H0 : HZ) (Γx Γn : List Mode) (J : Jm) : List ExceptHandler → List Clause → Prop
  | nil : HOk X T H0 Γx Γn J [] []
  | consG {x n : Str} {cv : Value} {yes no : List Nat} {i : Nat} {g : SF} {Γg : List Mode} {b₀ : Stmt} {suite : List Stmt} {np pos' : Pos} {hs : List ExceptHandler} {cs : List Clause} :
    Names X x cv → (∀ c ∈ yes, PySem.W.exmOne X.K (.ref (T c).1) cv = some true) → (∀ c ∈ no, PySem.W.exmOne X.K (.ref (T c).1) cv = some false) →
    X.N[i]? = some n → X.env.kindOf n = some .local → i < Γx.length → (∀ a pn, PSs (X.suite a pn) (b₀ :: suite) (tHot a i (tDS X.K T H0 (Γx.set i (.fz .A)) g Γg ⟨[], [], J.r, [], fun _ _ _ _ => False⟩))) → wkAll (Γg.set i .no) Γn = true →
    HOk X T H0 Γx Γn J hs cs → HOk X T H0 Γx Γn J (.ExceptHandler (some (.Name x np)) (some n) (b₀ :: suite) pos' :: hs) ((yes, no, i, g) :: cs)
theorem HOk.cons {Γx Γn : List Mode} {J : Jm} {x n : Str} {cv : Value} {yes no : List Nat} {i : Nat} {g : SF} {Γg : List Mode} {b₀ : Stmt} {suite : List Stmt} {np pos' : Pos} {hs : List ExceptHandler} {cs : List Clause}
    (h1 : Names X x cv) (h2 : ∀ c ∈ yes, PySem.W.exmOne X.K (.ref (T c).1) cv = some true) (h3 : ∀ c ∈ no, PySem.W.exmOne X.K (.ref (T c).1) cv = some false)
    (h4 : X.N[i]? = some n) (h5 : X.env.kindOf n = some .local) (h6 : i < Γx.length) (h7 : ∀ a pn, DSs (X.suite a pn) T H0 (Γx.set i (.fz .A)) (b₀ :: suite) g Γg ⟨[], [], J.r, [], fun _ _ _ _ => False⟩) (h8 : wkAll (Γg.set i .no) Γn = true)
    (h9 : HOk X T H0 Γx Γn J hs cs) : HOk X T H0 Γx Γn J (.ExceptHandler (some (.Name x np)) (some n) (b₀ :: suite) pos' :: hs) ((yes, no, i, g) :: cs) :=
  .consG h1 h2 h3 h4 h5 h6 (fun a pn => PSs.wk (h7 a pn) fun _ _ _ z => z.2.2) h8 h9
theorem Rl.drop {K : PySem.W.Frag} {F H : Hp} {O : Own} {σ : L2.St} {ρ : List D} (R : Rl K T H0 Γ F O σ H ρ) (i : Nat) : Rl K T H0 (Γ.set i .no) F O (σ.set i none) H (ρ.set i .non) := by
  refine ⟨R.h0, R.fh, R.on, R.od, by simp [R.ls], by simp [R.lr], fun j mj hj => ?_, R.nF, R.tb⟩
  by_cases hji : j = i
  · subst hji
    by_cases hl : j < Γ.length
    · rw [List.getElem?_set_self hl] at hj
      cases hj
      trivial
    · rw [List.getElem?_eq_none (by simpa using hl)] at hj; cases hj
  · rw [List.getElem?_set_ne (Ne.symm hji)] at hj
    rw [List.getElem?_set_ne (Ne.symm hji), List.getElem?_set_ne (Ne.symm hji)]
    exact R.sl j mj hj
theorem handle_ok (hs : X.stack = X.env :: X.outer) (hf : X.env.frame = some X.env.locals) (hN : X.N.Nodup) {En : Ends} {pins : List (Addr × Obj)} {σ : L2.St} {H : Hp} {sI : Shared} {B : Heap} {a : Addr} {od : Option Addr} {c : Nat} {ds : List D} {F : Hp} {O : Own} {ρ : List D}
    (J0 : Inv X pins σ H sI) (nb : ∀ b o, sI.heap.get? b = some o → b ∉ frs X.stack → B.get? b = some o) (nB : B.get? a = none) (hex : X.ex = []) (na : H a = none) (R : Rl X.K T H0 Γx F O σ H ρ) (xr : ExR X.K T F (.ref (T c).1) od c ds) :
    ∀ {hl : List ExceptHandler} {cs : List Clause}, HOk X T H0 Γx Γn J hl cs → ∀ {s' : Shared} {out : Out}, sI.heap.UpToSlots s'.heap → HandSPX.FlyingZ B (X.env :: X.outer) a (L2N.Zn (.ref (T c).1) od) s'.heap → s'.os = sI.os → AllBare s'.gens →
      tryGo cs c ds ρ = some out → Fin X.K T H0 F Γn J En out → wpAny (model X.prog X.w) X.A (handleBy (.ref a) X.env hl) (SP X pins En) X.xe s' := by
  intro hl cs hk
  have ok := J0.ok
  have hfr : X.A.frames = some (X.env :: X.outer) := by rw [ok.frames, hs]
  induction hk with
  | nil => intro s' out _ _ _ _ hg _; cases hg
  | @consG x n cv yes no i g Γg b₀ suite np pos' hl cs hc hyes hno hi hln hil hsu hwk _ ih =>
    intro s' out up fl os ag hg hq
    have Jh : Inv X pins σ H s' := J0.landed nb fl.1 up os ag
    obtain ⟨oe, vs, he, hz, hd⟩ := fl.there
    have nfr : ∀ {h : Heap} {o : Obj} {vs : Array Value}, h.FunFrames B (X.env :: X.outer) → h.get? a = some o → o.data = .fields vs → a ∉ frs (X.env :: X.outer) := fun {h o vs} ff e dd hm => by
      obtain ⟨_, o', e', hnf⟩ := ff.mem hm
      rw [e] at e'; cases e'
      exact hnf _ dd
    have nf := nfr fl.2.2.1 he hd
    have nL : a ≠ X.env.locals := fun z => nf (List.mem_filterMap.mpr ⟨X.env, List.mem_cons_self, by rw [hf, z]⟩)
    have nF : a ∉ X.fs := fun hm => by
      obtain ⟨e, h1, h2⟩ := List.mem_filterMap.mp hm
      exact nf (List.mem_filterMap.mpr ⟨e, List.mem_cons_of_mem _ h1, h2⟩)
    have n0 : X.s_0.heap.get? a = none := by
      cases e : X.s_0.heap.get? a with
      | none => rfl
      | some o =>
        obtain ⟨o', e2⟩ := J0.base.there a o e (by rw [hex]; exact fun z => nomatch z)
        have e3 := nb a o' e2 (by rw [hs]; exact nf)
        rw [nB] at e3; cases e3
    have npn : ∀ p ∈ X.pn ++ pins, p.1 ≠ a := fun p hp z => by
      obtain ⟨h1, h2, h3, h4, _⟩ := J0.pin p hp
      rw [z] at h1
      have e3 := nb a _ h1 (by rw [hs]; exact nf)
      rw [nB] at e3; cases e3
    have S3 := Jh.suite he hd na nL nF
    refine wpAny_handleBy_cons (codeAny_handlers_test ?_) (by intro q; cases q)
    have LT : PySem.W.Looks (model X.prog X.w) s'.heap (typeOf (.ref a)) (.ref (T c).1) := fun A Q E s k q => wpAny_typeOf_ref (k _ _ he) (by rw [hz.1]; exact q)
    have test : ∀ {Q : Value → Shared → Prop} {E : Value → Shared → Prop}, Q cv s' → wpAny (model X.prog X.w) (X.A.mark (some (.ref a))) (eval (.Name x np) X.env) Q E s' := fun {Q E} q => by
      obtain ⟨hg, hdbg, hm | ⟨hm, hv, hnn⟩⟩ := hc
      · exact ld_glob (X := X.suite a ((a, oe) :: (X.pn ++ pins))) S3 hg hm q hdbg
      · exact ld_blt (X := X.suite a ((a, oe) :: (X.pn ++ pins))) S3 hg hm hv q hnn hdbg
    unfold tryGo at hg
    split at hg
    · rename_i hin
      refine test ((PySem.W.exm_one (M := model X.prog X.w) Jh.kIn LT (hyes c hin)).here ?_)
      refine codeAny_handlers_suite_as (HandSPX.lands_againZ fl fun h4 fl4 up4 => ?_)
      have J4 : Inv X pins σ H { s' with heap := h4 } := J0.landed nb fl4.1 (up.trans up4) os ag
      obtain ⟨oe4, vs4, he4, hz4, hd4⟩ := fl4.there
      have S4 := inv_sut (a := a) (inv_track J4 he4 hz4 hd4 na n0 nL npn)
      have hin2 : i < Γx.length := hil
      cases h5 : g (ρ.set i (.exn c ds)) with
      | none => rw [h5] at hg; cases hg
      | some o5 =>
        rw [h5] at hg
        simp only [Option.bind_some] at hg
        refine store_ok (X := X.suite a (X.pn ++ pins)) (v := .ref a) S4 hN hi (.inl hln) rfl (fun s5 S5 => ?_) (.inr hln)
        have fz : F a = none := R.fh.free na
        obtain ⟨R2, s2, t2⟩ := R.laid (o := ExC a (T c).1 od) na
        have rx : RepG X.K T (NK H0 .A) (upd F a (ExC a (T c).1 od)) (.ref a) (.exn c ds) := by
          obtain ⟨_, fs, x1, x2, x3⟩ := xr
          exact .exn upd_same (x1.monoS s2.sm) x2 (x3.mono s2 fun _ h => h)
        have R3 := R2.setq (q := .A) hin2 rx
        let En' : Ends := { nx := fun σ' H' => En.nx (σ'.set i none) H', rt := En.rt, bk := fun _ _ => False, ct := fun _ _ => False }
        have end_ : ∀ {σ6 : L2.St} {H6 : Hp} {s6 : Shared} {Q : Shared → Prop}, Inv (X.suite a (X.pn ++ pins)) [] σ6 H6 s6 → (∀ s7, Inv X pins (σ6.set i none) H6 s7 → Q s7) →
            wpAny (model X.prog X.w) X.A (do bindName X.env n .none; unbindBehindTheSuite X.env n pos') (fun _ s7 => Q s7) X.xe s6 := fun {σ6 H6 s6 Q} S6 hq => gone_ok (sut_inv S6 ok) hN hi hln hq
        refine wpAny_mono ((hsu a (X.pn ++ pins)).run [] s5 _ _ En' S5 ⟨List.getElem?_set_self (by rw [R.ls]; exact hin2), ⟨_, _, upd_same⟩, _, O, _, o5, R3, h5, ?_⟩) (fun fl s6 hsp => ?_) (fun _ _ z => False.elim z)
        · cases o5 with
          | nx ρ5 =>
            cases hg
            intro F6 O6 σ6 H6 s6 R6
            obtain ⟨F7, O7, s7, R7⟩ := wk_of hwk _ _ _ _ _ (R6.drop i)
            exact hq F7 O7 _ H6 ((s2.trans s6).trans s7) R7
          | rt d => cases hg; exact fun H' v r => hq H' v r
          | bk ρ5 => cases hg
          | ct ρ5 => cases hg
          | ex c5 e5 ρ5 => cases hg
        · cases fl with
          | next =>
            obtain ⟨σ6, H6, S6, q6⟩ := hsp
            exact end_ S6 fun s7 J7 => ⟨_, _, J7, q6⟩
          | brk =>
            obtain ⟨σ6, H6, S6, q6⟩ := hsp
            exact q6.elim
          | cont =>
            obtain ⟨σ6, H6, S6, q6⟩ := hsp
            exact q6.elim
          | ret u =>
            obtain ⟨v6, σ6, H6, S6, r6, q6⟩ := hsp
            exact end_ S6 fun s7 J7 => ⟨_, _, _, J7, r6, q6⟩
    · split at hg
      · rename_i hin
        refine test ((PySem.W.exm_one (M := model X.prog X.w) Jh.kIn LT (hno c hin)).here ?_)
        exact ih up fl os ag hg hq
      · cases hg
theorem ds_try {body : List Stmt} {hl : List ExceptHandler} {cs : List Clause} (hs : X.stack = X.env :: X.outer) (hf : X.env.frame = some X.env.locals) (hN : X.N.Nodup) (hex : X.ex = [])
    (hb : ∀ (W : WX) (pn : List (Addr × Obj)) (xe : Value → Shared → Prop), L2N.Takes (X.tr pn xe) W → PassesOwn (model X.prog X.w) X.A X.env xe → DSs (X.tr pn xe) T H0 Γ body f Γn ⟨J.b, J.c, J.r, Γx, W⟩)
    (hh : HOk X T H0 Γx Γn J hl cs) (hne : hl ≠ []) : DS X T H0 Γ (.Try body hl [] [] pos) (sTry f cs) Γn J := by
  refine ⟨fun pins s σ H D I ⟨F, O, ρ, out, R, hf2, hq⟩ => ?_⟩
  have ok := I.ok
  have hfr : X.A.frames = some (X.env :: X.outer) := by rw [ok.frames, hs]
  unfold sTry at hf2
  cases h1 : f ρ with
  | none => rw [h1] at hf2; cases hf2
  | some o1 =>
    rw [h1] at hf2
    simp only [Option.bind_some] at hf2
    obtain ⟨h0, hr, rfl⟩ : ∃ h0 hr, hl = h0 :: hr := by cases hl with
      | nil => exact absurd rfl hne
      | cons h0 hr => exact ⟨h0, hr, rfl⟩
    refine wpAny_Try_except ?_
    let W : WX := fun cls od σ H => ∃ F O ρ c ds out, Rl X.K T H0 Γx F O σ H ρ ∧ ExR X.K T F cls od c ds ∧ tryGo cs c ds ρ = some out ∧ Fin X.K T H0 F Γn J D out
    refine wpAny_mono ((hb W (X.pn ++ pins) (fun e s₁ => wpAny (model X.prog X.w) X.A (noteFrame e X.env) (fun _ s₂ => wpAny (model X.prog X.w) X.A (setFlight e none) (fun _ s₃ =>
      wpAny (model X.prog X.w) X.A (handleBy e X.env (h0 :: hr)) (SP X pins D) X.xe s₃) X.xe s₂) X.xe s₁) ?_ PassesOwn.looking).run [] s σ H D (I.toTry _) ⟨F, O, ρ, o1, R, h1, ?_⟩) (fun fl s1 hsp => ?_) (fun _ _ he => he)
    · rintro u s' ⟨a, B, sI, pins', σ', H', cls, od, rfl, J', nb, up, sky, na, os, ag, F5, O5, ρ5, c, ds, out5, R5, x5, g5, q5⟩
      have J0 : Inv X pins σ' H' sI := J'.ofTry ok
      have sky' : Sky B (X.env :: X.outer) a (L2N.Zn cls od) X.env.locals s'.heap := by rw [← hs]; exact sky
      have nB : B.get? a = none := by
        rcases sky' with h | h | h
        · exact h.2.1
        · exact h.2.1
        · exact h.2.1
      obtain rfl := x5.1
      show wpAny (model X.prog X.w) X.A (noteFrame (.ref a) X.env) _ _ _
      refine L2N.Sky.land L2N.Zn.steady hfr hf sky' fun h3 fl3 up3 => ?_
      exact handle_ok hs hf hN J0 nb nB hex na R5 x5 hh (up.trans up3) fl3 os ag g5 q5
    · cases o1 with
      | nx ρ' => cases hf2; exact hq
      | bk ρ' => cases hf2; exact hq
      | ct ρ' => cases hf2; exact hq
      | rt d => cases hf2; exact hq
      | ex c ds ρ' => exact fun F' O' σ' H' cls od s2 R2 x2 => ⟨F', O', ρ', c, ds, out, R2, x2, hf2, hq.from s2⟩
    · cases fl with
      | next =>
        obtain ⟨σ', H', J', q⟩ := hsp
        exact wpAny_execs_nil ⟨σ', H', J'.ofTry ok, q⟩
      | brk =>
        obtain ⟨σ', H', J', q⟩ := hsp
        exact ⟨σ', H', J'.ofTry ok, q⟩
      | cont =>
        obtain ⟨σ', H', J', q⟩ := hsp
        exact ⟨σ', H', J'.ofTry ok, q⟩
      | ret u =>
        obtain ⟨v, σ', H', J', r, q⟩ := hsp
        exact ⟨v, σ', H', J'.ofTry ok, r, q⟩

structure IsiE (K : PySem.W.Frag) (C : Addr) : Prop where
  e : L2.ExcC K C
structure IsiI (K : PySem.W.Frag) (C : Addr) : Prop where
  cl : Cls K C
  ha : PySem.W.findIn K (.ref C) "__class__" = some (some (.builtin "object.__class__"))
  hn : PySem.W.specialIn K (.builtin "object.__class__") "__get__" = some (some (.builtin "getset_descriptor.__get__"))
  htk : PySem.W.takesIn K (.builtin "object.__class__") = some true
  hm : PySem.W.mroIn K C (.type "object") = some true
theorem exc_inst {X : Cx} {pins : List (Addr × Obj)} {σ : L2.St} {H : Hp} {s : Shared} {a C : Addr} {od : Option Addr} {fs : List (Str × V)} (I : Inv X pins σ H s) (h : H a = some (ExC a C od)) (x : XdAt H od fs) :
    ∃ oe ob, PySem.W.InstAt s.heap a oe C ob ∧ (∀ f v, fs.lookup f = some v → ∃ o u, ob = some o ∧ PySem.W.lookIn f o = some (some u) ∧ RelV v u) := by
  obtain ⟨⟨oe, vs, h1, h2, h3, h4, _⟩, _, _⟩ := I.hok a _ h
  have hn : PySem.W.notCls oe = true := by unfold PySem.W.notCls; rw [h4]
  rcases x with ⟨rfl, rfl⟩ | ⟨dx, rfl, hx⟩
  · exact ⟨oe, none, ⟨h1, h2, hn, by rw [h3]; trivial⟩, fun f v e => by cases e⟩
  · have hx : ObjOk X.prog X.w H s.heap dx (.xd fs) := I.hok dx _ hx
    obtain ⟨mA, hns, hr⟩ := hx
    obtain ⟨od, ho, hl⟩ := lookIn_ns hns
    refine ⟨oe, some od, ⟨h1, h2, hn, by rw [h3]; exact ho⟩, fun f v e => ?_⟩
    obtain ⟨u, hu, ru⟩ := RelO.some_of (v := v) (o := mA f) (by rw [← e]; exact hr f)
    exact ⟨od, u, rfl, by rw [hl, hu], ru⟩
def rIsX (K : PySem.W.Frag) : List V → Hp → VK → Prop := fun xs H Q => ∃ (a C : Addr) (od : Option Addr) (fs : List (Str × V)) (c : V) (cv : Value) (b : Bool), xs = [.ref a, c] ∧ H a = some (ExC a C od) ∧ XdAt H od fs ∧ L2.ExcC K C ∧ ClsV c cv ∧ PySem.W.kitOne K (.ref C) cv = some b ∧ Q (.bl b) H
theorem call_isX {X : Cx} : CallR X (.builtin "isinstance") (rIsX X.K) := by
  intro pins s σ H xs us Q I r h
  obtain ⟨a, C, od, fs, c, cv, b, rfl, ha, hx, T, hcv, e, q⟩ := h
  obtain ⟨u1, u2, rfl, r1, r2⟩ := vals2 r
  have e2 := hcv.eq r2
  subst e2
  cases (show u1 = Value.ref a from r1)
  obtain ⟨oe, ob, J, _⟩ := exc_inst I ha hx
  obtain ⟨cd, hcd, _⟩ := PySem.W.any_some T.hd
  exact PySem.W.kia_one (PySem.W.kitx_exc (gt := none) (by rw [hcd]; rfl) T.hg T.hk T.hs T.ha T.hn T.ht T.hm) I.kIn J e (fun z => nomatch z) fun tk => ⟨.bl b, H, I.tok tk, rfl, q⟩
def rIsA (K : PySem.W.Frag) : List V → Hp → VK → Prop := fun xs H Q => rIsi K xs H Q ∨ rIsX K xs H Q
theorem call_isA {X : Cx} : CallR X (.builtin "isinstance") (rIsA X.K) := by
  intro pins s σ H xs us Q I r h
  rcases h with h | h
  · exact call_isi pins s σ H xs us Q I r h
  · exact call_isX pins s σ H xs us Q I r h
def gIsC (ti te : List (Nat × Bool)) (nn : Option Bool) : D → Option D
  | .ins c _ => (ti.lookup c).map .bl
  | .exn c _ => (te.lookup c).map .bl
  | .non => nn.map .bl
  | _ => none
theorem lookup_mem : ∀ {l : List (Nat × Bool)} {c : Nat} {b : Bool}, l.lookup c = some b → (c, b) ∈ l
  | (c', b') :: l, c, b, h => by
    rw [List.lookup] at h
    split at h
    · rename_i e
      have e : c = c' := by simpa using e
      cases h; subst e; exact .head _
    · exact .tail _ (lookup_mem h)
theorem de_isC {cc : V} {cv : Value} {ti te : List (Nat × Bool)} {nn : Option Bool} (hg : Gl X "isinstance") (hm : X.mg "isinstance" = none) (hcv : ClsV cc cv) (hti : ∀ p ∈ ti, IsiI X.K (T p.1).1 ∧ PySem.W.kitOne X.K (.ref (T p.1).1) cv = some p.2) (hte : ∀ p ∈ te, L2.ExcC X.K (T p.1).1 ∧ PySem.W.kitOne X.K (.ref (T p.1).1) cv = some p.2)
    (hnn : ∀ b, nn = some b → PySem.W.kitOne X.K (.type "NoneType") cv = some b) (ha : DE X T H0 Γ a fa ka) (hb : PE X b (tC cc))
    (hs : starEach [a, b] X.env = (false, eval a X.env) :: starEach [b] X.env := by rfl) (hs2 : starEach [b] X.env = (false, eval b X.env) :: starEach [] X.env := by rfl) (hpl : (backTo pos (starEach [b] X.env)).any (·.1) = false := by rfl) : DE X T H0 Γ (.Call (.Name "isinstance" po) [a, b] [] pos) (e1 (gIsC ti te nn) fa) (.q q) :=
  PE.wk (pe_callB call_isA hg hm (by decide +kernel) (pa_cons ha (pa_cons hb pa_nil hs2) hs) (he := hs) (hpl := hpl)) (by
    rintro σ H Q ⟨F, O, ρ, d, R, hf, hq⟩
    unfold e1 at hf
    cases h1 : fa ρ with
    | none => rw [h1] at hf; cases hf
    | some x =>
      rw [h1] at hf
      simp only [Option.bind_some] at hf
      refine ⟨F, O, ρ, x, R, h1, fun F1 H1 v R1 s1 t1 r1 => ?_⟩
      have rv := R1.toB r1
      have hq1 : ∀ w, Rp X.K T H0 F1 H1 O (.q q) w d → Q w H1 := fun w hw => hq F1 H1 w R1 s1 t1 hw
      cases rv with
      | non =>
        cases hb : nn with
        | none => rw [hb] at hf; cases hf
        | some b => rw [hb] at hf; cases hf; exact .inl ⟨_, _, _, _, b, rfl, hcv, .base .non, hnn b hb, hq1 _ (RepG.bl b)⟩
      | @ins a dx c fs ds h2 h3 h4 h5 =>
        have hf : (ti.lookup c).map D.bl = some d := hf
        cases hb : ti.lookup c with
        | none => rw [hb] at hf; cases hf
        | some b =>
          rw [hb] at hf; cases hf
          obtain ⟨Z, z⟩ := hti _ (lookup_mem hb)
          exact .inl ⟨_, _, _, _, b, rfl, hcv, .base (.ins h2 Z.cl Z.ha Z.hn Z.htk Z.hm), z, hq1 _ (RepG.bl b)⟩
      | @exn a c od fs ds h2 h3 h4 h5 =>
        have hf : (te.lookup c).map D.bl = some d := hf
        cases hb : te.lookup c with
        | none => rw [hb] at hf; cases hf
        | some b =>
          rw [hb] at hf; cases hf
          obtain ⟨Z, z⟩ := hte _ (lookup_mem hb)
          exact .inr ⟨_, _, _, _, _, _, b, rfl, h2, h3, Z, hcv, z, hq1 _ (RepG.bl b)⟩
      | bl _ => cases hf
      | int _ => cases hf
      | str _ => cases hf
      | tup _ _ => cases hf
      | lst _ _ _ => cases hf
      | scr _ _ => cases hf
      | dic _ _ _ => cases hf
      | dit _ _ _ => cases hf)
def eFldE (c j : Nat) (fo : EF) : EF := fun ρ => (fo ρ).bind fun d => match d with
  | .exn c' ds => if c' = c then ds[j]? else none
  | _ => none
def tXfE (K : PySem.W.Frag) (C : Addr) (f : Str) (te : TE) : TE := fun σ H Q => te σ H fun x H1 => ∃ a od fs v, x = .ref a ∧ H1 a = some (ExC a C od) ∧ XdAt H1 od fs ∧ fs.lookup f = some v ∧ Q v H1
theorem pe_xfE {C : Addr} {e : Expr} {te : TE} {n : Str} (Z : XfC X.K C) (hno : PySem.W.findIn X.K (.ref C) n = some none) (he : PE X e te) (hb : attributeBase e n X.env (eval e X.env) = eval e X.env := by rfl) : PE X (.Attribute e n pos) (tXfE X.K C n te) := by
  constructor
  intro pins s σ H Q I h
  refine attr_of hb (thn (he.run pins s σ H _ I h) ?_)
  rintro u s1 ⟨x, H1, I1, rx, a, od, fs, v, rfl, ha, hx, l, q⟩
  obtain rfl : u = Value.ref a := rx
  obtain ⟨oe, ob, J, hv⟩ := exc_inst I1 ha hx
  obtain ⟨o, u, rfl, lk, ru⟩ := hv _ _ l
  exact HandSPX.exc_get I1.kIn J Z.ga Z.gg Z.exC (PySem.W.findObj_own Z.hdC hno rfl lk) (handed_of ru) ⟨v, H1, I1.tok _, ru, q⟩
theorem de_fldE {cl j : Nat} {x : Str} (Z : XfC X.K (T cl).1) (hno : PySem.W.findIn X.K (.ref (T cl).1) x = some none) (hnm : (T cl).2[j]? = some x) (hnd : (T cl).2.Nodup) (ha : DE X T H0 Γ a fa (.q q)) (hb : attributeBase a x X.env (eval a X.env) = eval a X.env := by rfl) : DE X T H0 Γ (.Attribute a x pos) (eFldE cl j fa) (.q q) :=
  PE.wk (pe_xfE Z hno ha hb) fun σ H Q ⟨F, O, ρ, d, R, hf, hq⟩ => by
    unfold eFldE at hf
    cases h1 : fa ρ with
    | none => rw [h1] at hf; cases hf
    | some y =>
      rw [h1] at hf
      simp only [Option.bind_some] at hf
      split at hf
      · split at hf
        · rename_i hc
          subst hc
          refine ⟨F, O, ρ, _, R, h1, fun F1 H1 v R1 s1 t1 r1 => ?_⟩
          cases r1 with
          | @exn a c od fs ds h2 h3 h4 h5 =>
            obtain ⟨w, h6, h7⟩ := h5.get hf
            exact ⟨a, od, fs, w, rfl, R1.fh _ _ h2, h3.monoS R1.fh.sm, by rw [lookup_names h4 hnd hnm]; exact h6, hq F1 H1 w R1 s1 t1 h7⟩
        · cases hf
      · cases hf
def isN : D → Bool
  | .non => true
  | _ => false
def gIs0 (x y : D) : Option D := match y with
  | .non => some (.bl (isN x))
  | _ => none
def gNot0 (x y : D) : Option D := match y with
  | .non => some (.bl (!isN x))
  | _ => none
end
end DL

namespace DL
open PySem PySem.Spec PyProof.Rows L2
section
variable {X : Cx} {T : Tb} {H0 : HZ} {Γ : List Mode} {e : Expr} {f : XF} {q p : Q3} {W : WX} {k : Knd}
end
theorem alln {α : Type} {P : α → Prop} : ∀ x ∈ ([] : List α), P x := fun _ h => nomatch h
theorem allc {α : Type} {P : α → Prop} {a : α} {l : List α} (h : P a) (t : ∀ x ∈ l, P x) : ∀ x ∈ a :: l, P x := fun x hx => by
  cases hx with
  | head => exact h
  | tail _ hx => exact t x hx
end DL

namespace DL
open PySem PySem.Spec PyProof.Rows L2
section
variable {X : Cx} {T : Tb} {H0 : HZ} {Γ : List Mode} {a b c2 d2 : Expr} {fa fb fc fd : EF} {ka kb kc kd : Knd} {pos : Pos} {q : Q3} {ta tb tc td : TE}
def t4 (g : D → D → D → D → Option Bool) (a b c d : EF) : List D → Option Bool := fun ρ => (a ρ).bind fun x => (b ρ).bind fun y => (c ρ).bind fun z => (d ρ).bind fun w => g x y z w
end
end DL

namespace DL
open PySem PySem.Spec PyProof.Rows L2
section
variable {P : Program} {w : World} {K : PySem.W.Frag} {mg : Str → Option Value} {base : Heap} {T : Tb}
structure FtID (K : PySem.W.Frag) (mg : Str → Option Value) (T : Tb) (c : Nat) (x qual : Str) (st : Stmt) (ps : List Str) (v : V) : Prop where
  ex : ∃ f fd, FunD K "__init__" qual (defArgs st) (defBody st) (defScope st) [v] [] f fd ∧ Binds K fd ps [] ∧ (∃ ds, Vals [v] ds ∧ Binds K fd ps ds) ∧ Mk K (T c).1 f
  mg : mg x = some (.ref (T c).1)
structure OkC1 (P : Program) (w : World) (K : PySem.W.Frag) (mg : Str → Option Value) (base : Heap) (T : Tb) (k : Nat) (c : Nat) (x : Str) (n : Nat) (φ : List D → Option (List D)) (q : Q3) (v : V) : Prop where
  ex : ∃ fi fd ps ds, ps.length = n + 1 ∧ Mk K (T c).1 fi ∧ Vals [v] ds ∧ Binds K fd ps ds ∧ FnOk P w K mg base CX0 k fi fd ps (spI K T c n φ q)
  mg : mg x = some (.ref (T c).1)
end
section
variable {X : Cx} {T : Tb} {H0 : HZ} {Γ : List Mode} {e : Expr} {es : List Expr} {pos po : Pos} {fs : List D → Option (List D)} {x : Str} {cl : Nat} {p : Q3}
end
end DL
namespace DL
open PySem PySem.Spec PyProof.Rows L2
end DL

namespace DL
open PySem PySem.Spec PyProof.Rows L2
section
variable {prog : Program} {w : World} {A : Around} {E : Value → Shared → Prop} {s : Shared}
end
section
variable {X : Cx} {T : Tb} {H0 : HZ} {Γ : List Mode} {a : Expr} {fa : EF} {ka : Knd} {pos po p2 pos2 : Pos} {q : Q3}
def gTupRT : D → Option D
  | .tup ds => some (.tup ds.reverse)
  | _ => none
end
end DL

namespace DL
open PySem PySem.Spec PyProof.Rows L2
section
variable {X : Cx} {T : Tb} {H0 : HZ} {Γ : List Mode} {a b : Expr} {fa fb : EF} {ka kb : Knd} {pos po : Pos} {q : Q3}
def gStr : D → Option D
  | .int i => if i.natAbs.log2 < 1920 then some (.str (Str.ofString (toString i))) else none
  | _ => none
def gAddS : D → D → Option D
  | .str i, .str j => if i.length + j.length ≤ 1000000 then some (.str (i ++ j)) else none
  | _, _ => none
end
end DL

namespace DL
open PySem PySem.Spec PyProof.Rows L2
def stepG {α : Type} (xs : List α) (lo st : Option Int) : List α := (sliceRange (sliceBounds lo none st xs.length).1 (sliceBounds lo none st xs.length).2.1 (sliceBounds lo none st xs.length).2.2).filterMap (xs[·]?)
theorem Vals.pick {xs : List V} {its : List Value} (r : Vals xs its) : ∀ ks : List Nat, Vals (ks.filterMap (xs[·]?)) (ks.filterMap (its[·]?))
  | [] => .nil
  | k :: ks => by
    have ih := Vals.pick r ks
    by_cases h : k < xs.length
    · have h2 : k < its.length := by rw [← r.length]; exact h
      obtain ⟨u, hu, ru⟩ := r.get (List.getElem?_eq_getElem h)
      rw [List.filterMap_cons, List.filterMap_cons, List.getElem?_eq_getElem h, hu]
      exact .cons ru ih
    · have h2 : its.length ≤ k := by rw [← r.length]; omega
      rw [List.filterMap_cons, List.filterMap_cons, List.getElem?_eq_none (by omega), List.getElem?_eq_none h2]
      exact ih
section
variable {X : Cx} {T : Tb} {H0 : HZ} {Γ : List Mode} {a e : Expr} {lo : Option Expr} {st : Expr} {fa : EF} {fl fh : List D → Option (Option Int)} {ka : Knd} {pos p2 : Pos} {q : Q3} {te : TE} {tl ts : TO}
def gSlSt (x : D) (l s : Option Int) : Option D := match x with
  | .lst ds => if s ≠ some 0 ∧ (stepG ds l s).length ≤ 1000000 then some (.lst (stepG ds l s)) else none
  | _ => none
theorem RepsG.pick {K : PySem.W.Frag} {N : Addr → Prop} {F : Hp} {vs : List V} {ds : List D} (r : RepsG K T N F vs ds) : ∀ ks : List Nat, RepsG K T N F (ks.filterMap (vs[·]?)) (ks.filterMap (ds[·]?))
  | [] => .nil
  | k :: ks => by
    have ih := RepsG.pick r ks
    by_cases h : k < ds.length
    · have hd : ds[k]? = some ds[k] := List.getElem?_eq_getElem h
      obtain ⟨u, hu, ru⟩ := r.get hd
      rw [List.filterMap_cons, List.filterMap_cons, hd, hu]
      exact .cons ru ih
    · have h2 : vs.length ≤ k := by rw [r.length]; omega
      rw [List.filterMap_cons, List.filterMap_cons, List.getElem?_eq_none h2, List.getElem?_eq_none (show ds.length ≤ k by omega)]
      exact ih
theorem RepsG.step {K : PySem.W.Frag} {N : Addr → Prop} {F : Hp} {vs : List V} {ds : List D} (r : RepsG K T N F vs ds) (l h : Option Int) : RepsG K T N F (stepG vs l h) (stepG ds l h) := by
  unfold stepG
  rw [r.length]
  exact RepsG.pick r _
end
end DL

namespace DL
open PySem PySem.Spec PyProof.Rows L2
section
variable {K : PySem.W.Frag} {T : Tb} {N N' : Addr → Prop} {F F' : Hp}
mutual
theorem RepG.monoN (e : Same F F') (hn : ∀ a o, F a = some o → N a → N' a) : ∀ {v : V} {d : D}, RepG K T N F v d → RepG K T N' F' v d
  | _, _, .non => .non
  | _, _, .bl b => .bl b
  | _, _, .int b => .int b
  | _, _, .str b => .str b
  | _, _, .tup h r => .tup (h.sm e.sm) (RepsG.monoN e hn r)
  | _, _, .lst h n r => .lst (e _ _ h) (hn _ _ h n) (RepsG.monoN e hn r)
  | _, _, .scr h r => .scr (same_sqS e h) (RepsG.monoN e hn r)
  | _, _, .ins h n q r => .ins (e _ _ h) (hn _ _ h n) q (RepsG.monoN e hn r)
  | _, _, .dic h n r => .dic (e _ _ h) (hn _ _ h n) (RepsG.monoN e hn r)
  | _, _, .dit h n r => .dit (e _ _ h) (hn _ _ h n) (RepsG.monoN e hn r)
  | _, _, .exn h x q r => .exn (e _ _ h) (x.monoS e.sm) q (RepsG.monoN e hn r)
theorem RepsG.monoN (e : Same F F') (hn : ∀ a o, F a = some o → N a → N' a) : ∀ {vs : List V} {ds : List D}, RepsG K T N F vs ds → RepsG K T N' F' vs ds
  | _, _, .nil => .nil
  | _, _, .cons h r => .cons (RepG.monoN e hn h) (RepsG.monoN e hn r)
end
structure Thaw (F F' : Hp) (d : Addr) : Prop where
  at_ : ∃ od u, F d = some (.frz od u) ∧ (∀ xs, u ≠ .lst xs) ∧ ∀ xs, u ≠ .tup xs
  to : ∀ b, b ≠ d → F' b = F b
theorem Thaw.get {d : Addr} (w : Thaw F F' d) {b : Addr} {o : HO} (h : F b = some o) (hn : ∀ od u, o = .frz od u → (∃ xs, u = .lst xs) ∨ ∃ xs, u = .tup xs) : F' b = some o := by
  rw [w.to b, h]
  rintro rfl
  obtain ⟨od, u, h2, h3, h4⟩ := w.at_
  rw [h] at h2; cases h2
  rcases hn _ _ rfl with ⟨xs, e⟩ | ⟨xs, e⟩
  · exact h3 xs e
  · exact h4 xs e
theorem Thaw.sqS {d : Addr} (w : Thaw F F' d) {a : Addr} {xs : List V} (h : SqS K F a xs) : SqS K F' a xs := by
  rcases h with ⟨o, h⟩ | h
  · exact .inl ⟨o, w.get h fun od u e => by cases e; exact .inl ⟨_, rfl⟩⟩
  · exact .inr h
theorem Thaw.xd {d : Addr} (w : Thaw F F' d) {od : Option Addr} {fs : List (Str × V)} (h : XdAt F od fs) : XdAt F' od fs := by
  rcases h with h | ⟨dx, h1, h2⟩
  · exact .inl h
  · exact .inr ⟨dx, h1, w.get h2 fun od u e => nomatch e⟩
theorem Thaw.tup {d : Addr} (w : Thaw F F' d) {a : Addr} {vs : List V} (h : TupAt T F a vs) : TupAt T F' a vs := by
  rcases h with h | ⟨z, o, h⟩
  · exact .inl (w.get h fun od u e => nomatch e)
  · exact .inr ⟨z, o, w.get h fun od u e => by cases e; exact .inr ⟨_, rfl⟩⟩
mutual
theorem RepG.thaw {d0 : Addr} (w : Thaw F F' d0) (hn : ∀ a, a ≠ d0 → N a → N' a) : ∀ {v : V} {d : D}, RepG K T N F v d → RepG K T N' F' v d
  | _, _, .non => .non
  | _, _, .bl b => .bl b
  | _, _, .int b => .int b
  | _, _, .str b => .str b
  | _, _, .tup h r => .tup (w.tup h) (RepsG.thaw w hn r)
  | _, _, .lst h n r => .lst (w.get h fun od u e => nomatch e) (hn _ (by rintro rfl; obtain ⟨od, u, h2, _⟩ := w.at_; rw [h] at h2; cases h2) n) (RepsG.thaw w hn r)
  | _, _, .scr h r => .scr (w.sqS h) (RepsG.thaw w hn r)
  | _, _, .ins h n q r => .ins (w.get h fun od u e => nomatch e) (hn _ (by rintro rfl; obtain ⟨od, u, h2, _⟩ := w.at_; rw [h] at h2; cases h2) n) q (RepsG.thaw w hn r)
  | _, _, .dic h n r => .dic (w.get h fun od u e => nomatch e) (hn _ (by rintro rfl; obtain ⟨od, u, h2, _⟩ := w.at_; rw [h] at h2; cases h2) n) (RepsG.thaw w hn r)
  | _, _, .dit h n r => .dit (w.get h fun od u e => nomatch e) (hn _ (by rintro rfl; obtain ⟨od, u, h2, _⟩ := w.at_; rw [h] at h2; cases h2) n) (RepsG.thaw w hn r)
  | _, _, .exn h x q r => .exn (w.get h fun od u e => nomatch e) (w.xd x) q (RepsG.thaw w hn r)
theorem RepsG.thaw {d0 : Addr} (w : Thaw F F' d0) (hn : ∀ a, a ≠ d0 → N a → N' a) : ∀ {vs : List V} {ds : List D}, RepsG K T N F vs ds → RepsG K T N' F' vs ds
  | _, _, .nil => .nil
  | _, _, .cons h r => .cons (RepG.thaw w hn h) (RepsG.thaw w hn r)
end
end
def okM : Mode → Bool
  | .os (.ins _ _) => false
  | .os (.ldk _) => false
  | .os (.ldt _) => false
  | .os (.lkl _) => false
  | .os (.prm _) => false
  | .os (.clo _) => false
  | .os (.ldn _) => false
  | .os (.cus _ _) => false
  | _ => true
section
variable {K : PySem.W.Frag} {T : Tb} {H0 H0' : HZ} {F F' H H' : Hp} {o o' : Addr → Prop}
theorem RowsR.conv (hr : ∀ {q vs ds}, Rqs K T H0 q F vs ds → Rqs K T H0' q F' vs ds) (hH : ∀ b, o b → H' b = H b) (ho : ∀ b, o b → o' b) {q : Q3} : ∀ {rows : List Addr} {rds : List (List D)}, RowsR K T H0 q F H o rows rds → RowsR K T H0' q F' H' o' rows rds
  | _, _, .nil => .nil
  | _, _, .cons ⟨h1, vs, h2, h3⟩ r => .cons ⟨ho _ h1, vs, by rw [hH _ h1]; exact h2, hr h3⟩ (RowsR.conv hr hH ho r)
theorem SlotR.conv {m : Mode} {sv : Option (Option V)} {dv : Option D} (hm : okM m = true) (hr1 : ∀ {q v d}, Rq K T H0 q F v d → Rq K T H0' q F' v d) (hr : ∀ {q vs ds}, Rqs K T H0 q F vs ds → Rqs K T H0' q F' vs ds)
    (hF : ∀ b vs, F b = some (.lst vs) → F' b = some (.lst vs)) (hH : ∀ b, o b → H' b = H b) (ho : ∀ b, o b → o' b) (h : SlotR K T H0 F H o sv dv m) : SlotR K T H0' F' H' o' sv dv m := by
  cases m with
  | no => trivial
  | fz k => obtain ⟨v, d, h1, h2, h3⟩ := h; exact ⟨v, d, h1, h2, hr1 h3⟩
  | fl k => obtain ⟨a, vs, ds, h1, h2, h3, h4⟩ := h; exact ⟨a, vs, ds, h1, h2, hF _ _ h3, hr h4⟩
  | ow k => obtain ⟨a, vs, ds, h1, h2, h3, h4, h5⟩ := h; exact ⟨a, vs, ds, h1, h2, by rw [hH _ h4]; exact h3, ho _ h4, hr h5⟩
  | os S =>
    obtain ⟨v, d, g1, g2, h⟩ := h
    refine ⟨v, d, g1, g2, ?_⟩
    cases S with
    | tbl q =>
      obtain ⟨a, rows, rds, h1, h2, h3, h4, h5, h6, h7⟩ := h
      exact ⟨a, rows, rds, h1, h2, by rw [hH _ h4]; exact h3, ho _ h4, h5, h6, RowsR.conv hr hH ho h7⟩
    | ins _ _ => cases hm
    | ldk _ => cases hm
    | ldt _ => cases hm
    | lkl _ => cases hm
    | prm _ => cases hm
    | clo _ => cases hm
    | ldn _ => cases hm
    | cus _ _ => cases hm
    | din q =>
      obtain ⟨a, kas, ps, h1, h2, h3, h4, h5⟩ := h
      exact ⟨a, kas, ps, h1, h2, by rw [hH _ h4]; exact h3, ho _ h4, L2.Paired.mapP h5 fun x d ⟨kd, vd, g1, g2, g3, g4⟩ => ⟨kd, vd, g1, g2, hr1 g3, hr1 g4⟩⟩
    | odn q =>
      rcases h with h | ⟨a, kvs, ds, h1, h2, h3, h4, h5⟩
      · exact .inl h
      · exact .inr ⟨a, kvs, ds, h1, h2, by rw [hH _ h4]; exact h3, ho _ h4, hr h5⟩
    | dic q =>
      obtain ⟨a, kvs, ds, h1, h2, h3, h4, h5⟩ := h
      exact ⟨a, kvs, ds, h1, h2, by rw [hH _ h4]; exact h3, ho _ h4, hr h5⟩
    | dit q =>
      obtain ⟨a, kvs, ds, h1, h2, h3, h4, h5⟩ := h
      exact ⟨a, kvs, ds, h1, h2, by rw [hH _ h4]; exact h3, ho _ h4, hr h5⟩
end
section
variable {X : Cx} {T : Tb} {H0 : HZ} {Γ Γn : List Mode} {J : Jm} {st : Stmt} {f : SF} {q : Q3}
def kD : Key → D
  | .inl i => .int i
  | .inr s => .str s
def iKeysD (f : EF) : List D → Option (List D) := fun ρ => (f ρ).bind fun d => match d with
  | .dic ks _ => some (ks.map kD)
  | _ => none
def iItemsD (f : EF) : List D → Option (List D) := fun ρ => (f ρ).bind fun d => match d with
  | .dic ks ds => some ((ks.zip ds).map fun p => .tup [kD p.1, p.2])
  | _ => none
end
end DL

namespace DL
open PySem PySem.Spec PyProof.Rows L2
section
variable {X : Cx} {T : Tb} {H0 : HZ} {Γ Γn : List Mode} {J : Jm} {e : Expr} {pos : Pos} {q : Q3}
def sClrD (i : Nat) : SF := fun ρ => match ρ[i]? with
  | some (.dic _ _) => some (.nx (ρ.set i (.dic [] [])))
  | _ => none
end
end DL

namespace DL
open PySem PySem.Spec PyProof.Rows L2
inductive ResA where
  | ok (ds : List D) | ex (c : Nat) (es : List D)
section
variable {X : Cx} {T : Tb} {H0 : HZ} {Γ : List Mode} {e : Expr} {es : List Expr} {f : XF} {k : Knd} {pos po : Pos} {fs : List D → Option (List D)} {fa : List D → Option ResA} {W : WX}
def xaCons (f : XF) (fs : List D → Option (List D)) : List D → Option ResA := fun ρ => (f ρ).bind fun r => match r with
  | .rt d => (fs ρ).map fun ds => .ok (d :: ds)
  | .ex c es => some (.ex c es)
def xCallP (φ : List D → Option D) (fa : List D → Option ResA) : XF := fun ρ => (fa ρ).bind fun r => match r with
  | .ok ds => (φ ds).map .rt
  | .ex c es => some (.ex c es)
def xCallQ (φ : List D → Option Res) (fa : List D → Option ResA) : XF := fun ρ => (fa ρ).bind fun r => match r with
  | .ok ds => φ ds
  | .ex c es => some (.ex c es)
end
end DL

namespace DL
open PySem PySem.Spec PyProof.Rows L2
section
variable {X : Cx} {T : Tb} {H0 : HZ} {Γ Γ1 Γn : List Mode} {J : Jm} {st : Stmt} {f : SF} {q p : Q3} {tg iter : Expr} {pos : Pos} {fi : List D → Option (List D)}
end
end DL

namespace DL
open PySem PySem.Spec PyProof.Rows L2
section
variable {X : Cx} {T : Tb} {H0 : HZ} {Γ : List Mode} {a : Expr} {fa : EF} {ka : Knd} {pos po p2 q2 : Pos} {q : Q3}
def gTrg1 (x : D) : Option D := i1 (fun j => if small 62 j ∧ j ≤ 1000000 then some (.tup (rangeD 0 j)) else none) x
end
end DL

namespace DL
open PySem PySem.Spec PyProof.Rows L2
section
variable {prog : Program} {w : World} {A : Around} {E : Value → Shared → Prop} {s : Shared}
end
section
variable {X : Cx}
end
section
variable {X : Cx} {T : Tb} {H0 : HZ} {Γ : List Mode} {a : Expr} {fa : EF} {ka : Knd} {pos po : Pos} {q : Q3}
end
end DL

namespace DL
open PySem PySem.Spec PyProof.Rows L2
section
variable {X : Cx} {T : Tb} {H0 : HZ} {Γ : List Mode} {J : Jm} {pos po pos' : Pos}
theorem Rl.move {K : PySem.W.Frag} {F H : Hp} {O : Own} {σ : L2.St} {ρ : List D} (R : Rl K T H0 Γ F O σ H ρ) {i j : Nat} {m : Mode} {v : V} {d : D} (hij : i ≠ j) (hi : i < Γ.length) (hm : Γ[j]? = some m) (hv : σ[j]? = some (some v)) (hd : ρ[j]? = some d) :
    Rl K T H0 ((Γ.set j .no).set i m) F (fun k a => if k = i then O j a else if k = j then False else O k a) (σ.set i (some v)) H (ρ.set i d) := by
  refine ⟨R.h0, R.fh, fun k a hk => ?_, fun k l a hk hl => ?_, by rw [List.length_set, List.length_set, List.length_set]; exact R.ls, by rw [List.length_set, List.length_set, List.length_set]; exact R.lr, fun k mk hk => ?_, R.nF, R.tb⟩
  · try dsimp only at hk
    split at hk
    · exact R.on j a hk
    · split at hk
      · exact hk.elim
      · exact R.on k a hk
  · try dsimp only at hk hl
    split at hk
    · split at hl
      · omega
      · split at hl
        · exact hl.elim
        · have := R.od j l a hk hl
          omega
    · split at hk
      · exact hk.elim
      · split at hl
        · have := R.od k j a hk hl
          omega
        · split at hl
          · exact hl.elim
          · exact R.od k l a hk hl
  · by_cases hki : k = i
    · subst hki
      rw [List.getElem?_set_self (by rw [List.length_set]; exact hi)] at hk
      cases hk
      rw [List.getElem?_set_self (by rw [R.ls]; exact hi), List.getElem?_set_self (by rw [R.lr]; exact hi)]
      have := R.sl j m hm
      rw [hv, hd] at this
      have e : (fun a => if k = k then O j a else if k = j then False else O k a) = O j := by
        funext a
        rw [if_pos rfl]
      show SlotR K T H0 F H (fun a => if k = k then O j a else if k = j then False else O k a) _ _ m
      rw [e]
      exact this
    · rw [List.getElem?_set_ne (Ne.symm hki)] at hk
      rw [List.getElem?_set_ne (Ne.symm hki), List.getElem?_set_ne (Ne.symm hki)]
      by_cases hkj : k = j
      · subst hkj
        have hjl : k < Γ.length := (List.getElem?_eq_some_iff.mp hm).1
        rw [List.getElem?_set_self hjl] at hk
        cases hk
        trivial
      · rw [List.getElem?_set_ne (Ne.symm hkj)] at hk
        have := R.sl k mk hk
        have e : (fun a => if k = i then O j a else if k = j then False else O k a) = O k := by
          funext a
          rw [if_neg hki, if_neg hkj]
        show SlotR K T H0 F H (fun a => if k = i then O j a else if k = j then False else O k a) _ _ mk
        rw [e]
        exact this
end
end DL

namespace DL
open PySem PySem.Spec PyProof.Rows L2
section
variable {X : Cx} {T : Tb} {H0 : HZ} {Γ : List Mode} {e : Expr} {es : List Expr} {t : L2.St → Hp → XK → Prop} {fs : List D → Option (List D)} {fe : EF} {k : Knd} {cl : Nat} {x g g1 g2 : Str} {po pos : Pos}
end
end DL

namespace DL
open PySem PySem.Spec PyProof.Rows L2
section
variable {X : Cx} {T : Tb} {H0 : HZ} {Γ Γn : List Mode} {J : Jm} {st : Stmt} {f : SF} {q : Q3}
variable {x : Str} {pos' po p2 p3 : Pos}
end
end DL

namespace DL
open PySem PySem.Spec PyProof.Rows L2
section
variable {X : Cx} {T : Tb} {H0 : HZ} {Γ : List Mode} {a : Expr} {fa : EF} {ka : Knd} {pos po p2 pos2 : Pos} {q : Q3}
end
end DL

namespace DL
open PySem PySem.Spec PyProof.Rows L2
def spPl (K : PySem.W.Frag) (T : Tb) (n j : Nat) (φ : List D → Option D) : Sp := fun vs H Q _ => vs.length = n ∧ ∃ a ds d, vs[j]? = some (.ref a) ∧ LamX.Tabs T.t H ∧ RUs K T H vs ds ∧ φ ds = some d ∧ ∀ H' v, RetOk K T (ntb H) H' (.pl a) v d → Q v H'
structure OkFP (P : Program) (w : World) (K : PySem.W.Frag) (mg : Str → Option Value) (base : Heap) (T : Tb) (k : Nat) (x : Str) (ps : List Str) (j : Nat) (φ : List D → Option D) : Prop where
  ex : ∃ f fd, mg x = some (.ref f) ∧ PySem.W.keepIn K (.ref f) = true ∧ Binds K fd ps [] ∧ FnOk P w K mg base CX0 k f fd ps (spPl K T ps.length j φ)
section
variable {P : Program} {w : World} {K : PySem.W.Frag} {mg : Str → Option Value} {base : Heap} {T : Tb}
end
section
variable {X : Cx} {T : Tb} {H0 : HZ} {Γ Γ1 Γn Γm : List Mode} {J : Jm} {e a b tg iter : Expr} {es : List Expr} {st : Stmt} {sts : List Stmt} {f g : SF} {fe fa fb : EF} {k ka kb : Knd} {pos po pos' : Pos} {q p : Q3} {fs : List D → Option (List D)} {x : Str}
end
end DL

namespace DL
open PySem PySem.Spec PyProof.Rows L2
section
variable {X : Cx} {T : Tb} {H0 : HZ} {Γ : List Mode} {a b o e : Expr} {fa fb : EF} {k ka kb : Knd} {pos po apos p2 : Pos} {q : Q3} {lo hi : Option Expr} {fl fh : List D → Option (Option Int)}
end
end DL

namespace DL
open PySem PySem.Spec PyProof.Rows L2
theorem RepsG.dropLast {K : PySem.W.Frag} {T : Tb} {N : Addr → Prop} {F : Hp} {vs : List V} {ds : List D} (r : RepsG K T N F vs ds) : RepsG K T N F vs.dropLast ds.dropLast := by
  rw [List.dropLast_eq_take, List.dropLast_eq_take, r.length]
  exact r.take _
section
variable {X : Cx} {T : Tb} {H0 : HZ} {Γ Γ1 Γn Γm : List Mode} {J : Jm} {e a b o tg iter : Expr} {es : List Expr} {st : Stmt} {sts : List Stmt} {f g : SF} {fe fa fb fo : EF} {k ka kb : Knd} {pos po pos' apos : Pos} {q p k3 : Q3} {fs : List D → Option (List D)} {x : Str} {cl : Nat}
end
end DL

namespace PySem.SeqAt
open AutoSeq1 (wpAny_loadPart')
open MeetsSeq MeetsSeq2 MeetsSeq3 SeqRoads2
end PySem.SeqAt
namespace DL
open PySem PySem.Spec PyProof.Rows L2
section
variable {X : Cx}
end
theorem rep_int {K : PySem.W.Frag} {T : Tb} {N : Addr → Prop} {F : Hp} {v : V} {i : Int} (h : RepG K T N F v (.int i)) : v = .int i := by cases h; rfl
section
variable {X : Cx} {T : Tb} {H0 : HZ} {Γ Γ1 Γn Γm : List Mode} {J : Jm} {e a b o tg iter : Expr} {es : List Expr} {st : Stmt} {sts : List Stmt} {f g : SF} {fe fa fb fo : EF} {k ka kb : Knd} {pos po pos' apos : Pos} {q p k3 : Q3} {fs : List D → Option (List D)} {x : Str} {cl : Nat}
end
end DL

namespace DL
open PySem PySem.Spec PyProof.Rows L2 NdefX LamX
theorem execs_app {env : Env} {rest : List Stmt} : ∀ pre : List Stmt, execs (pre ++ rest) env = (execs pre env >>= fun f => match f with
    | .next => execs rest env
    | f => pure f)
  | [] => rfl
  | s :: pre => by
    show execs (s :: (pre ++ rest)) env = _
    rw [execs_cons, execs_cons, bind_assoc]
    congr 1
    funext f
    cases f with
    | next => exact execs_app pre
    | ret v => rfl
    | brk => rfl
    | cont => rfl
theorem wp_app {M : Model} {A : Around} {env : Env} {pre rest : List Stmt} {Q : Flow → Shared → Prop} {E : Value → Shared → Prop} {s : Shared}
    (h : wpAny M A (execs pre env) (fun f s' => match f with
      | .next => wpAny M A (execs rest env) Q E s'
      | f => Q f s') E s) : wpAny M A (execs (pre ++ rest) env) Q E s := by
  rw [execs_app]
  refine wpAny_bind (thn h fun f s' q => ?_)
  cases f with
  | next => exact q
  | ret v => exact wpAny_pure q
  | brk => exact wpAny_pure q
  | cont => exact wpAny_pure q
theorem tabs_n {T : List (Addr × Str)} {H : Hp} : TabsN (T.map fun p => (p.1, fun _ _ => p.2)) H ↔ Tabs T H := by
  constructor
  · intro h p hp
    exact TabN.to (h (p.1, fun _ _ => p.2) (List.mem_map.mpr ⟨p, hp, rfl⟩))
  · intro h p hp
    obtain ⟨q, hq, e⟩ := List.mem_map.mp hp
    subst e
    exact TabN.of (h q hq)
theorem nodup_at {fr : List Str} (h : fr.Nodup) {i j : Nat} {y : Str} (a : fr[i]? = some y) (b : fr[j]? = some y) : i = j := by
  obtain ⟨h1, e1⟩ := List.getElem?_eq_some_iff.mp a
  obtain ⟨h2, e2⟩ := List.getElem?_eq_some_iff.mp b
  exact (List.getElem_inj h).mp (e1.trans e2.symm)
section
variable {cl : List (Str × Addr)} {fr : List Str} {ws : List V}
def CellAt (cl : List (Str × Addr)) (fr : List Str) (ws : List V) (b : Addr) (v : V) : Prop := ∃ (y : Str) (i : Nat), cl.lookup y = some b ∧ fr[i]? = some y ∧ ws[i]? = some v
open Classical in
noncomputable def tell (cl : List (Str × Addr)) (fr : List Str) (ws : List V) (H : Hp) : Hp := fun b => if h : ∃ v, CellAt cl fr ws b v then some (CellO b (choose h)) else H b
theorem cellAt_uniq (hi : ∀ x y c, cl.lookup x = some c → cl.lookup y = some c → x = y) (nd : fr.Nodup) {b : Addr} {v w : V} (h1 : CellAt cl fr ws b v) (h2 : CellAt cl fr ws b w) : v = w := by
  obtain ⟨y, i, a1, a2, a3⟩ := h1
  obtain ⟨z, j, b1, b2, b3⟩ := h2
  have e := hi _ _ _ a1 b1
  subst e
  have e := nodup_at nd a2 b2
  subst e
  rw [a3] at b3
  cases b3
  rfl
theorem tell_in (hi : ∀ x y c, cl.lookup x = some c → cl.lookup y = some c → x = y) (nd : fr.Nodup) {H : Hp} {b : Addr} {v : V} (h : CellAt cl fr ws b v) : tell cl fr ws H b = some (CellO b v) := by
  have hx : ∃ v, CellAt cl fr ws b v := ⟨v, h⟩
  unfold tell
  rw [dif_pos hx, cellAt_uniq hi nd (Classical.choose_spec hx) h]
theorem tell_out {H : Hp} {b : Addr} (h : ¬ ∃ v, CellAt cl fr ws b v) : tell cl fr ws H b = H b := by
  unfold tell
  rw [dif_neg h]
end
def MkOk (K : PySem.W.Frag) (T : Tb) (H0 H1 H' : Hp) (f : Addr) (k : Nat) (d : D) : Prop := ∃ (Fc : Hp) (ws : List V) (ds : List D), d = .tup ds ∧ Same H1 Fc ∧ Same Fc H' ∧ (NoT Fc ∧ Tabs T.t H') ∧ ClB T Fc f k ws ∧ Rqs K T H0 .L Fc ws ds
def spMk (K : PySem.W.Frag) (T : Tb) (n : Nat) (φ : List D → Option D) (k : Nat) : Sp := fun vs H Q _ => vs.length = n ∧ ∃ (H0 : Hp) (v0 : V) (vr : List V) (d0 : D) (dr : List D) (d : D), vs = v0 :: vr ∧ Same H0 (ntb H) ∧ Tabs T.t H ∧ Rq K T H0 .L (ntb H) v0 d0 ∧ RUs K T H vr dr ∧ φ (d0 :: dr) = some d ∧
  ∀ H' f, MkOk K T H0 (ntb H) H' f k d → Q (.ref f) H'
def mkD (pks : List PKn) (m : Nat) (js : List Nat) (body : SF) : List D → Option D := fun args =>
  if chks pks args.tail = true then (body (args ++ List.replicate m .non)).bind fun o => match o with
    | .nx ρ => (js.mapM fun j => ρ[j]?).map .tup
    | _ => none
  else none
structure OkMk (P : Program) (w : World) (K : PySem.W.Frag) (mg : Str → Option Value) (base : Heap) (T : Tb) (k : Nat) (x : Str) (ps : List Str) (φ : List D → Option D) (kk : Nat) : Prop where
  ex : ∃ f fd, mg x = some (.ref f) ∧ PySem.W.keepIn K (.ref f) = true ∧ Binds K fd ps [] ∧ FnOk P w K mg base CX0 k f fd ps (spMk K T ps.length φ kk)
theorem rl_startM {K : PySem.W.Frag} {T : Tb} {H h' : Hp} {pks : List PKn} {m : Nat} {N : List Str} {v0 : V} {vr : List V} {d0 : D} {dr : List D} (hN : N.length = (pks.length + 1) + m) (h0 : Same h' (ntb H)) (hv : Rq K T h' .L (ntb H) v0 d0) (hr : RUs K T H vr dr) (hc : chks pks dr = true) (ht : Tabs T.t H) :
    Rl K T ⟨h', 0, []⟩ (.fz .L :: ms0 pks m) (ntb H) (fun _ _ => False) (L2.start N (v0 :: vr)) H ((d0 :: dr) ++ List.replicate m .non) := by
  have hl := chks_len hc
  have hv2 := hr.length
  have hr : RUs K T (ntb H) vr dr := hr.monoS ⟨fun b o e n => ntb_some e n⟩ fun _ h => h
  refine ⟨h0, fun b o e => ntb_le e, fun _ _ h => h.elim, fun _ _ _ h => h.elim, ?_, ?_, fun i md hm => ?_, fun b o e => ntb_not e, ht⟩
  · unfold L2.start; simp; omega
  · simp; omega
  · cases i with
    | zero =>
      cases hm
      exact ⟨v0, d0, rfl, rfl, hv⟩
    | succ i =>
      rw [List.getElem?_cons_succ] at hm
      by_cases hi : i < pks.length
      · unfold ms0 at hm
        rw [List.getElem?_append_left (by simpa using hi), List.getElem?_map] at hm
        cases hp : pks[i]? with
        | none => rw [hp] at hm; cases hm
        | some p =>
          rw [hp] at hm
          cases hm
          obtain ⟨d, h1, h2⟩ := chks_get hc hp
          obtain ⟨v, h3, h4⟩ := hr.get h1
          have e1 : (L2.start N (v0 :: vr))[i + 1]? = some (some v) := by
            unfold L2.start
            rw [List.getElem?_append_left (by rw [List.length_map, List.length_cons]; omega), List.getElem?_map, List.getElem?_cons_succ, h3]; rfl
          have e2 : ((d0 :: dr) ++ List.replicate m D.non)[i + 1]? = some d := by
            rw [List.getElem?_append_left (by rw [List.length_cons]; omega), List.getElem?_cons_succ, h1]
          rw [e1, e2]
          cases p with
          | U => exact ⟨v, d, rfl, rfl, h4⟩
          | A => exact ⟨v, d, rfl, rfl, h4.lf h2⟩
          | fA =>
            cases d <;> first | (cases h2; done) | skip
            cases h4 with
            | @lst a vs ds h5 h6 h7 => exact ⟨a, vs, _, rfl, rfl, h5, RepsG.lf h7 h2⟩
          | fU =>
            cases d <;> first | (cases h2; done) | skip
            cases h4 with
            | @lst a vs ds h5 h6 h7 => exact ⟨a, vs, _, rfl, rfl, h5, h7⟩
      · unfold ms0 at hm
        rw [List.getElem?_append_right (by simpa using hi)] at hm
        have : md = .no := by
          have := List.mem_of_getElem? hm
          rw [List.mem_replicate] at this
          exact this.2
        subst this
        trivial
theorem slots_at {K : PySem.W.Frag} {T : Tb} {H0 : HZ} {Γ : List Mode} {F H : Hp} {O : Own} {σ : L2.St} {ρ : List D} (R : Rl K T H0 Γ F O σ H ρ) : ∀ {js : List Nat} {ds : List D}, (∀ j ∈ js, Γ[j]? = some (.fz .L)) → (js.mapM fun j => ρ[j]?) = some ds →
    ∃ ws : List V, js.map (NdefX.slotAt σ) = ws.map some ∧ Rqs K T H0 .L F ws ds
  | [], ds, _, h => by
    cases h
    exact ⟨[], rfl, .nil⟩
  | j :: js, ds, hm, h => by
    rw [List.mapM_cons] at h
    obtain ⟨v, d, e1, e2, r⟩ := R.sl j _ (hm j List.mem_cons_self)
    rw [e2] at h
    cases h2 : js.mapM fun j => ρ[j]? with
    | none => rw [h2] at h; cases h
    | some es =>
      rw [h2] at h
      cases h
      obtain ⟨ws, g1, g2⟩ := slots_at R (fun i hi => hm i (List.mem_cons_of_mem _ hi)) h2
      exact ⟨v :: ws, by rw [List.map_cons, List.map_cons, slotAt_of e1, g1], .cons r g2⟩
section
variable {P : Program} {w : World} {K : PySem.W.Frag} {mg : Str → Option Value} {base : Heap} {T : Tb}
theorem mk_okmk {x name : Str} {st nst : Stmt} {pre : List Stmt} {N ps fr : List Str} {pks : List PKn} {m k kk ii : Nat} {body : SF} {Γn : List Mode} {js : List Nat} {c Pt : Addr} {p0 p1 p2 : Pos}
    (F : FtT K mg x x st ps c Pt) (S : FnScope N ps (defScope st)) (hN : N.length = (pks.length + 1) + m) (hp : ps.length = pks.length + 1)
    (hbd : defBody st = pre ++ [nst, .Return (some (.Name name p1)) p2])
    (hst : nst = .FunctionDef name (C8.fnArgs nst) (C8.fnBody nst) [] none [] (C8.fnScope nst) none name p0)
    (TB : TabB base mg c Pt) (hT : (Pt, x ++ ".<locals>." ++ name) ∈ T.t) (hu : ∀ p ∈ T.t, p.1 = Pt → p.2 = x ++ ".<locals>." ++ name)
    (hk : T.n kk = ⟨nst, name, x ++ ".<locals>." ++ name, fr⟩)
    (hfree : ndefB (defScope st) (C8.fnScope nst) fr = true) (nd : fr.Nodup) (hfa : ∀ y ∈ (C8.fnScope nst).names, y.2 = .free → y.1 ∈ fr)
    (hd0 : (C8.fnArgs nst).defaults = []) (hk0 : (C8.fnArgs nst).kw_defaults = []) (ha : ∀ env, annTrees (C8.fnArgs nst) none env = [])
    (hi : N[ii]? = some name) (hx : (defScope st).names.lookup name = some .local) (hjs : js.map (fun j => N[j]?) = fr.map some) (hjm : ∀ j ∈ js, Γn[j]? = some (.fz .L)) (hnj : ii ∉ js)
    (hd : (name == ("__debug__" : Str)) = false := by decide) (hcd : (name == ("__classdict__" : Str)) = false := by decide)
    (hb : ∀ (f : Addr) (A : Around) (outer : List Env) (s : Shared) (H : Hp) (E : XK) (H0 : HZ), Room k (bodyX P w K mg base N x st f (.ref c) A outer s H E).A → DSs (bodyX P w K mg base N x st f (.ref c) A outer s H E) T H0 (.fz .L :: ms0 pks m) pre body Γn (jm (.q .U))) :
    OkMk P w K mg base T (k + 1) x ps (mkD pks m js body) kk := by
  obtain ⟨f, oc, od, kV, doc, pm, an, ct, osl, lk, hcd', kp, bd, hmg⟩ := F.ex
  refine ⟨f, _, hmg, kp, bd, fun vs H Q E h => h.1, fun A outer s H args us vs Q E hr e0 hbt r hsp => ?_⟩
  obtain ⟨hl, h', v0, vr, d0, dr, d, rfl, h0, ht, hv0, hvr, hφ, hq⟩ := hsp
  have KX : K.In s.heap := e0.mod.kin.keeps fun b o e => (e0.bs b o e).1
  have lim : s.heap.NoLimit := e0.mod.nolimit.keeps fun b o e => (e0.bs b o e).1
  have hkind : ∀ y ∈ ps.zip us, (defScope st).names.lookup y.1 = some .local ∨ ((defScope st).names.lookup y.1 = some .cell ∧ ((cellsFrom (s.heap.objs.size + 1) (defScope st).names []).lookup y.1).isSome = true) := fun ⟨n, v⟩ hy => by
    rcases S.par n (List.of_mem_zip hy).1 with q | q
    · exact .inl q
    · exact .inr ⟨q, PySem.W.cellsFrom_some _ _ _ (.inl q)⟩
  refine codeAny_call_function hr.depth (KX _ _ lk) rfl S.co S.gen rfl (PySem.W.codeRec_of KX hcd') (hbt _ _ _ _ ?_)
  refine wpAny_newFunctionEnv_cells S.kind hkind fun env he s1 xx => ?_
  subst he
  refine ⟨lim.keeps xx.toInCall.keep, codeAny_func ?_⟩
  have I : Inv (cxOf CX0 P w K mg base N x (defScope st) f (.ref c) A outer s H E) [] (start N (v0 :: vr)) H s1 := inv_start S hr.hd e0 hl r xx
  unfold mkD at hφ
  rw [List.tail_cons] at hφ
  split at hφ
  · rename_i hc
    have R0 := rl_startM (m := m) hN h0 hv0 hvr hc ht
    cases h1 : body ((d0 :: dr) ++ List.replicate m .non) with
    | none => rw [h1] at hφ; cases hφ
    | some o =>
      rw [h1] at hφ
      simp only [Option.bind_some] at hφ
      split at hφ
      · rename_i ρ'
        cases h2 : js.mapM fun j => ρ'[j]? with
        | none => rw [h2] at hφ; cases hφ
        | some ds =>
          rw [h2] at hφ
          cases hφ
          have run := (hb f A outer s H E ⟨h', 0, []⟩ (hr.deeper _)).nox.run [] s1 _ H { nx := fun σ' H' => ∃ F' O', Same (ntb H) F' ∧ Rl K T ⟨h', 0, []⟩ Γn F' O' σ' H' ρ', rt := fun _ _ => False } I
            ⟨ntb H, _, _, _, R0, h1, fun F' O' σ' H' s' R' => ⟨F', O', s', R'⟩⟩
          show wpAny _ _ (execs (defBody st) _) _ _ s1
          rw [hbd]
          refine wp_app (wpAny_mono run (fun fl s2 hs => ?_) fun e s2 hs => hs)
          cases fl with
          | ret u => obtain ⟨_, _, _, _, _, z⟩ := hs; exact z.elim
          | brk => obtain ⟨_, _, _, z⟩ := hs; exact z.elim
          | cont => obtain ⟨_, _, _, z⟩ := hs; exact z.elim
          | next =>
            obtain ⟨σ1, H1, I1, F1, O1, sF, R1⟩ := hs
            obtain ⟨ws, ews, rr⟩ := slots_at R1 hjm h2
            have PN := ps_ndefMS (X := cxOf CX0 P w K mg base N x (defScope st) f (.ref c) A outer s H E) (T := T.t.map fun p => (p.1, fun _ _ => p.2)) (nm := fun _ _ => x ++ ".<locals>." ++ name) (c := c) (P := Pt) (i := ii) hst TB rfl
              (List.mem_map.mpr ⟨_, hT, rfl⟩) rfl (fun p hp e => by
                obtain ⟨q, hq, rfl⟩ := List.mem_map.mp hp
                funext a b
                exact hu q hq e) (ndef_free hfree) hd0 hk0 (ha _) S.nd hi (.inl hx) (.inl rfl)
            refine wpAny_execs_cons (thn (PN.run [] s2 σ1 H1 { nx := fun σ' H' => ∃ f' c', σ' = σ1.set ii (some (.ref f')) ∧ ExtN H1 H' ∧ TabsN (T.t.map fun p => (p.1, fun _ _ => p.2)) H' ∧ H' f' = some (FnO f' (NF.of nst name (x ++ ".<locals>." ++ name) (cloFrom (cxOf CX0 P w K mg base N x (defScope st) f (.ref c) A outer s H E).env.cells (C8.fnScope nst).names []) c')) ∧ H' c' = some (CodeO c' (x ++ ".<locals>." ++ name)), rt := fun _ _ => False } I1
              ⟨tabs_n.mpr R1.tb, fun f' c' H2 eN nn T2 hf hfn hco => ⟨f', c', rfl, eN, T2, hfn, hco⟩⟩) fun fl s3 hs => ?_)
            cases fl with
            | ret u => obtain ⟨_, _, _, _, _, z⟩ := hs; exact z.elim
            | brk => obtain ⟨_, _, _, z⟩ := hs; exact z.elim
            | cont => obtain ⟨_, _, _, z⟩ := hs; exact z.elim
            | next =>
              obtain ⟨σ3, H3, I3, f', c', rfl, eN, T2, hfn, hco⟩ := hs
              have hil : ii < σ1.length := by rw [I1.len]; exact (List.getElem?_eq_some_iff.mp hi).1
              refine wpAny_execs_cons (wpAny_Return_some (thn ((pe_var (pos := p1) hi (.inl hx) hd hcd).run [] s3 _ H3 (fun v H4 => v = .ref f' ∧ H4 = H3) I3 ⟨.ref f', List.getElem?_set_self hil, rfl, rfl⟩) fun u s4 ⟨v, H4, I4, r4, q4⟩ => ?_))
              obtain ⟨ev, eH⟩ := q4
              subst ev; subst eH
              have C0 := cells_of I4 (Caps.made I4.ok (ndef_free hfree) (ndef_fr hfree) hjs)
              have esl : js.map (NdefX.slotAt (σ1.set ii (some (.ref f')))) = ws.map some := by
                rw [← ews]
                refine List.map_congr_left fun j hj => ?_
                unfold NdefX.slotAt
                rw [List.getElem?_set_ne (by intro e; subst e; exact hnj hj)]
              rw [esl] at C0
              have sub := (Caps.made I4.ok (ndef_free hfree) (ndef_fr hfree) hjs).sub
              generalize hcl : cloFrom (cxOf CX0 P w K mg base N x (defScope st) f (.ref c) A outer s H E).env.cells (C8.fnScope nst).names [] = cl at *
              have wl : ws.length = fr.length := by rw [← C0.len, List.length_map]
              have none3 : ∀ b, (∃ v, CellAt cl fr ws b v) → H4 b = none := fun b ⟨v, y, i, a1, _, _⟩ => (C0.all y b a1).1
              have keep : ∀ b o, H4 b = some o → tell cl fr ws H4 b = some o := fun b o e => by
                rw [tell_out]
                · exact e
                · intro z; rw [none3 b z] at e; cases e
              have new : ∀ b, (∃ v, CellAt cl fr ws b v) → s.heap.objs.size ≤ b := fun b ⟨v, y, i, a1, _, _⟩ => I4.ok.cab y b rfl (sub y b a1)
              have cover : ∀ y b, cl.lookup y = some b → ∃ i v, fr[i]? = some y ∧ ws[i]? = some v := fun y b e => by
                have hm := cloFrom_mem (PySem.mem_of_lookup (hcl ▸ e))
                rcases hm with hm | ⟨hm, _⟩
                · cases hm
                · obtain ⟨i, hi'⟩ := List.mem_iff_getElem?.mp (hfa _ hm rfl)
                  have il := (List.getElem?_eq_some_iff.mp hi').1
                  exact ⟨i, ws[i]'(by omega), hi', List.getElem?_eq_getElem (by omega)⟩
              have same1 : ∀ b o, F1 b = some o → ntb (tell cl fr ws H4) b = some o := fun b o e => by
                have nT := R1.nF _ _ e
                have e3 := eN _ _ (R1.fh _ _ e) fun ps z => by subst z; cases nT
                exact ntb_some (keep _ _ e3) nT
              refine ⟨.ref f', tell cl fr ws H4, I4.os, I4.bare, ?_, ?_, r4, hq _ f' ⟨ntb (tell cl fr ws H4), ws, ds, rfl, fun b o e => same1 _ _ (sF _ _ e), fun b o e => ntb_le e, ⟨fun b o e => ntb_not e, fun p hp => ((tabs_n.mp T2) p hp).ext keep⟩, ?_, rr.mono (fun b o e => same1 b o e) fun _ h => h⟩⟩
              · have u := I4.base
                exact ⟨u.keep, u.slot, fun b o e n hx => by
                  rw [tell_out]
                  · exact u.free b o e n hx
                  · intro z
                    have h1 := Heap.lt_size e
                    have h2 := new b z
                    exact absurd (Nat.lt_of_lt_of_le h1 h2) (Nat.lt_irrefl _), u.there, fun b xs e => keep _ _ (u.tups b xs e), fun b o v e => keep _ _ (u.frzs b o v e), fun b ps e => by
                  obtain ⟨more, z⟩ := u.tbls b ps e
                  exact ⟨more, keep _ _ z⟩⟩
              · intro b o e
                by_cases hz : ∃ v, CellAt cl fr ws b v
                · obtain ⟨v, hz⟩ := hz
                  rw [tell_in C0.inj nd hz] at e
                  cases e
                  obtain ⟨y, i, a1, a2, a3⟩ := hz
                  obtain ⟨c2, b1, b2⟩ := C0.has i y a2
                  rw [a1] at b1
                  cases b1
                  obtain ⟨u', ru, ob, ho, hdd⟩ := b2 v (by rw [List.getElem?_map, a3]; rfl)
                  exact ⟨⟨u', ru, ob, ho, hdd⟩, ⟨_, ho⟩, fun h1 h2 ⟨u2, r2, ob2, ho2, hd2⟩ st => ⟨u2, r2, ob2, st _ ho2, hd2⟩⟩
                · rw [tell_out hz] at e
                  exact (I4.hok b o e).stay (fun _ _ _ q => q) (fun _ q => keep _ _ q) fun _ _ q => keep _ _ q
              · unfold ClB
                rw [hk]
                exact ⟨cl, c', ntb_some (keep _ _ hfn) rfl, ntb_some (keep _ _ hco) rfl, wl, C0.inj, fun y b e => by
                  obtain ⟨i, v, g1, g2⟩ := cover y b e
                  exact ⟨v, ntb_some (tell_in C0.inj nd ⟨y, i, e, g1, g2⟩) rfl⟩, fun i y e => by
                  have e : fr[i]? = some y := e
                  obtain ⟨b, e1, _⟩ := C0.has i y e
                  have il := (List.getElem?_eq_some_iff.mp e).1
                  have e2 : ws[i]? = some (ws[i]'(by omega)) := List.getElem?_eq_getElem (by omega)
                  exact ⟨b, _, e1, e2, ntb_some (tell_in C0.inj nd ⟨y, i, e1, e, e2⟩) rfl⟩⟩
      · cases hφ
  · cases hφ
def spN (K : PySem.W.Frag) (T : Tb) (n : Nat) (φ : List D → Option D) (rk : RK) : List (Option V) → Sp := fun ws vs H Q _ => vs.length = n ∧ ∃ (wv : List V) (ds wds : List D) (d : D), ws = wv.map some ∧ Tabs T.t H ∧ RUs K T H vs ds ∧ RUs K T H wv wds ∧ φ (ds ++ wds) = some d ∧ ∀ H' v, RetOk K T (ntb H) H' rk v d → Q v H'
structure OkN (P : Program) (w : World) (K : PySem.W.Frag) (mg : Str → Option Value) (base : Heap) (T : Tb) (k kk : Nat) (ps : List Str) (φ : List D → Option D) (rk : RK) : Prop where
  ok : ∀ (f : Addr) (cl : List (Str × Addr)) (c' : Addr), NOk P w K mg base CX0 k f (NF.of (T.n kk).st (T.n kk).name (T.n kk).qual cl c') ps (T.n kk).fr (spN K T ps.length φ rk)
theorem startF_eq {N : List Str} {vs wv : List V} : startF N vs (wv.map some) = L2.start N (vs ++ wv) := by
  unfold startF L2.start
  rw [List.map_append, List.append_assoc, List.length_map, List.length_append, Nat.sub_sub]
end
section
variable {K : PySem.W.Frag} {T : Tb} {N : Addr → Prop} {F : Hp} {S : Addr → Prop}
theorem cutE (hS : ∀ a, S a → ∃ φ, F a = some (.ext φ)) {a : Addr} {o : HO} (h : F a = some o) (hn : ∀ φ, o ≠ .ext φ) : cut F S a = some o := by
  rw [cut_out]
  · exact h
  · intro z
    obtain ⟨φ, e⟩ := hS a z
    rw [h] at e
    cases e
    exact hn _ rfl
mutual
theorem RepG.cutS (hS : ∀ a, S a → ∃ φ, F a = some (.ext φ)) (hE : ∀ a C od, F a = some (ExC a C od) → ¬ S a) : ∀ {v : V} {d : D}, RepG K T N F v d → RepG K T N (cut F S) v d
  | _, _, .non => .non
  | _, _, .bl b => .bl b
  | _, _, .int b => .int b
  | _, _, .str b => .str b
  | _, _, .tup h r => .tup (by
      rcases h with h | ⟨z, o, h⟩
      · exact .inl (cutE hS h fun _ z => by cases z)
      · exact .inr ⟨z, o, cutE hS h fun _ z => by cases z⟩) (RepsG.cutS hS hE r)
  | _, _, .lst h n r => .lst (cutE hS h fun _ z => by cases z) n (RepsG.cutS hS hE r)
  | _, _, .scr h r => .scr (by
      rcases h with ⟨o, h⟩ | h
      · exact .inl ⟨o, cutE hS h fun _ z => by cases z⟩
      · exact .inr h) (RepsG.cutS hS hE r)
  | _, _, .ins h n q r => .ins (cutE hS h fun _ z => by cases z) n q (RepsG.cutS hS hE r)
  | _, _, .dic h n r => .dic (cutE hS h fun _ z => by cases z) n (RepsG.cutS hS hE r)
  | _, _, .dit h n r => .dit (cutE hS h fun _ z => by cases z) n (RepsG.cutS hS hE r)
  | _, _, .exn h x q r => .exn (by rw [cut_out (hE _ _ _ h)]; exact h) (by
      rcases x with x | ⟨dx, x1, x2⟩
      · exact .inl x
      · exact .inr ⟨dx, x1, cutE hS x2 fun _ z => by cases z⟩) q (RepsG.cutS hS hE r)
theorem RepsG.cutS (hS : ∀ a, S a → ∃ φ, F a = some (.ext φ)) (hE : ∀ a C od, F a = some (ExC a C od) → ¬ S a) : ∀ {vs : List V} {ds : List D}, RepsG K T N F vs ds → RepsG K T N (cut F S) vs ds
  | _, _, .nil => .nil
  | _, _, .cons h r => .cons (RepG.cutS hS hE h) (RepsG.cutS hS hE r)
end
noncomputable def back (S : Addr → Prop) (H H' : Hp) : Hp := fun b => open Classical in if S b then H b else H' b
theorem back_in' {H H' : Hp} {b : Addr} (h : S b) : back S H H' b = H b := by unfold back; rw [if_pos h]
theorem back_out {H H' : Hp} {b : Addr} (h : ¬ S b) : back S H H' b = H' b := by unfold back; rw [if_neg h]
theorem back_of {H H' : Hp} (hn : ∀ b, S b → H' b = none) {b : Addr} {o : HO} (e : H' b = some o) : back S H H' b = some o := by
  rw [back_out]
  · exact e
  · intro z; rw [hn b z] at e; cases e
theorem ce_back {P : Program} {w : World} {outer : List Env} {H : Hp} {s s' : Shared} {Q : VK} {u : Value} (hS : ∀ b, S b → ∃ v, H b = some (CellO b v)) (hok : L2.HOk P w H s.heap) (frf : ∀ b ∈ frs outer, H b = none)
    (h : CE outer P w (cut H S) s (fun v H' => (∀ b, S b → H' b = none) → Q v (back S H H')) u s') : CE outer P w H s Q u s' := by
  obtain ⟨v, H', os, bare, un, hok', r, q⟩ := h
  have ex : ∀ b, S b → ∃ v u, RelV v u ∧ H b = some (CellO b v) ∧ s.heap.IsCell b (some u) := fun b z => by
    obtain ⟨v, e⟩ := hS b z
    obtain ⟨⟨u, ru, hc⟩, _⟩ := hok b _ e
    exact ⟨v, u, ru, e, hc⟩
  have hn : ∀ b, S b → H' b = none := fun b z => by
    obtain ⟨v, u, _, _, o, ho, _⟩ := ex b z
    exact un.free b o ho (cut_in z) (by simp)
  have up : ∀ b o, H' b = some o → back S H H' b = some o := fun b o e => back_of hn e
  have low : ∀ b o, H b = some o → (∀ φ, o ≠ .ext φ) → cut H S b = some o := fun b o e n => cutE (fun a z => by obtain ⟨v, e⟩ := hS a z; exact ⟨_, e⟩) e n
  have cutN : ∀ b, H b = none → cut H S b = none := fun b e => by
    unfold cut
    split
    · rfl
    · exact e
  refine ⟨v, back S H H', os, bare, ⟨fun b o e n hb hx => un.keep b o e (cutN b n) hb hx, fun b o e n hb hx => un.slot b o e (cutN b n) hb hx, fun b o e n hx => ?_, un.there, fun b xs e => up _ _ (un.tups b xs (low _ _ e fun _ z => by cases z)),
    fun b o u e => up _ _ (un.frzs b o u (low _ _ e fun _ z => by cases z)), fun b ps e => ?_⟩, fun b o e => ?_, r, q hn⟩
  · by_cases z : S b
    · rw [back_in' z]; exact n
    · rw [back_out z]; exact un.free b o e (cutN b n) hx
  · obtain ⟨more, z⟩ := un.tbls b ps (low _ _ e fun _ z => by cases z)
    exact ⟨more, up _ _ z⟩
  · by_cases z : S b
    · rw [back_in' z] at e
      obtain ⟨v, u, ru, e2, ob, ho, hd⟩ := ex b z
      rw [e2] at e
      cases e
      have hb : b ∉ frs outer := fun hb => by rw [frf b hb] at e2; cases e2
      have ho' := un.keep b ob ho (cut_in z) hb (by simp)
      exact ⟨⟨u, ru, ob, ho', hd⟩, ⟨_, ho'⟩, fun h1 h2 ⟨u2, r2, ob2, ho2, hd2⟩ st => ⟨u2, r2, ob2, st _ ho2, hd2⟩⟩
    · rw [back_out z] at e
      exact (hok' b o e).stay (fun _ _ _ q => q) (fun _ q => up _ _ q) fun _ _ q => up _ _ q
end
def sClo (i : Nat) (φ : List D → Option D) (fa fb : EF) : SF := fun ρ => (fa ρ).bind fun x => (fb ρ).bind fun y => (φ [x, y]).map fun d => .nx (ρ.set i d)
mutual
theorem RepG.here {K : PySem.W.Frag} {T : Tb} {N : Addr → Prop} {F : Hp} : ∀ {v : V} {d : D}, RepG K T N F v d → RepG K T (fun a => F a ≠ none) F v d
  | _, _, .non => .non
  | _, _, .bl b => .bl b
  | _, _, .int b => .int b
  | _, _, .str b => .str b
  | _, _, .tup h r => .tup h (RepsG.here r)
  | _, _, .lst h n r => .lst h (by rw [h]; exact fun z => nomatch z) (RepsG.here r)
  | _, _, .scr h r => .scr h (RepsG.here r)
  | _, _, .ins h n q r => .ins h (by rw [h]; exact fun z => nomatch z) q (RepsG.here r)
  | _, _, .dic h n r => .dic h (by rw [h]; exact fun z => nomatch z) (RepsG.here r)
  | _, _, .dit h n r => .dit h (by rw [h]; exact fun z => nomatch z) (RepsG.here r)
  | _, _, .exn h x q r => .exn h x q (RepsG.here r)
theorem RepsG.here {K : PySem.W.Frag} {T : Tb} {N : Addr → Prop} {F : Hp} : ∀ {vs : List V} {ds : List D}, RepsG K T N F vs ds → RepsG K T (fun a => F a ≠ none) F vs ds
  | _, _, .nil => .nil
  | _, _, .cons h r => .cons (RepG.here h) (RepsG.here r)
end
section
variable {X : Cx} {T : Tb} {H0 : HZ} {Γ Γ1 Γn : List Mode} {J : Jm} {e a b : Expr} {es : List Expr} {fe fa fb : EF} {k ka kb : Knd} {pos po pos' p0 : Pos} {q p : Q3} {fs : List D → Option (List D)} {x : Str}
theorem ds_mkclo {i j k kk : Nat} {y : Str} {ps : List Str} {φ : List D → Option D} (hN : X.N.Nodup) (hi : X.N[i]? = some y) (hx : Loc X.env.scope y) (h : OkMk X.prog X.w X.K X.mg X.base T j x ps φ kk) (hr : Room k X.A) (hg : Gl X x) (ha : DE X T H0 Γ a fa (.q q)) (hb : DE X T H0 Γ b fb kb) (hps : ps.length = 2 := by rfl) (hj : j ≤ k := by decide) (hl : i < Γ.length := by decide)
    (hdb : (x == ("__debug__" : Str)) = false := by decide) (he : starEach [a, b] X.env = (false, eval a X.env) :: starEach [b] X.env := by rfl) (he2 : starEach [b] X.env = (false, eval b X.env) :: starEach [] X.env := by rfl) (hpl : (backTo po (starEach [b] X.env)).any (·.1) = false := by rfl)
    (hs : ∀ p, swapsWith (.Call (.Name x p) [a, b] [] po) (some (.Name y pos')) pos.line X.env = pure false := by intro _; rfl)
    (hf : X.fn y = true ∨ X.env.scope.names.lookup y = some .local := by first | exact .inl rfl | exact .inr rfl | assumption) {po' : Pos} (hk0 : kk ≠ 1000 := by decide) :
    DS X T H0 Γ (.Assign [.Name y pos'] (.Call (.Name x po') [a, b] [] po) pos) (sClo i φ fa fb) (Γ.set i (.os (.clo kk))) J := by
  classical
  obtain ⟨f, fd, h1, h2, h3, h4⟩ := h.ex
  refine PS.wk (ps_set hN hi hx (pe_call h4 (hr.mono hj) hg h1 h2 h3 .nil pass0 (pa_cons ha (pa_cons hb pa_nil he2) he) hdb he hpl) (hs _) hf) fun E σ H ⟨F, O, ρ, out, R, hf, hq⟩ => ?_
  unfold sClo at hf
  cases g1 : fa ρ with
  | none => rw [g1] at hf; cases hf
  | some d0 =>
    rw [g1] at hf
    simp only [Option.bind_some] at hf
    cases g2 : fb ρ with
    | none => rw [g2] at hf; cases hf
    | some d1 =>
      rw [g2] at hf
      simp only [Option.bind_some] at hf
      cases g3 : φ [d0, d1] with
      | none => rw [g3] at hf; cases hf
      | some d =>
        rw [g3] at hf
        cases hf
        refine ⟨F, O, ρ, d0, R, g1, fun F1 H1 v0 R1 s1 t1 r1 => ⟨F1, O, ρ, d1, R1, g2, fun F2 H2 v1 R2 s2 t2 r2 => ?_⟩⟩
        unfold tNil
        dsimp only
        rw [List.append_nil]
        have fh : Same F2 (ntb H2) := fun b o e => ntb_some (R2.fh _ _ e) (R2.nF _ _ e)
        have r0 : RepG X.K T (fun a => F2 a ≠ none) F2 v0 d0 := RepG.here (s2.rq r1)
        refine ⟨by rw [hps]; rfl, fun b => if ∃ i, O i b then ntb H2 b else none, v0, [v1], d0, [d1], d, rfl, fun b o e => ?_, R2.tb, r0.mono fh fun a ha => ?_, .cons (R2.toB r2) .nil, g3, fun H' f hmk => ?_⟩
        · have e : (if ∃ i, O i b then ntb H2 b else none) = some o := e
          split at e
          · exact e
          · cases e
        · show (if ∃ i, O i a then ntb H2 a else none) = none
          split
          · rename_i z
            obtain ⟨i, z⟩ := z
            exact absurd (R2.on i a z).1 ha
          · rfl
        · obtain ⟨Fc, ws, ds, rfl, k1, k2, ⟨k3, k4⟩, k5, k6⟩ := hmk
          obtain ⟨R3, s3, s4, hT⟩ := back_in R2 k1 k2 k3 k4
          have nO : ∀ a, (if ∃ i, O i a then ntb H2 a else none) = none → ¬ ∃ i, O i a := fun a z h => by
            rw [if_pos h] at z
            obtain ⟨i, h⟩ := h
            obtain ⟨_, u, h3, h4⟩ := R2.on i a h
            rw [ntb_some h3 (isT_mut h4)] at z
            cases z
          refine hq _ _ _ H' ((s1.trans s2).trans s3) (R3.setM hl ⟨.ref f, _, rfl, rfl, f, ws, ds, rfl, rfl, .inr ⟨hk0, k5.move fun b o e m => ?_⟩, (RepsG.cut (fun a z => nO a z) hT k6).mono (.refl _) fun _ _ => trivial⟩)
          rw [cut_out (hT _ _ e m)]
          exact e
end
end DL

namespace DL
open PySem PySem.Spec PyProof.Rows L2
section
variable {X : Cx} {pins : List (Addr × Obj)} {σ : L2.St} {H : Hp} {s : Shared} {a d : Addr} {kas : List NE} {o : Obj}
end
section
variable {P : Program} {w : World} {K : PySem.W.Frag} {tg : Expr} {d : Addr} {o : Obj} {es : Array DictEntry} {ep : Nat} {kas : List NE}
end
mutual
theorem nkey_of {K : PySem.W.Frag} {T : Tb} {N : Addr → Prop} {F : Hp} : ∀ (n : Nat) {d : D} {k : NestedKey} {v : V}, nKD n d = some k → RepG K T N F v d → NKey F k v ∧ k.depth ≤ n
  | n, .int i, k, v, h, r => by
    unfold nKD at h
    cases h
    rw [rep_int r]
    exact ⟨.num i, Nat.zero_le _⟩
  | n + 1, .tup ds, k, v, h, r => by
    unfold nKD at h
    cases h1 : ds.mapM (nKD n) with
    | none => rw [h1] at h; cases h
    | some ks =>
      rw [h1] at h
      cases h
      cases r with
      | tup h2 h3 =>
        obtain ⟨g1, g2⟩ := nkeys_of n h1 h3
        exact ⟨.tup h2.rd g1, by unfold NestedKey.depth; omega⟩
  | 0, .tup _, _, _, h, _ => by unfold nKD at h; cases h
  | _, .non, _, _, h, _ => by unfold nKD at h; cases h
  | _, .bl _, _, _, h, _ => by unfold nKD at h; cases h
  | _, .str _, _, _, h, _ => by unfold nKD at h; cases h
  | _, .lst _, _, _, h, _ => by unfold nKD at h; cases h
  | _, .scr _, _, _, h, _ => by unfold nKD at h; cases h
  | _, .ins _ _, _, _, h, _ => by unfold nKD at h; cases h
  | _, .dic _ _, _, _, h, _ => by unfold nKD at h; cases h
  | _, .dit _ _, _, _, h, _ => by unfold nKD at h; cases h
  | _, .exn _ _, _, _, h, _ => by unfold nKD at h; cases h
theorem nkeys_of {K : PySem.W.Frag} {T : Tb} {N : Addr → Prop} {F : Hp} : ∀ (n : Nat) {ds : List D} {ks : List NestedKey} {vs : List V}, ds.mapM (nKD n) = some ks → RepsG K T N F vs ds → NKeys F ks vs ∧ NestedKey.depthAll ks ≤ n
  | n, [], ks, vs, h, r => by
    cases h
    cases r
    exact ⟨.nil, Nat.zero_le _⟩
  | n, d :: ds, ks, vs, h, r => by
    rw [List.mapM_cons] at h
    cases h1 : nKD n d with
    | none => rw [h1] at h; cases h
    | some k =>
      rw [h1] at h
      cases h2 : ds.mapM (nKD n) with
      | none => rw [h2] at h; cases h
      | some ks' =>
        rw [h2] at h
        cases h
        cases r with
        | cons r1 r2 =>
          obtain ⟨a1, a2⟩ := nkey_of n h1 r1
          obtain ⟨b1, b2⟩ := nkeys_of n h2 r2
          exact ⟨.cons a1 b1, by unfold NestedKey.depthAll; omega⟩
end
section
variable {K : PySem.W.Frag} {T : Tb} {H0 : Hp} {F : Hp} {q : Q3} {k : NestedKey}
end
section
variable {X : Cx} {T : Tb} {H0 : HZ} {Γ Γn : List Mode} {J : Jm} {st : Stmt} {f : SF} {q : Q3}
end
end DL

namespace DL
open PySem PySem.Spec PyProof.Rows L2
section
variable {X : Cx} {T : Tb} {H0 : HZ} {Γ Γn : List Mode} {J : Jm} {e a b o : Expr} {fe fb fc : EF} {k kb kc : Knd} {pos po pos' p0 : Pos} {q p : Q3} {x : Str}
end
end DL

namespace DL
open PySem PySem.Spec PyProof.Rows L2
section
variable {X : Cx} {T : Tb} {H0 : HZ} {Γ : List Mode} {fs : List D → Option (List D)} {e : Expr} {es : List Expr} {pos po : Pos}
end
end DL

namespace DL
open PySem PySem.Spec PyProof.Rows L2
section
variable {X : Cx} {T : Tb} {H0 : HZ} {Γ : List Mode} {a b o e : Expr} {fa fb : EF} {k ka kb : Knd} {pos po apos p2 : Pos} {q : Q3}
end
end DL

namespace DL
open PySem PySem.Spec PyProof.Rows L2
section
variable {X : Cx} {pins : List (Addr × Obj)} {σ : L2.St}
end
end DL

namespace DL
open PySem PySem.Spec PyProof.Rows L2
section
variable {X : Cx} {T : Tb} {H0 : HZ} {Γ Γ1 : List Mode} {J : Jm} {e a tg iter : Expr} {es : List Expr} {f : XF} {pos po p2 : Pos} {q p : Q3} {fi : List D → Option (List D)} {fs : List D → Option (List D)}
end
end DL

namespace DL
open PySem PySem.Spec PyProof.Rows L2
section
variable {X : Cx}
theorem call_tuple_frz : CallR X (.type "tuple") (fun xs H Q => ∃ p ys, xs = [.ref p] ∧ SqL X.K H p ys ∧ ∀ l o, H l = none → o.dict = none → Q (.ref l) (upd H l (.frz o (.tup ys)))) := by
  intro pins s σ H xs us Q I r h
  obtain ⟨p, ys, rfl, hq, q⟩ := h
  obtain ⟨u, rfl, rx⟩ := vals1 r
  cases rx
  obtain ⟨its, r', pl, hz⟩ := I.list hq
  have hlen := r'.length
  refine call_tuple_list pl.isList (fun h' kp => ?_) (by simp only [List.size_toArray] <;> omega)
  have I1 : Inv X pins σ H { s with heap := h' } := I.kept (t' := s.toks) kp
  have I2 : Inv X pins σ (upd H h'.objs.size (.frz { cls := .type "tuple", data := .seq its.toArray } (.tup ys))) { s with heap := h'.push { cls := .type "tuple", data := .seq its.toArray } } :=
    I1.laid (t' := s.toks) (fun b o e => Heap.get?_push_of_some _ e) (Nat.le_refl _) (show ObjOk X.prog X.w _ _ _ (.frz _ (.tup ys)) from ⟨Heap.get?_push_size _ rfl, hz, its, r', IsTup.new _ _⟩)
  exact ⟨.ref h'.objs.size, _, I2, rfl, q _ _ (I1.hok.fresh (Nat.le_refl _)) rfl⟩
def tyTz (x : V) (H : Hp) : Prop := ∃ a o xs, x = .ref a ∧ H a = some (.frz o (.tup xs)) ∧ o.dict = none
theorem ty_tz : TyOk X "tuple" tyTz := by
  intro pins σ H s x v I r ty
  obtain ⟨a, o, xs, rfl, h, hd⟩ := ty
  cases r
  obtain ⟨e, hz, its, rv, ob, ho, hc, n, hdd⟩ := I.hok a _ h
  rw [e] at ho
  cases ho
  refine ⟨⟨o, e, hc⟩, fun b z => ?_⟩
  cases z
  exact ⟨o, e, hd⟩
theorem intsAre_vals : ∀ {ns : List Int} {us : List Value}, Vals (ns.map V.int) us → IntsAre us ns
  | [], _, .nil => .nil
  | n :: ns, _, .cons r rs => by
    obtain ⟨t, rfl⟩ := r
    exact .cons _ _ (intsAre_vals rs)
def rTix (K : PySem.W.Frag) : V → List V → Hp → VK → Prop := fun x xs H Q => ∃ (a : Addr) (ns : List Int) (k : Int), x = .ref a ∧ xs = [.int k] ∧ SqT K H a (ns.map V.int) ∧ k ∈ ns ∧ Q (.int (ns.idxOf k : Nat)) H
theorem mt_tix : MtR X "tuple.index" (rTix X.K) := by
  intro pins s σ H x xs v us Q I rx rs h
  obtain ⟨a, ns, k, rfl, rfl, hs, hk, q⟩ := h
  cases rx
  obtain ⟨u, rfl, ru⟩ := rs.one
  obtain ⟨t, rfl⟩ := ru
  obtain ⟨its, rv, pl, hz⟩ := I.tuple hs
  refine PySem.SeqAt.tuple_index_ints (vs := its) pl (intsAre_vals rv) hk ?_
  exact ⟨.int _, H, I.tok _, ⟨_, rfl⟩, q⟩
end
def gTix (x y : D) : Option D := match x, y with
  | .tup ds, .int k => (intsOf ds).bind fun ns => if k ∈ ns then some (.int (ns.idxOf k : Nat)) else none
  | _, _ => none
def eZt (i : Nat) : EF := fun ρ => match ρ[i]? with
  | some (.tup ds) => if ds.all D.at = true then some (.tup ds) else none
  | _ => none
def spZ (K : PySem.W.Frag) (T : Tb) (n : Nat) (φ : List D → Option D) : Sp := fun vs H Q _ => vs.length = n ∧ ∃ a ws es vs' ds' d o, vs = .ref a :: vs' ∧ H a = some (.frz o (.tup ws)) ∧ o.dict = none ∧ LamX.Tabs T.t H ∧ RUs K T H ws es ∧ RUs K T H vs' ds' ∧ φ (.tup es :: ds') = some d ∧ ∀ H' v, RetOk K T (ntb H) H' (.q .A) v d → Q v H'
structure OkFZ (P : Program) (w : World) (K : PySem.W.Frag) (mg : Str → Option Value) (base : Heap) (T : Tb) (k : Nat) (x : Str) (ps : List Str) (φ : List D → Option D) : Prop where
  ex : ∃ f fd, mg x = some (.ref f) ∧ PySem.W.keepIn K (.ref f) = true ∧ Binds K fd ps [] ∧ FnOk P w K mg base CX0 k f fd ps (spZ K T ps.length φ)
  z : T.z = true
theorem rl_startZ {K : PySem.W.Frag} {T : Tb} {H : Hp} {pks : List PKn} {m : Nat} {N : List Str} {vs' : List V} {ds' es : List D} {ws : List V} {a : Addr} {o : Obj} (hz : T.z = true) (hN : N.length = (PKn.U :: pks).length + m) (ha : H a = some (.frz o (.tup ws))) (hd : o.dict = none) (hw : RUs K T H ws es) (hr : RUs K T H vs' ds') (hc : chks (.U :: pks) (.tup es :: ds') = true) (ht : LamX.Tabs T.t H) :
    Rl K T ⟨ntb H, 0, []⟩ (.os (.clo 1000) :: ms0 pks m) (ntb H) (fun _ _ => False) (L2.start N (.ref a :: vs')) H ((.tup es :: ds') ++ List.replicate m .non) := by
  have R := rl_start (m := m) hN (.cons (.tup (.inr ⟨hz, o, ha⟩) hw) hr) hc ht
  refine ⟨R.h0, R.fh, R.on, R.od, by have := R.ls; simpa [ms0] using this, by have := R.lr; simpa [ms0] using this, fun i md hm => ?_, R.nF, R.tb⟩
  cases i with
  | zero =>
    simp at hm
    subst hm
    refine ⟨.ref a, .tup es, ?_, rfl, a, ws, es, rfl, rfl, .inl ⟨rfl, hz, o, ntb_some ha rfl, hd⟩, hw.monoS ⟨fun b o e n => ntb_some e n⟩ fun _ h => h⟩
    unfold L2.start
    simp
  | succ i => exact R.sl (i + 1) md (by simpa [ms0, PKn.mode] using hm)
section
variable {P : Program} {w : World} {K : PySem.W.Frag} {mg : Str → Option Value} {base : Heap} {T : Tb}
theorem mk_okfz {x : Str} {st : Stmt} {N ps : List Str} {pks : List PKn} {m k : Nat} {body : SF} {Γn : List Mode} (F : FtF K mg x x st ps) (S : FnScope N ps (defScope st)) (hN : N.length = (PKn.U :: pks).length + m) (hp : ps.length = (PKn.U :: pks).length) (hz : T.z = true)
    (hb : ∀ (f : Addr) (cdv : Value) (A : Around) (outer : List Env) (s : Shared) (H : Hp) (E : XK), Room k (bodyX P w K mg base N x st f cdv A outer s H E).A → DSs (bodyX P w K mg base N x st f cdv A outer s H E) T ⟨ntb H, 0, []⟩ (.os (.clo 1000) :: ms0 pks m) (defBody st) body Γn (jm (.q .A))) :
    OkFZ P w K mg base T (k + 1) x ps (fnD (.U :: pks) m false body) := by
  obtain ⟨f, fd, h1, h2, h3⟩ := F.ex
  refine ⟨⟨f, fd, h3, h1.kp, h2, h1.ok S (fun vs H Q E h => h.1) fun cdv A outer s H vs Q E hr h => ?_⟩, hz⟩
  obtain ⟨hl, a, ws, es, vs', ds', d, o, rfl, ha, hd, ht, hw, hr', hf, hq⟩ := h
  refine ⟨_, hb f cdv A outer s H E hr, ?_⟩
  unfold fnD at hf
  split at hf
  · rename_i hc
    cases h1 : body ((.tup es :: ds') ++ List.replicate m .non) with
    | none => rw [h1] at hf; cases hf
    | some out =>
      rw [h1] at hf
      simp only [Option.bind_some] at hf
      refine ⟨ntb H, _, _, out, rl_startZ hz hN ha hd hw hr' hc ht, h1, ?_⟩
      split at hf
      · cases hf
        exact fun H' v hv => hq H' v hv
      · cases hf
      · cases hf
  · cases hf
end
section
variable {X : Cx} {T : Tb} {H0 : HZ} {Γ Γ1 Γn Γm : List Mode} {J : Jm} {e a b : Expr} {es : List Expr} {fe fa fb : EF} {k ka kb : Knd} {pos po pos' p0 apos cpos : Pos} {q p : Q3} {fs : List D → Option (List D)} {x : Str}
theorem ds_retTz (hg : Gl X "tuple") (hm : X.mg "tuple" = none) (ha : DE X T H0 Γ a fa ka) (hz : T.z = true := by rfl) (hk : ka.its = some .A := by rfl) (hr : J.r = .od (.clo 1000) := by rfl) (hs : starEach [a] X.env = (false, eval a X.env) :: starEach [] X.env := by rfl) :
    DS X T H0 Γ (.Return (some (.Call (.Name "tuple" po) [a] [] pos)) pos') (sRet (e1 gTuple fa)) Γn J :=
  PS.wk (ps_ret (pe_callTy call_tuple_frz hg hm (by decide +kernel) (pa_cons ha pa_nil hs) (he := hs))) fun E σ H ⟨F, O, ρ, out, R, hf, hq⟩ => by
    unfold sRet e1 at hf
    cases h1 : fa ρ with
    | none => rw [h1] at hf; cases hf
    | some x =>
      rw [h1] at hf
      simp only [Option.bind_some] at hf
      cases x with
      | lst ds =>
        cases hf
        refine ⟨F, O, ρ, _, R, h1, fun F1 H1 v R1 s1 t1 r1 => ?_⟩
        obtain ⟨a1, vs, rfl, h2, h3⟩ := Rp.lst R1 r1 hk
        refine ⟨a1, vs, rfl, SqL.of h2, fun p o hp ho => hq _ _ ?_⟩
        have fn := R1.fh.free hp
        have sH : Same H1 (upd H1 p (.frz o (.tup vs))) := fun b u e => by rw [upd_ne (ne_of_none e hp)]; exact e
        rw [hr]
        exact ⟨F1, p, rfl, R1.h0, fun b u e => sH _ _ (R1.fh _ _ e), ⟨R1.nF, R1.tb.ext sH⟩, fn, rfl, hz, o, vs, ds, rfl, upd_same, ho, h3⟩
      | _ => cases hf
theorem ret_tz {K : PySem.W.Frag} {F H1 H' : Hp} {O : Own} {σ : L2.St} {ρ : List D} {v : V} {d : D} (R : Rl K T H0 Γ F O σ H1 ρ) (h : RetOk K T (ntb H1) H' (.od (.clo 1000)) v d) :
    ∃ F' a o vs ds, v = .ref a ∧ d = .tup ds ∧ Rl K T H0 Γ F' O σ H' ρ ∧ Same F F' ∧ Sm H1 H' ∧ T.z = true ∧ F' a = some (.frz o (.tup vs)) ∧ o.dict = none ∧ RUs K T F' vs ds := by
  obtain ⟨Fc, a, e, s1, s2, ⟨n1, tb⟩, fa, _, hz, o, vs, ds, rfl, ha, hd, hw⟩ := h
  have fh : Same F (ntb H1) := fun b o e => ntb_some (R.fh _ _ e) (R.nF _ _ e)
  have sm : Sm H1 H' := ⟨fun b o e n => s2 _ _ (s1 _ _ (ntb_some e n))⟩
  have hT : ∀ a o, Fc a = some o → isMut o = false → ¬ ∃ i, O i a := by
    rintro a o e hm ⟨i, hi⟩
    obtain ⟨_, u, h2, h3⟩ := R.on i a hi
    have := s1 _ _ (ntb_some h2 (isT_mut h3))
    rw [e] at this; cases this
    rw [hm] at h3; cases h3
  have sF : Same F (cut Fc fun b => ∃ i, O i b) := fun b o e => by
    rw [cut_out]
    · exact s1 _ _ (fh _ _ e)
    · rintro ⟨i, hi⟩
      rw [(R.on i b hi).1] at e; cases e
  have fa' : (cut Fc fun b => ∃ i, O i b) a = none := by
    unfold cut
    split
    · rfl
    · exact fa
  have sF1 : Same (cut Fc fun b => ∃ i, O i b) (upd (cut Fc fun b => ∃ i, O i b) a (.frz o (.tup vs))) := fun b u e => by rw [upd_ne (ne_of_none e fa')]; exact e
  have nOa : ∀ i b, O i b → b ≠ a := fun i b hi z => by
    subst z
    obtain ⟨_, u, h3, h4⟩ := R.on i b hi
    rw [s1 _ _ (ntb_some h3 (isT_mut h4))] at fa; cases fa
  have hw' : Rqs K T H0 .A (cut Fc fun b => ∃ i, O i b) vs ds := (hw.cut (fun _ z => z.elim) hT).mono (.refl _) fun _ z => z.elim
  refine ⟨upd (cut Fc fun b => ∃ i, O i b) a (.frz o (.tup vs)), a, o, vs, ds, e, rfl, (R.grow sm tb).more (sF.trans sF1) (fun b u e => ?_) (n1.cut.upd rfl) (fun i b hi => ?_), sF.trans sF1, sm, hz, upd_same, hd, hw'.mono sF1 fun _ _ => trivial⟩
  · by_cases hb : b = a
    · subst hb; rw [upd_same] at e; cases e; exact ha
    · rw [upd_ne hb] at e
      unfold cut at e
      split at e
      · cases e
      · exact s2 _ _ e
  · rw [upd_ne (nOa i b hi)]
    exact cut_in ⟨i, hi⟩
theorem ds_calltz {i j k : Nat} {y x : Str} {pos' : Pos} {ps : List Str} {φ : List D → Option D} (hN : X.N.Nodup) (hi : X.N[i]? = some y) (hx : Loc X.env.scope y) (h : OkF X.prog X.w X.K X.mg X.base T j x ps φ (.od (.clo 1000))) (hr : Room k X.A) (hg : Gl X x) (ha : DA X T H0 Γ (e :: es) fs) (hn : ∀ ρ ds, fs ρ = some ds → ds.length = ps.length) (hj : j ≤ k := by decide) (hl : i < Γ.length := by decide)
    (hdb : (x == ("__debug__" : Str)) = false := by decide) (he : starEach (e :: es) X.env = (false, eval e X.env) :: starEach es X.env := by rfl) (hpl : (backTo po (starEach es X.env)).any (·.1) = false := by rfl)
    (hs : ∀ p, swapsWith (.Call (.Name x p) (e :: es) [] po) (some (.Name y pos')) pos.line X.env = pure false := by intro _; rfl)
    (hf : X.fn y = true ∨ X.env.scope.names.lookup y = some .local := by first | exact .inl rfl | exact .inr rfl | assumption) {po' : Pos} :
    DS X T H0 Γ (.Assign [.Name y pos'] (.Call (.Name x po') (e :: es) [] po) pos) (sSet i (eCall φ fs)) (Γ.set i (.os (.clo 1000))) J := by
  obtain ⟨f, fd, h1, h2, h3, h4⟩ := h.ex
  refine PS.wk (ps_set hN hi hx (pe_call h4 (hr.mono hj) hg h1 h2 h3 .nil pass0 ha hdb he hpl) (hs _) hf) fun E σ H ⟨F, O, ρ, out, R, hf, hq⟩ => ?_
  unfold sSet eCall at hf
  cases h1 : fs ρ with
  | none => rw [h1] at hf; cases hf
  | some ds =>
    rw [h1] at hf
    simp only [Option.bind_some] at hf
    cases h5 : φ ds with
    | none => rw [h5] at hf; cases hf
    | some d =>
      rw [h5] at hf
      cases hf
      refine ⟨F, O, ρ, ds, R, h1, fun F1 H1 vs R1 s1 t1 r1 => ?_⟩
      show spD X.K T ps.length φ (.od (.clo 1000)) (vs ++ []) H1 _ _
      rw [List.append_nil]
      refine ⟨by rw [r1.length]; exact hn _ _ h1, ds, d, R1.tb, r1, h5, fun H' v r => ?_⟩
      obtain ⟨F2, a, o, us, es, rfl, rfl, R2, s2, t2, hz, fa, hd, hw⟩ := ret_tz R1 r
      exact hq F2 O _ H' (s1.trans s2) (R2.setM hl ⟨.ref a, _, rfl, rfl, a, us, es, rfl, rfl, .inl ⟨rfl, hz, o, fa, hd⟩, hw⟩)
theorem de_vtz (i : Nat) (hm : Γ[i]? = some (.os (.clo 1000))) (h : PE X (.Name x pos) (tVar i)) : DE X T H0 Γ (.Name x pos) (eZt i) (.q q) := PE.wk h fun σ H Q ⟨F, O, ρ, d, R, hf, hq⟩ => by
  obtain ⟨v, d', h1, h2, a, ws, ds, rfl, rfl, hc, hw⟩ := R.sl i _ hm
  obtain ⟨hz, o, ha, hd⟩ := hc.tz
  unfold eZt at hf
  rw [h2] at hf
  dsimp only at hf
  split at hf
  · rename_i hl
    cases hf
    exact ⟨_, h1, hq F H _ R (.refl _) (.refl _) (RepG.tup (.inr ⟨hz, o, ha⟩) (RepsG.ats hw hl))⟩
  · cases hf
theorem de_tindex (i : Nat) (hm : Γ[i]? = some (.os (.clo 1000))) (h : PE X (.Name x pos) (tVar i)) (ha : DE X T H0 Γ a fa ka)
    (hbase : attributeBase (.Name x pos) "index" X.env (eval (.Name x pos) X.env) = eval (.Name x pos) X.env := by rfl)
    (hfew : ((backTo cpos (starEach [a] X.env)).all (fun x => !x.1) && (backToKw cpos (keywordEach [] X.env)).all (fun x => x.1.isSome)
      && decide ([a].length + ([] : List Keyword).length + (if ([] : List Keyword).isEmpty then 0 else 1) < 30)) = true := by rfl)
    (hline : (apos.endLine == cpos.line) = true := by rfl) (hs : starEach [a] X.env = (false, eval a X.env) :: starEach [] X.env := by rfl) (hpl : (backTo cpos (starEach [] X.env)).any (·.1) = false := by rfl) :
    DE X T H0 Γ (.Call (.Attribute (.Name x pos) "index" apos) [a] [] cpos) (e2 gTix (eZt i) fa) (.q q) :=
  PE.wk (pe_mG ty_tz PySem.F.plainAttrs_tuple PySem.F.slot_tuple_index PySem.F.type_tuple_index mt_tix h (pa_cons ha pa_nil hs) hbase hfew hline hs hpl) fun σ H Q ⟨F, O, ρ, d, R, hf, hq⟩ => by
    obtain ⟨v, d', h1, h2, a1, ws, ds, rfl, rfl, hc, hw⟩ := R.sl i _ hm
    obtain ⟨hz, o, hA, hd⟩ := hc.tz
    unfold e2 eZt at hf
    rw [h2] at hf
    dsimp only at hf
    split at hf
    · rename_i hl
      simp only [Option.bind_some] at hf
      cases h3 : fa ρ with
      | none => rw [h3] at hf; cases hf
      | some y =>
        rw [h3] at hf
        simp only [Option.bind_some] at hf
        cases y with
        | int k =>
          have hf : ((intsOf ds).bind fun ns => if k ∈ ns then some (D.int (ns.idxOf k : Nat)) else none) = some d := hf
          cases h4 : intsOf ds with
          | none => rw [h4] at hf; cases hf
          | some ns =>
            rw [h4] at hf
            simp only [Option.bind_some] at hf
            split at hf
            · rename_i hk
              cases hf
              have := intsOf_eq h4
              subst this
              have ew := hw.ints
              subst ew
              refine ⟨_, h1, ⟨a1, o, _, rfl, R.fh _ _ hA, hd⟩, F, O, ρ, _, R, h3, fun F1 H1 v R1 s1 t1 r1 => ?_⟩
              rw [r1.int]
              exact ⟨a1, ns, k, rfl, rfl, .inl (.inr ⟨o, R1.fh _ _ (s1 _ _ hA)⟩), hk, hq F1 H1 _ R1 s1 t1 (RepG.int _)⟩
            · cases hf
        | _ => cases hf
    · cases hf
def tDAZ (K : PySem.W.Frag) (T : Tb) (H0 : HZ) (Γ : List Mode) (i : Nat) (f : List D → Option (List D)) : TA := fun σ H Q =>
  ∃ F O ρ ds, Rl K T H0 Γ F O σ H ρ ∧ f ρ = some ds ∧ ∀ F' H' vs, Rl K T H0 Γ F' O σ H' ρ → Same F F' → Sm H H' → (∃ a ws es vs' ds' o, vs = .ref a :: vs' ∧ ds = .tup es :: ds' ∧ F' a = some (.frz o (.tup ws)) ∧ o.dict = none ∧ RUs K T H' ws es ∧ RUs K T H' vs' ds') → Q vs H'
theorem daz_here (i : Nat) (hm : Γ[i]? = some (.os (.clo 1000))) (h : PE X (.Name x pos) (tVar i)) (hr : DA X T H0 Γ es fs) (hs : starEach (.Name x pos :: es) X.env = (false, eval (.Name x pos) X.env) :: starEach es X.env := by rfl) : PA X (.Name x pos :: es) (tDAZ X.K T H0 Γ i (aCons (eZt i) fs)) :=
  PA.wk (pa_cons h hr hs) fun σ H Q ⟨F, O, ρ, ds, R, hf, hq⟩ => by
    obtain ⟨v, d', h1, h2, a1, ws, es, rfl, rfl, hc, hw⟩ := R.sl i _ hm
    obtain ⟨hz, o, hA, hd⟩ := hc.tz
    unfold aCons eZt at hf
    rw [h2] at hf
    dsimp only at hf
    split at hf
    · simp only [Option.bind_some] at hf
      cases h3 : fs ρ with
      | none => rw [h3] at hf; cases hf
      | some xs =>
        rw [h3] at hf
        cases hf
        exact ⟨_, h1, F, O, ρ, xs, R, h3, fun F2 H2 vs R2 s2 t2 r2 => hq F2 H2 _ R2 s2 t2 ⟨a1, ws, es, vs, xs, o, rfl, rfl, s2 _ _ hA, hd, (hw.mono s2 fun _ h => h).mono R2.fh fun _ h => h, r2⟩⟩
    · cases hf
theorem de_callZ {j i k : Nat} {f : Str} {ps : List Str} {φ : List D → Option D} (h : OkFZ X.prog X.w X.K X.mg X.base T j f ps φ) (hr : Room k X.A) (hg : Gl X f) (ha : PA X (e :: es) (tDAZ X.K T H0 Γ i fs)) (hn : ∀ ρ ds, fs ρ = some ds → ds.length = ps.length) (hj : j ≤ k := by decide)
    (hdb : (f == ("__debug__" : Str)) = false := by decide) (he : starEach (e :: es) X.env = (false, eval e X.env) :: starEach es X.env := by rfl) (hpl : (backTo pos (starEach es X.env)).any (·.1) = false := by rfl) :
    DE X T H0 Γ (.Call (.Name f po) (e :: es) [] pos) (eCall φ fs) (.q .A) := by
  obtain ⟨f, fd, h1, h2, h3, h4⟩ := h.ex
  refine PE.wk (pe_call h4 (hr.mono hj) hg h1 h2 h3 .nil pass0 ha hdb he hpl) ?_
  rintro σ H Q ⟨F, O, ρ, d, R, hf, hq⟩
  unfold eCall at hf
  cases h1 : fs ρ with
  | none => rw [h1] at hf; cases hf
  | some ds =>
    rw [h1] at hf
    simp only [Option.bind_some] at hf
    refine ⟨F, O, ρ, ds, R, h1, fun F1 H1 vs R1 s1 t1 ⟨a, ws, es', vs', ds', o, e1, e2, g1, g2, g3, g4⟩ => ?_⟩
    show spZ X.K T ps.length φ (vs ++ []) H1 Q _
    rw [List.append_nil]
    subst e1; subst e2
    refine ⟨?_, a, ws, es', vs', ds', d, o, rfl, R1.fh _ _ g1, g2, R1.tb, g3, g4, hf, fun H' v r => ?_⟩
    · have := hn _ _ h1
      have l := g4.length
      simp only [List.length_cons] at this ⊢
      omega
    · obtain ⟨F2, R2, s2, t2, r2⟩ := ret_in R1 r rfl
      exact hq F2 H' v R2 (s1.trans s2) (t1.trans t2) r2
end
end DL

namespace DL
open PySem PySem.Spec PyProof.Rows L2
section
variable {X : Cx} {pins : List (Addr × Obj)} {σ : L2.St} {H : Hp} {s : Shared} {a b : Addr} {kas : List NE} {k : NestedKey} {A : Around} {E : Value → Shared → Prop}
end
section
variable {X : Cx} {T : Tb} {H0 : HZ} {Γ : List Mode} {a : Expr} {fa : EF} {ka : Knd} {pos p0 : Pos} {q : Q3} {x : Str}
end
end DL

namespace DL
open PySem PySem.Spec PyProof.Rows L2 NdefX LamX
def spNX (K : PySem.W.Frag) (T : Tb) (n : Nat) (φ : List D → Option Res) (rk : RK) : List (Option V) → Sp := fun ws vs H Q E => vs.length = n ∧ ∃ (wv : List V) (ds wds : List D) (r : Res), ws = wv.map some ∧ Tabs T.t H ∧ RUs K T H vs ds ∧ RUs K T H wv wds ∧ φ (ds ++ wds) = some r ∧
  (∀ d, r = .rt d → ∀ H' v, RetOk K T (ntb H) H' rk v d → Q v H') ∧ ∀ c es, r = .ex c es → ∀ H' cls od, ExOk K T (ntb H) H' cls od c es → E cls od H'
structure OkNX (P : Program) (w : World) (K : PySem.W.Frag) (mg : Str → Option Value) (base : Heap) (T : Tb) (k kk : Nat) (ps : List Str) (φ : List D → Option Res) (rk : RK) : Prop where
  ok : ∀ (f : Addr) (cl : List (Str × Addr)) (c' : Addr), NOk P w K mg base (L2N.CX P w) k f (NF.of (T.n kk).st (T.n kk).name (T.n kk).qual cl c') ps (T.n kk).fr (spNX K T ps.length φ rk)
section
variable {P : Program} {w : World} {K : PySem.W.Frag} {mg : Str → Option Value} {base : Heap} {T : Tb}
theorem mk_oknx {nst : Stmt} {name qual : Str} {N ps fr : List Str} {pks : List PKn} {m k kk : Nat} {body : SF} {Γn : List Mode} {rk : RK} {nx : Bool} (hk : T.n kk = ⟨nst, name, qual, fr⟩) (S : NScope N ps fr (C8.fnScope nst)) (hN : N.length = pks.length + m) (hp : ps.length + fr.length = pks.length)
    (hbind : ∀ (cl : List (Str × Addr)) (c' : Addr) (doc pm ctv : Value) (us : List Value), us.length = ps.length → bindArgs ((NF.of nst name qual cl c').fd doc pm ctv) ⟨us, []⟩ = pure (ps.zip us))
    (hnx : nx = true → ∃ q, rk = .q q) (hb : ∀ (cl : List (Str × Addr)) (c' f : Addr) (A : Around) (outer : List Env) (s : Shared) (H : Hp) (E : XK), Room k (ncx (L2N.CX P w) P w K mg base N (NF.of nst name qual cl c') f A outer s H E).A → L2N.Takes (ncx (L2N.CX P w) P w K mg base N (NF.of nst name qual cl c') f A outer s H E) (fun cls od _ H' => E cls od H') →
      PassesOwn (model P w) (ncx (L2N.CX P w) P w K mg base N (NF.of nst name qual cl c') f A outer s H E).A (ncx (L2N.CX P w) P w K mg base N (NF.of nst name qual cl c') f A outer s H E).env (ncx (L2N.CX P w) P w K mg base N (NF.of nst name qual cl c') f A outer s H E).xe →
      DSs (ncx (L2N.CX P w) P w K mg base N (NF.of nst name qual cl c') f A outer s H E) T ⟨ntb H, 0, []⟩ (ms0 pks m) (C8.fnBody nst) body Γn (jx (pks.length + m) rk E)) :
    OkNX P w K mg base T (k + 1) kk ps (fnX pks m nx body) rk := by
  refine ⟨fun f cl c' => ?_⟩
  rw [hk]
  refine nok_of (N := N) S (hbind cl c') (fun ws vs H Q E h => h.1) fun A outer s H vs ws Q E hr hf hc hl h => ?_
  obtain ⟨hlv, wv, ds, wds, r, rfl, ht, r1, r2, hφ, hq, hx⟩ := h
  refine ⟨_, hb cl c' f A outer s H E hr (L2N.takes_of rfl rfl rfl rfl) (passes_of rfl), ?_⟩
  rw [startF_eq]
  unfold fnX at hφ
  split at hφ
  · rename_i hc
    cases h1 : body ((ds ++ wds) ++ List.replicate m .non) with
    | none => rw [h1] at hφ; cases hφ
    | some o =>
      rw [h1] at hφ
      simp only [Option.bind_some] at hφ
      refine ⟨ntb H, _, _, o, rl_start hN (r1.append r2) hc ht, h1, ?_⟩
      split at hφ
      · cases hφ
        exact fun H' v hv => hq _ rfl H' v hv
      · split at hφ
        · rename_i hnn
          cases hφ
          obtain ⟨q, rfl⟩ := hnx hnn
          exact fun F' O' σ' H' s R => hq _ rfl H' .non ⟨F', R.h0, R.fh, ⟨R.nF, R.tb⟩, .non⟩
        · cases hφ
      · cases hφ
        exact fun F' O' σ' H' cls od s R x => hx _ _ rfl H' cls od ⟨F', R.h0, R.fh, ⟨R.nF, R.tb⟩, x⟩
      · cases hφ
  · cases hφ
end
theorem cx_back {P : Program} {w : World} {outer : List Env} {S : Addr → Prop} {H : Hp} {s s' : Shared} {E : XK} {u : Value} (hS : ∀ b, S b → ∃ v, H b = some (CellO b v)) (hok : L2.HOk P w H s.heap) (frf : ∀ b ∈ frs outer, H b = none)
    (h : L2N.CX P w outer (cut H S) s (fun cls d H' => (∀ b, S b → H' b = none) → E cls d (back S H H')) u s') : L2N.CX P w outer H s E u s' := by
  obtain ⟨a, B, H', cls, d, ea, fl, hok', un, na, os, bare, q⟩ := h
  have ex : ∀ b, S b → ∃ v u, RelV v u ∧ H b = some (CellO b v) ∧ s.heap.IsCell b (some u) := fun b z => by
    obtain ⟨v, e⟩ := hS b z
    obtain ⟨⟨u, ru, hc⟩, _⟩ := hok b _ e
    exact ⟨v, u, ru, e, hc⟩
  have hn : ∀ b, S b → H' b = none := fun b z => by
    obtain ⟨v, u, _, _, o, ho, _⟩ := ex b z
    exact un.free b o ho (cut_in z)
  have up : ∀ b o, H' b = some o → back S H H' b = some o := fun b o e => back_of hn e
  have low : ∀ b o, H b = some o → (∀ φ, o ≠ .ext φ) → cut H S b = some o := fun b o e n => cutE (fun a z => by obtain ⟨v, e⟩ := hS a z; exact ⟨_, e⟩) e n
  have cutN : ∀ b, H b = none → cut H S b = none := fun b e => by
    unfold cut
    split
    · rfl
    · exact e
  have inB : ∀ b, S b → ∃ v u ob, RelV v u ∧ H b = some (CellO b v) ∧ B.get? b = some ob ∧ ob.data = .cell (some u) := fun b z => by
    obtain ⟨v, u, ru, e2, ob, ho, hd⟩ := ex b z
    have hb : b ∉ frs outer := fun hb => by rw [frf b hb] at e2; cases e2
    exact ⟨v, u, ob, ru, e2, un.keep b ob ho (cut_in z) hb, hd⟩
  refine ⟨a, B, back S H H', cls, d, ea, fl, fun b o e => ?_, ⟨fun b o e n hb => un.keep b o e (cutN b n) hb, fun b o e hb => un.slot b o e hb, fun b o e n => ?_, un.there, fun b xs e => up _ _ (un.tups b xs (low _ _ e fun _ z => by cases z)),
    fun b o u e => up _ _ (un.frzs b o u (low _ _ e fun _ z => by cases z)), fun b ps e => ?_⟩, ?_, os, bare, q hn⟩
  · by_cases z : S b
    · rw [back_in' z] at e
      obtain ⟨v, u, ob, ru, e2, ho, hd⟩ := inB b z
      rw [e2] at e
      cases e
      exact ⟨⟨u, ru, ob, ho, hd⟩, ⟨_, ho⟩, fun h1 h2 ⟨u2, r2, ob2, ho2, hd2⟩ st => ⟨u2, r2, ob2, st _ ho2, hd2⟩⟩
    · rw [back_out z] at e
      exact (hok' b o e).stay (fun _ _ _ q => q) (fun _ q => up _ _ q) fun _ _ q => up _ _ q
  · by_cases z : S b
    · rw [back_in' z]; exact n
    · rw [back_out z]; exact un.free b o e (cutN b n)
  · obtain ⟨more, z⟩ := un.tbls b ps (low _ _ e fun _ z => by cases z)
    exact ⟨more, up _ _ z⟩
  · by_cases z : S a
    · obtain ⟨v, u, ob, _, _, ho, _⟩ := inB a z
      rw [fl.2.1] at ho
      cases ho
    · rw [back_out z]; exact na
def xClo (i : Nat) (φ : List D → Option Res) (fs : List D → Option (List D)) : XF := fun ρ => (fs ρ).bind fun ds => match ρ[i]? with
  | some (.tup wds) => φ (ds ++ wds)
  | _ => none
section
variable {X : Cx} {T : Tb} {H0 : HZ} {Γ Γ1 Γn : List Mode} {J : Jm} {e a b : Expr} {es : List Expr} {fe fa fb : EF} {k ka kb : Knd} {pos po pos' p0 : Pos} {q p : Q3} {fs : List D → Option (List D)} {x : Str} {W : WX}
theorem dx_clo {j r kk : Nat} {ps : List Str} {φ : List D → Option Res} (i : Nat) (hm : Γ[i]? = some (.os (.clo kk))) (h : OkNX X.prog X.w X.K X.mg X.base T j kk ps φ (.q .A)) (tk : L2N.Takes X W) (hr : Room r X.A) (hN : X.N[i]? = some x) (hv : Vis X.env.scope x)
    (ha : DA X T H0 Γ (e :: es) fs) (hn : ∀ ρ ds, fs ρ = some ds → ds.length = ps.length) (hj : j ≤ r := by decide)
    (hd : (x == ("__debug__" : Str)) = false := by decide) (hcd : (x == ("__classdict__" : Str)) = false := by decide)
    (he : starEach (e :: es) X.env = (false, eval e X.env) :: starEach es X.env := by rfl) (hpl : (backTo pos (starEach es X.env)).any (·.1) = false := by rfl) (hk0 : kk ≠ 1000 := by decide) :
    DX X T H0 Γ (.Call (.Name x p0) (e :: es) [] pos) (xClo i φ fs) (.q .A) W := by
  refine ⟨fun pins s σ H Q I ⟨F, O, ρ, r, R, hf, hq, hxx⟩ => ?_⟩
  obtain ⟨v, dd, h1, h2, f, ws, wds, rfl, rfl, hc, hw⟩ := R.sl i _ hm
  have hc := hc.old hk0
  unfold xClo at hf
  cases h3 : fs ρ with
  | none => rw [h3] at hf; cases hf
  | some ds =>
    rw [h3] at hf
    simp only [Option.bind_some, h2] at hf
    have hcH : ∀ {F1 H1 : Hp}, Same F F1 → Same F1 H1 → ClB T H1 f kk ws := fun {F1 H1} s1 s2 => hc.move fun b o z _ => s2 b o (s1 b o z)
    have fnAt : ∀ {H1 : Hp} {s1 : Shared}, Inv X pins σ H1 s1 → ClB T H1 f kk ws → PySem.W.FnAt f s1.heap := fun {H1 s1} I1 ⟨cl, c', f1, _⟩ => fnAt_of I1 f1
    refine wpAny_Call_Name_kw (thn ((pe_var (pos := p0) hN hv hd hcd).run pins s σ H (fun v H1 => v = .ref f ∧ H1 = H) I ⟨.ref f, h1, rfl, rfl⟩) fun u s1 ⟨v, H1, I1, r1, q1⟩ => ?_)
    obtain ⟨ev, eH⟩ := q1
    subst ev; subst eH
    obtain rfl : u = Value.ref f := r1
    refine PySem.W.callWith_F (first := []) (fnAt I1 (hcH (.refl _) R.fh)) (thn (ha.run pos pins s1 σ H1 (fun vs H2 => ∃ F1, Rl X.K T H0 Γ F1 O σ H2 ρ ∧ Same F F1 ∧ Sm H1 H2 ∧ RUs X.K T H2 vs ds) I1 ⟨F, O, ρ, ds, R, h3, fun F1 H2 vs R1 s1 t1 r1 => ⟨F1, R1, s1, t1, r1⟩⟩) fun us s2 ⟨vs, H2, I2, rv, F1, R1, s1', t1, ru⟩ => ?_) he hpl
    have hc2 := hcH s1' R1.fh
    refine ⟨fnAt I2 hc2, ?_⟩
    show wpAny _ _ (call (.ref f) us) _ _ _
    obtain ⟨cl, c', f1, f2, len, inj, all, has⟩ := hc2
    let S : Addr → Prop := fun b => ∃ y, cl.lookup y = some b
    have hS : ∀ b, S b → ∃ v, H2 b = some (CellO b v) := fun b ⟨y, z⟩ => all y b z
    have cellAt : ∀ b, S b → ∃ u, s2.heap.IsCell b (some u) := fun b z => by
      obtain ⟨v, e⟩ := hS b z
      obtain ⟨⟨u, _, hc⟩, _⟩ := I2.hok b _ e
      exact ⟨u, hc⟩
    have hSx : ∀ b, S b → ∃ φ, H2 b = some (.ext φ) := fun b z => by obtain ⟨v, e⟩ := hS b z; exact ⟨_, e⟩
    have hE : ∀ b C od, H2 b = some (ExC b C od) → ¬ S b := fun b C od e z => by
      obtain ⟨u, o, ho, hd⟩ := cellAt b z
      obtain ⟨⟨oe, vs, g1, g2, g3, g4, _⟩, _⟩ := I2.hok b _ e
      rw [ho] at g1; cases g1; rw [hd] at g4; cases g4
    have nf : ¬ S f := fun z => by
      obtain ⟨u, o, ho, hd⟩ := cellAt f z
      obtain ⟨od, sl, doc, pm, ctv, g⟩ := fnO_at I2.hok f1
      rw [ho] at g; cases g; cases hd
    have nC : ∀ b q, H2 b = some (CodeO b q) → ¬ S b := fun b q e z => by
      obtain ⟨u, o, ho, hd⟩ := cellAt b z
      obtain ⟨⟨oc, vs, t, g1, g2, g3⟩, _⟩ := I2.hok b _ e
      rw [ho] at g1; cases g1
      rw [hd] at g2; cases g2
    have low : ∀ b o, H2 b = some o → (∀ φ, o ≠ .ext φ) → cut H2 S b = some o := fun b o e n => cutE hSx e n
    have cutN : ∀ b, H2 b = none → cut H2 S b = none := fun b e => by
      unfold cut
      split
      · rfl
      · exact e
    have cle : ∀ b o, cut H2 S b = some o → H2 b = some o := fun b o e => by
      unfold cut at e
      split at e
      · cases e
      · exact e
    have e2 := I2.env0
    have tabC : Tabs T.t (cut H2 S) := fun p hp => by
      obtain ⟨ps', g1, g2, g3⟩ := R1.tb p hp
      exact ⟨ps', low _ _ g1 (fun _ z => nomatch z), g2, fun pos cv hcv => by
        obtain ⟨c0, k1, k2⟩ := g3 pos cv hcv
        exact ⟨c0, k1, by rw [cut_out (nC _ _ k2)]; exact k2⟩⟩
    have env' : Env0 X.prog X.w X.K X.mg X.base X.A X.stack s2 (cut H2 S) := ⟨e2.frames, e2.mod, fun b o e => ⟨(e2.bs b o e).1, cutN _ (e2.bs b o e).2⟩, e2.bsz, e2.funs, fun b hb => cutN _ (e2.frf b hb), fun b o e =>
      (e2.hok b o (cle b o e)).stay (fun _ _ _ q => q) (fun _ q => low _ _ q fun _ z => nomatch z) (fun _ _ q => low _ _ q fun _ z => nomatch z), e2.bare⟩
    have cellsAt : CellsAt cl (T.n kk).fr (ws.map some) s2.heap (cut H2 S) := ⟨by rw [List.length_map, len], fun y c z => by
        obtain ⟨u, hc⟩ := cellAt c ⟨y, z⟩
        exact ⟨cut_in ⟨y, z⟩, _, hc⟩, inj, fun i y z => by
        obtain ⟨c, v, g1, g2, g3⟩ := has i y z
        refine ⟨c, g1, fun v' ev => ?_⟩
        rw [List.getElem?_map, g2] at ev
        cases ev
        obtain ⟨⟨u, ru, hc⟩, _⟩ := I2.hok c _ g3
        exact ⟨u, ru, hc⟩⟩
    have hwU : RUs X.K T H2 ws wds := hw.mono (fun b o z => R1.fh _ _ (s1' _ _ z)) fun _ h => h
    have rb : ∀ {Fc H' : Hp}, (∀ b, S b → H' b = none) → Same (ntb (cut H2 S)) Fc → Same Fc H' → NoT Fc → LamX.Tabs T.t H' → ∃ F3, Same (ntb H2) F3 ∧ Same F3 (back S H2 H') ∧ (NoT F3 ∧ LamX.Tabs T.t (back S H2 H')) ∧ Same Fc F3 := fun {Fc H'} hnn g1 g2 g3 g4 => by
      classical
      have up : ∀ b o, H' b = some o → back S H2 H' b = some o := fun b o e => back_of hnn e
      refine ⟨fun b => if S b then H2 b else Fc b, fun b o e => ?_, fun b o e => ?_, ⟨fun b o e => ?_, fun p hp => (g4 p hp).ext up⟩, fun b o e => ?_⟩
      · show (if S b then H2 b else Fc b) = some o
        split
        · exact ntb_le e
        · rename_i z
          exact g1 _ _ (ntb_some (by rw [cut_out z]; exact ntb_le e) (ntb_not e))
      · have e : (if S b then H2 b else Fc b) = some o := e
        split at e
        · rename_i z; rw [back_in' z]; exact e
        · exact up _ _ (g2 _ _ e)
      · have e : (if S b then H2 b else Fc b) = some o := e
        split at e
        · rename_i z
          obtain ⟨v', e'⟩ := hS b z
          rw [e'] at e; cases e; rfl
        · exact g3 _ _ e
      · show (if S b then H2 b else Fc b) = some o
        split
        · rename_i z
          have := g2 _ _ e
          rw [hnn b z] at this; cases this
        · exact e
    refine wpAny_call (codeAny_mono ((h.ok f cl c').run X.A X.stack s2 (cut H2 S) us vs (ws.map some) (fun v H' => (∀ b, S b → H' b = none) → Q v (back S H2 H')) (fun cls od H' => (∀ b, S b → H' b = none) → WE W σ cls od (back S H2 H')) (hr.mono hj) env' (by rw [cut_out nf]; exact f1) (by
        show cut H2 S c' = _
        rw [cut_out (nC _ _ f2)]; exact f2) cellsAt rv ⟨by rw [ru.length]; exact hn _ _ h3, ws, ds, wds, _, rfl, tabC, RepsG.cutS hSx hE ru, RepsG.cutS hSx hE hwU, hf, fun d hd H' v ret hnn => ?_, fun c es hd H' cls od exo hnn => ?_⟩) fun r s' hq' => ?_)
    · obtain ⟨Fc, g1, g2, ⟨g3, g4⟩, g5⟩ := ret
      obtain ⟨F2, R2, s3, t2, r2⟩ := ret_in (rk := .q .A) R1 (rb hnn (fun b o e => g1 _ _ e) g2 g3 g4 |>.elim fun F3 z => ⟨F3, z.1, z.2.1, z.2.2.1, g5.mono z.2.2.2 fun _ h => h⟩) rfl
      exact hq d hd F2 _ v R2 (s1'.trans s3) (t1.trans t2) r2
    · obtain ⟨Fc, g1, g2, ⟨g3, g4⟩, g5⟩ := exo
      obtain ⟨F2, R2, s3, r2⟩ := ex_in (cls := cls) (od := od) (c := c) (es := es) R1 (rb hnn (fun b o e => g1 _ _ e) g2 g3 g4 |>.elim fun F3 z => ⟨F3, z.1, z.2.1, z.2.2.1, g5.mono z.2.2.2⟩)
      exact hxx c es hd F2 _ cls od R2 (s1'.trans s3) r2
    · cases r with
      | error e => exact L2N.passAt tk σ pins H2 s2 e s' I2 (cx_back hS I2.hok I2.stkFree hq')
      | ok fl =>
        cases fl with
        | ret u => exact I2.after (ce_back hS I2.hok I2.stkFree hq')
        | next => exact False.elim hq'
        | brk => exact False.elim hq'
        | cont => exact False.elim hq'
end
end DL

namespace DL
open PySem PySem.Spec PyProof.Rows L2 NdefX LamX
section
variable {X : Cx} {pins : List (Addr × Obj)} {σ : L2.St} {H HZ : Hp} {s s1 : Shared}
def lamN (X : Cx) (A : Around) (outer : List Env) (s : Shared) (H : Hp) (E : XK) (scope : Scope) (f c' : Addr) : Cx :=
  { lamCx X A outer s H E scope f c' with xe := fun e s' => wpAny (model X.prog X.w) (A.deeper (lamEnv X scope s.heap.objs.size f c')) (leaving (lamEnv X scope s.heap.objs.size f c') e) (fun _ s'' => L2N.CX X.prog X.w outer H s E e s'') (fun e' s'' => L2N.CX X.prog X.w outer H s E e' s'') s' }
theorem inv_xeN {xe : Value → Shared → Prop} (J : Inv X pins σ H s) : Inv { X with xe := xe } pins σ H s := by
  obtain ⟨⟨a1, a2, a3, a4, a5, a6, a7, a8, a9, a10, a11, a12, a13, a14, a15, a16, a17, a18⟩, b2, b3, b4, b5, b6, b7, b8, b9, b10, b11⟩ := J
  exact ⟨⟨a1, a2, a3, a4, a5, a6, a7, a8, a9, a10, a11, a12, a13, a14, a15, a16, a17, a18⟩, b2, b3, b4, b5, b6, b7, b8, b9, b10, b11⟩
theorem pe_actS {CXg : CXT} {Eg : XK} {Ng : List Str} {qg : Str} {sg : Scope} {g f c' : Addr} {cdg pm ctv : Value} {params : Arguments} {body : Expr} {scope : Scope} {k i : Nat} {a : Str} {pn : List (Addr × Obj)} {xe : Value → Shared → Prop} {W : WX} {tb : XK → TE} {p1 p2 : Pos}
    (I : Inv X pins σ H s) (L : LamS X.env.scope scope) (hf : s.heap.get? f = some (PySem.W.kla_obj "<lambda>" (X.env.qual ++ "<lambda>") params body scope (cloFrom X.env.cells scope.names []) pm c' ctv)) (hfn : H f = none) (hfr : f ∉ frs X.stack)
    (hbind : bindArgs (PySem.W.kla_fn "<lambda>" (X.env.qual ++ "<lambda>") params body scope (cloFrom X.env.cells scope.names []) pm (.ref c') ctv) ⟨[], []⟩ = pure [])
    (tk : L2N.Takes ((cxOf CXg X.prog X.w X.K X.mg X.base Ng qg sg g cdg X.A X.stack s H Eg).tr pn xe) W) (hr : Room (k + 1) (X.A.deeper (envOfC qg sg s.heap.objs.size g cdg)))
    (hbody : ∀ (A : Around) (outer : List Env) (s : Shared) (H : Hp) (E : XK), Room k (A.deeper (lamEnv X scope s.heap.objs.size f c')) → PE (lamN X A outer s H E scope f c') body (tb E))
    (hN : Ng[i]? = some a) (hv : Vis sg a) (hd : (a == ("__debug__" : Str)) = false := by decide) (hcd : (a == ("__classdict__" : Str)) = false := by decide) :
    PE ((cxOf CXg X.prog X.w X.K X.mg X.base Ng qg sg g cdg X.A X.stack s H Eg).tr pn xe) (.Call (.Name a p1) [] [] p2)
      (fun σZ HZ Q => σZ[i]? = some (some (.ref f)) ∧ HZ c' = some (CodeO c' (X.env.qual ++ "<lambda>")) ∧ tb (WE W σZ) σ HZ Q) := by
  refine ⟨fun pinsZ sZ σZ HZ Q IZ h => ?_⟩
  obtain ⟨hs, hc, ht⟩ := h
  refine wpAny_Call_Name_kw (thn ((pe_var (pos := p1) (i := i) hN hv hd hcd).run pinsZ sZ σZ HZ (fun v H1 => v = .ref f ∧ H1 = HZ) IZ ⟨.ref f, hs, rfl, rfl⟩) fun u s1 ⟨v, H1, I1, r1, q1⟩ => ?_)
  obtain ⟨ev, eH⟩ := q1
  subst ev
  rw [eH] at I1
  obtain rfl : u = Value.ref f := r1
  have of1 : s1.heap.get? f = some (PySem.W.kla_obj "<lambda>" (X.env.qual ++ "<lambda>") params body scope (cloFrom X.env.cells scope.names []) pm c' ctv) := I1.base.keep f _ hf hfn hfr (fun z => nomatch (show f ∈ ([] : List Addr) from z))
  refine PySem.W.callWith_F0 ⟨_, _, _, _, of1⟩ ?_
  have un : Un (frs X.stack) [] H HZ s.heap s1.heap := I1.base
  obtain ⟨⟨oc, vs, t, hoc, hdc, hvc⟩, _, _⟩ := I1.hok c' _ hc
  have rc : codeAny (model X.prog X.w) (X.A.deeper (envOfC qg sg s.heap.objs.size g cdg)) (.call (.ref f) ⟨[], []⟩) (CR (L2N.CX X.prog X.w) (envOfC qg sg s.heap.objs.size g cdg :: X.stack) X.prog X.w HZ s1 Q (WE W σZ)) s1 := by
    refine PySem.W.kla_callFunE hr.depth of1 rfl L.co L.gen rfl ⟨c', oc, vs, t, rfl, hoc, hdc, hvc⟩ ?_
    rw [hbind]
    refine wpAny_pure (wpAny_newFunctionEnv (fun y hy => (L.own y hy).2) (fun y hy => absurd hy (by simp)) (fun h₁ hns hsb => ⟨I1.nolimit.fresh _ hsb, ?_⟩) L.kind)
    show codeAny _ _ (.expr body (lamEnv X scope s1.heap.objs.size f c')) _ _
    have kp : ∀ b o, s1.heap.get? b = some o → h₁.get? b = some o := fun b o e => hsb.extBut b o (Nat.ne_of_lt (Heap.lt_size e)) (Heap.get?_push_of_some _ e)
    have J : Inv (lamN X (X.A.deeper (envOfC qg sg s.heap.objs.size g cdg)) (envOfC qg sg s.heap.objs.size g cdg :: X.stack) s1 HZ (WE W σZ) scope f c') [] σ HZ { s1 with heap := h₁, toks := s1.toks + ([] : List (Str × Value)).length } :=
      inv_xeN (lam_start2 I L I1.env0 hr.hd un hns kp)
    refine PySem.W.kla_codeExpr (wpAny_mono ((hbody _ _ s1 HZ _ (hr.deeper _)).run [] _ _ HZ Q J ht) (fun v s' hq => ?_) fun e s' hq => hq)
    obtain ⟨w', H', J', rv, q⟩ := hq
    exact ⟨w', H', J'.os, J'.bare, J'.base, J'.hok, rv, q⟩
  refine wpAny_call (codeAny_mono rc fun r s' hq => ?_)
  cases r with
  | error e => exact L2N.passAt tk σZ pinsZ HZ s1 e s' I1 hq
  | ok fl =>
    cases fl with
    | ret u => exact I1.after hq
    | next => exact False.elim hq
    | brk => exact False.elim hq
    | cont => exact False.elim hq
end
def Gives2 (P : Program) (w : World) (K : PySem.W.Frag) (mg : Str → Option Value) (base : Heap) (k : Nat) (Ng : List Str) (x : Str) (sg : Scope) (g : Addr) (cdg : Value) (bg : List Stmt) (a : Str) (TT : (XK → Hp → VK → Prop) → Hp → VK → Prop) : Prop :=
  ∀ (A : Around) (stack : List Env) (q : Str) (f c' : Addr) (s : Shared) (H : Hp) (Q : VK) (tl : XK → Hp → VK → Prop), Room k (A.deeper (envOfC x sg s.heap.objs.size g cdg)) →
    (∀ (W : WX) (pn : List (Addr × Obj)) (xe : Value → Shared → Prop) (p1 p2 : Pos), L2N.Takes ((cxOf C8.CX0 P w K mg base Ng x sg g cdg A stack s H C8.E0).tr pn xe) W →
      PE ((cxOf C8.CX0 P w K mg base Ng x sg g cdg A stack s H C8.E0).tr pn xe) (.Call (.Name a p1) [] [] p2) (fun σZ HZ Q => σZ[0]? = some (some (.ref f)) ∧ HZ c' = some (CodeO c' q) ∧ tl (WE W σZ) HZ Q)) →
    H c' = some (CodeO c' q) → TT tl H Q →
    ∃ t, PSs (cxOf C8.CX0 P w K mg base Ng x sg g cdg A stack s H C8.E0).nox bg t ∧ t { nx := fun _ H' => Q .non H', rt := Q } (L2.start Ng [.ref f]) H
section
variable {X : Cx}
theorem pe_lamcall2 {T : List (Addr × Str)} {TT : (XK → Hp → VK → Prop) → Hp → VK → Prop} {x a : Str} {g c P : Addr} {k : Nat} {pg : Arguments} {bg : List Stmt} {sg : Scope} {dV kV doc pm cdv ct oc : Value} {an od : Option Addr} {osl : Array (Option Value)} {Ng : List Str}
    {params : Arguments} {body : Expr} {scope : Scope} {t : XK → TE} {p lpos pos : Pos} (hg : Gl X x) (hm : X.mg x = some (.ref g)) (hk : PySem.W.keepIn X.K (.ref g) = true)
    (lk : X.K.lookup g = some ⟨oc, od, .func (PySem.W.fnOf x x pg bg sg dV kV doc pm an cdv ct), osl⟩) (hcg : PySem.W.codeIn X.K cdv x = true) (hb : L2.Binds X.K (PySem.W.fnOf x x pg bg sg dV kV doc pm an cdv ct) [a] []) (Sg : FnScope Ng [a] sg) (hNg : Ng[0]? = some a) (hva : Vis sg a)
    (hG : Gives2 X.prog X.w X.K X.mg X.base (k + 1) Ng x sg g cdv bg a TT)
    (TB : TabB X.base X.mg c P) (hcode : X.env.code = .ref c) (hmT : (P, X.env.qual ++ "<lambda>") ∈ T) (hu : ∀ p ∈ T, p.1 = P → p.2 = X.env.qual ++ "<lambda>") (hr : Room (k + 2) X.A) (L : LamS X.env.scope scope) (hdef : defaultsOf params X.env = ([], []))
    (hbind : ∀ (q : Str) (cl : List (Str × Addr)) (pm cv ctv : Value), bindArgs (PySem.W.kla_fn "<lambda>" q params body scope cl pm cv ctv) ⟨[], []⟩ = pure [])
    (hbody : ∀ (A : Around) (outer : List Env) (s : Shared) (H : Hp) (E : XK) (f c' : Addr), Room k (A.deeper (lamEnv X scope s.heap.objs.size f c')) → PE (lamN X A outer s H E scope f c') body (t E))
    (hdb : (x == ("__debug__" : Str)) = false) (hd : (a == ("__debug__" : Str)) = false) (hcd : (a == ("__classdict__" : Str)) = false) :
    PE X (.Call (.Name x p) [.Lambda params body scope lpos] [] pos) (tLam T TT t) := by
  refine ⟨fun pins s σ H Q I h => ?_⟩
  obtain ⟨hT, h⟩ := h
  refine wpAny_Call_Name_kw (ld_glob I hg hm ?_ hdb)
  refine PySem.W.callWith_K (h₀ := X.base) I.ok.mod.kin hk ?_ (by rfl) (by rfl)
  show wpAny _ _ (spliced ((false, eval (.Lambda params body scope lpos) X.env) :: backTo pos (starEach [] X.env))) _ _ s
  refine Calls.spliced_cons (lam_make2 I TB hcode hmT hu hT hdef (L.has I.ok) fun f c' pm' ctv H1 s' I1 eN T1 hf hfn hfr hco => ?_)
  refine Calls.spliced_nil ⟨I1.kIn, ?_⟩
  have rc : codeAny (model X.prog X.w) X.A (.call (.ref g) ⟨[.ref f], []⟩) (CR C8.CX0 X.stack X.prog X.w H1 s' Q C8.E0) s' := by
    refine run_ofS (N := Ng) (ps := [a]) (us := [.ref f]) (vs := [.ref f]) lk hcg Sg hr I1.env0 (hb s' [.ref f] I1.kIn rfl) (.cons rfl .nil) rfl fun hr' => ?_
    obtain ⟨t', ht', hq'⟩ := hG X.A X.stack _ f c' s' H1 Q (fun E H' Q' => t E σ H' Q') hr' (fun W pn xe p1 p2 tk => pe_actS (i := 0) I1 L hf hfn hfr (hbind _ _ _ _ _) tk hr' (fun A outer s H E hr2 => hbody A outer s H E f c' hr2) hNg hva hd hcd) hco (h H1 eN T1)
    exact ⟨t', ht'.nox, hq'⟩
  refine wpAny_call (codeAny_mono rc fun r s2 hq => ?_)
  cases r with
  | error e => exact (show False from hq).elim
  | ok fl =>
    cases fl with
    | ret u => exact I1.after hq
    | next => exact False.elim hq
    | brk => exact False.elim hq
    | cont => exact False.elim hq
end
def cusDeed : Cus := ⟨fun z _ _ v d ws ds => v = .ref z ∧ d = .non ∧ ws = [] ∧ ds = [], fun _ _ h => h⟩
def TTd (K : PySem.W.Frag) (T : Tb) (φ : Res → Option D) : (XK → Hp → VK → Prop) → Hp → VK → Prop := fun tl H Q => ∃ r d, Tabs T.t H ∧
  (∀ (E : XK) (HZ : Hp) (Q' : VK), Sm H HZ → Tabs T.t HZ → (∀ d, r = .rt d → ∀ H' v, Sm HZ H' → Tabs T.t H' → RU K T H' v d → Q' v H') → (∀ c es, r = .ex c es → ∀ H' cls od, Sm HZ H' → Tabs T.t H' → ExR K T (ntb H') cls od c es → E cls od H') → tl E HZ Q') ∧
  φ r = some d ∧ ∀ H' v, RetOk K T (ntb H) H' (.q .A) v d → Q v H'
structure OkFL (P : Program) (w : World) (K : PySem.W.Frag) (mg : Str → Option Value) (base : Heap) (T : Tb) (k : Nat) (x : Str) (φ : Res → Option D) : Prop where
  ex : ∃ (g : Addr) (a : Str) (pg : Arguments) (bg : List Stmt) (sg : Scope) (dV kV doc pm cdv ct oc : Value) (an od : Option Addr) (osl : Array (Option Value)) (Ng : List Str),
    mg x = some (.ref g) ∧ PySem.W.keepIn K (.ref g) = true ∧ K.lookup g = some ⟨oc, od, .func (PySem.W.fnOf x x pg bg sg dV kV doc pm an cdv ct), osl⟩ ∧ PySem.W.codeIn K cdv x = true ∧
    L2.Binds K (PySem.W.fnOf x x pg bg sg dV kV doc pm an cdv ct) [a] [] ∧ FnScope Ng [a] sg ∧ Ng[0]? = some a ∧ Vis sg a ∧ (a == ("__debug__" : Str)) = false ∧ (a == ("__classdict__" : Str)) = false ∧ ∀ j, k ≤ j + 1 → Gives2 P w K mg base j Ng x sg g cdv bg a (TTd K T φ)
def fnL (m : Nat) (body : Res → SF) : Res → Option D := fun r => (body r (.non :: List.replicate m .non)).bind fun o => match o with
  | .rt d => some d
  | _ => none
theorem rl_startL {K : PySem.W.Frag} {T : Tb} {H : Hp} {m kd : Nat} {N : List Str} {f : Addr} (hN : N.length = m + 1) (hcu : T.cu kd = cusDeed) (ht : Tabs T.t H) :
    Rl K T ⟨ntb H, f, []⟩ (.os (.cus .A kd) :: List.replicate m .no) (ntb H) (fun _ _ => False) (L2.start N [.ref f]) H (.non :: List.replicate m .non) := by
  refine ⟨.refl _, fun b o e => ntb_le e, fun _ _ h => h.elim, fun _ _ _ h => h.elim, ?_, by simp, fun i md hm => ?_, fun b o e => ntb_not e, ht⟩
  · unfold L2.start; simp; omega
  · cases i with
    | zero =>
      simp at hm
      subst hm
      refine ⟨.ref f, .non, rfl, rfl, [], [], ?_, .nil⟩
      rw [hcu]
      exact ⟨rfl, rfl, rfl, rfl⟩
    | succ i =>
      rw [List.getElem?_cons_succ, List.getElem?_replicate] at hm
      split at hm
      · cases hm; trivial
      · cases hm
section
variable {P : Program} {w : World} {K : PySem.W.Frag} {mg : Str → Option Value} {base : Heap} {T : Tb}
theorem mk_okfl {x a : Str} {st : Stmt} {N : List Str} {m k kd : Nat} {body : Res → SF} {Γn : List Mode} (F : FtF K mg x x st [a]) (S : FnScope N [a] (defScope st)) (hN : N.length = m + 1) (hcu : T.cu kd = cusDeed) (hNa : N[0]? = some a) (hva : Vis (defScope st) a) (hda : (a == ("__debug__" : Str)) = false) (hca : (a == ("__classdict__" : Str)) = false)
    (hb : ∀ (f g : Addr) (cdv : Value) (A : Around) (outer : List Env) (s : Shared) (H : Hp) (r : Res), Room k (bodyX P w K mg base N x st g cdv A outer s H C8.E0).A →
      (∀ (W : WX) (pn : List (Addr × Obj)) (xe : Value → Shared → Prop) (p1 p2 : Pos) (Γ : List Mode), L2N.Takes ((bodyX P w K mg base N x st g cdv A outer s H C8.E0).tr pn xe) W → Γ[0]? = some (.os (.cus .A kd)) → DX ((bodyX P w K mg base N x st g cdv A outer s H C8.E0).tr pn xe) T ⟨ntb H, f, []⟩ Γ (.Call (.Name a p1) [] [] p2) (fun _ => some r) .B W) →
      DSs (bodyX P w K mg base N x st g cdv A outer s H C8.E0) T ⟨ntb H, f, []⟩ (.os (.cus .A kd) :: List.replicate m .no) (defBody st) (body r) Γn (jm (.q .A))) :
    OkFL P w K mg base T (k + 1) x (fnL m body) := by
  obtain ⟨g, fd, ⟨⟨oc, od, kV, doc, pm, an, cdv, ct, osl, rfl, lk, hcd⟩, kp⟩, h2, h3⟩ := F.ex
  refine ⟨g, a, _, _, _, .none, kV, doc, pm, cdv, ct, oc, an, od, osl, N, h3, kp, lk, hcd, h2, S, hNa, hva, hda, hca, fun j hj A stack q f c' s H Q tl hr act hc ⟨r, d, ht, hl, hφ, hq⟩ => ?_⟩
  have hr : Room k (A.deeper (envOfC x (defScope st) s.heap.objs.size g cdv)) := hr.mono (by omega)
  refine ⟨_, hb f g cdv A stack s H r hr fun W pn xe p1 p2 Γ tk hΓ => ?_, ?_⟩
  · refine PE.wk (act W pn xe p1 p2 tk) fun σZ HZ Qz ⟨F, O, ρ, r', R, hf, hq1, hx1⟩ => ?_
    have hf : some r = some r' := hf
    cases hf
    have sm : Sm H HZ := ⟨fun b o e n => R.fh _ _ (R.h0 _ _ (ntb_some e n))⟩
    obtain ⟨v, dd, g1, g2, ws, ds, g3, g4⟩ := R.sl 0 _ hΓ
    rw [hcu] at g3
    obtain ⟨e1, _, _, _⟩ := g3
    subst e1
    refine ⟨g1, sm _ _ hc, hl _ HZ Qz sm R.tb (fun d hd H' v sm' tb' ru => hq1 d hd F H' v (R.grow sm' tb') (.refl _) sm' ru) fun c es hd H' cls od sm' tb' x => ?_⟩
    have hT : ∀ a o, ntb H' a = some o → isMut o = false → ¬ ∃ i, O i a := by
      rintro b o e hm ⟨i, hi⟩
      obtain ⟨_, u, g5, g6⟩ := R.on i b hi
      have := ntb_le e
      rw [sm' _ _ g5 (isT_mut g6)] at this
      cases this
      rw [hm] at g6; cases g6
    have sF : Same F (cut (ntb H') fun b => ∃ i, O i b) := fun b o e => by
      rw [cut_out]
      · exact ntb_some (sm' _ _ (R.fh _ _ e) (R.nF _ _ e)) (R.nF _ _ e)
      · rintro ⟨i, hi⟩
        rw [(R.on i b hi).1] at e; cases e
    have nF : NoT (ntb H') := fun b o e => ntb_not e
    exact hx1 c es hd _ H' cls od ((R.grow sm' tb').more sF (fun b o e => by
      unfold cut at e
      split at e
      · cases e
      · exact ntb_le e) nF.cut fun i b hi => cut_in ⟨i, hi⟩) sF (x.cut hT)
  · unfold fnL at hφ
    cases h1 : body r (.non :: List.replicate m .non) with
    | none => rw [h1] at hφ; cases hφ
    | some o =>
      rw [h1] at hφ
      simp only [Option.bind_some] at hφ
      refine ⟨ntb H, _, _, o, rl_startL hN hcu ht, h1, ?_⟩
      split at hφ
      · cases hφ
        exact fun H' v hv => hq H' v hv
      · cases hφ
end
def noOwn : Mode → Bool
  | .no => true
  | .fz _ => true
  | .fl _ => true
  | .os (.clo _) => true
  | _ => false
theorem frozen_all {K : PySem.W.Frag} {T : Tb} {H0 : HZ} {Γ Γ' : List Mode} {F H : Hp} {O : Own} {σ : L2.St} {ρ : List D} (hw : wkAll Γ Γ' = true) (hn : Γ'.all noOwn = true) (R : Rl K T H0 Γ F O σ H ρ) : Rl K T H0 Γ' (ntb H) (fun _ _ => False) σ H ρ := by
  obtain ⟨F', O', s', R'⟩ := wk_of hw F O σ H ρ R
  have sF : Same F' (ntb H) := fun b o e => ntb_some (R'.fh _ _ e) (R'.nF _ _ e)
  refine ⟨R'.h0.trans sF, fun b o e => ntb_le e, fun _ _ h => h.elim, fun _ _ _ h => h.elim, R'.ls, R'.lr, fun i md hm => ?_, fun b o e => ntb_not e, R'.tb⟩
  have h := R'.sl i md hm
  have hno := List.all_eq_true.mp hn md (List.mem_of_getElem? hm)
  cases md with
  | no => trivial
  | fz k =>
    obtain ⟨v, d, h1, h2, h3⟩ := h
    exact ⟨v, d, h1, h2, sF.rq h3⟩
  | fl k =>
    obtain ⟨a, vs, ds, h1, h2, h3, h4⟩ := h
    exact ⟨a, vs, ds, h1, h2, sF _ _ h3, sF.rqs h4⟩
  | ow k => cases hno
  | os S =>
    cases S with
    | clo k =>
      obtain ⟨v, d, g1, g2, f, ws, ds, h1, h2, h3, h4⟩ := h
      exact ⟨v, d, g1, g2, f, ws, ds, h1, h2, h3.move (fun b o z _ => sF b o z), h4.mono sF fun _ h => h⟩
    | _ => cases hno
def eLam (φ : Res → Option D) (f : XF) : EF := fun ρ => (f ρ).bind φ
section
variable {X : Cx} {T : Tb} {H0 : HZ} {Γ Γ' : List Mode} {x : Str} {q : Q3} {kb : Knd}
theorem de_lam {j k : Nat} {c P : Addr} {φ : Res → Option D} {f : XF} {params : Arguments} {body : Expr} {scope : Scope} {p lpos pos : Pos} (h : OkFL X.prog X.w X.K X.mg X.base T j x φ) (hr : Room (k + 2) X.A) (hg : Gl X x) (TB : TabB X.base X.mg c P) (hcode : X.env.code = .ref c)
    (hmT : (P, X.env.qual ++ "<lambda>") ∈ T.t) (hu : ∀ p ∈ T.t, p.1 = P → p.2 = X.env.qual ++ "<lambda>") (L : LamS X.env.scope scope) (hdef : defaultsOf params X.env = ([], []))
    (hbind : ∀ (q : Str) (cl : List (Str × Addr)) (pm cv ctv : Value), bindArgs (PySem.W.kla_fn "<lambda>" q params body scope cl pm cv ctv) ⟨[], []⟩ = pure [])
    (he : ∀ (A : Around) (outer : List Env) (s : Shared) (H : Hp) (E : XK) (f0 c' : Addr), Room k (lamN X A outer s H E scope f0 c').A → L2N.Takes (lamN X A outer s H E scope f0 c') (fun cls od _ H' => E cls od H') → DX (lamN X A outer s H E scope f0 c') T H0 Γ' body f kb (fun cls od _ H' => E cls od H'))
    (hw : wkAll Γ Γ' = true) (hn : Γ'.all noOwn = true) (hj : j ≤ k + 2 := by decide) (hdb : (x == ("__debug__" : Str)) = false := by decide) :
    DE X T H0 Γ (.Call (.Name x p) [.Lambda params body scope lpos] [] pos) (eLam φ f) (.q .A) := by
  obtain ⟨g, a, pg, bg, sg, dV, kV, doc, pm, cdv, ct, oc, an, od, osl, Ng, h1, h2, h3, h4, h5, h6, h7, h8, h9, h10, hG⟩ := h.ex
  refine PE.wk (pe_lamcall2 (t := fun E => tDX X.K T H0 Γ' f kb (fun cls od _ H' => E cls od H')) hg h1 h2 h3 h4 h5 h6 h7 h8 (hG (k + 1) (by omega)) TB hcode hmT hu hr L hdef hbind (fun A outer s H E f0 c' hr' => he A outer s H E f0 c' hr' (L2N.takes_of rfl rfl rfl rfl)) hdb h9 h10) fun σ H Q ⟨F, O, ρ, d, R, hf, hq⟩ => ?_
  unfold eLam at hf
  cases h11 : f ρ with
  | none => rw [h11] at hf; cases hf
  | some r =>
    rw [h11] at hf
    simp only [Option.bind_some] at hf
    refine ⟨R.tb, fun H1 eN tb1 => ?_⟩
    have sm1 : Sm H H1 := ⟨fun b o e n => eN b o e fun ps z => by subst z; cases n⟩
    have R1 := R.grow sm1 tb1
    refine ⟨r, d, tb1, fun E HZ Q' sm2 tb2 hrt hex => ?_, hf, fun H' v ret => ?_⟩
    · refine ⟨_, _, ρ, r, frozen_all hw hn (R1.grow sm2 tb2), h11, fun d hd F' H' v R' s' t' r' => hrt d hd H' v t' R'.tb (R'.toB r'), fun c es hd F' H' cls od R' s' x => hex c es hd H' cls od ⟨fun b o e n => R'.fh _ _ (s' _ _ (ntb_some e n))⟩ R'.tb (x.mono fun b o e => ntb_some (R'.fh _ _ e) (R'.nF _ _ e))⟩
    · obtain ⟨F2, R2, s2, t2, r2⟩ := ret_in R1 ret rfl
      exact hq F2 H' v R2 s2 (sm1.trans t2) r2
end
end DL

namespace DL
open PySem PySem.Spec PyProof.Rows L2
theorem ka_f {K : PySem.W.Frag} {t c : Value} {cs : List Value} {r : Bool} (h : PySem.W.kitOne K t c = some false) (hr : PySem.W.kitAny K t cs = some r) : PySem.W.kitAny K t (c :: cs) = some r := kitAny_cons h (fun _ => hr) fun z => nomatch z
def rIsXT (K : PySem.W.Frag) : List V → Hp → VK → Prop := fun xs H Q => ∃ (a C : Addr) (od : Option Addr) (fs : List (Str × V)) (tp : Addr) (cs : List V) (us : List Value) (b : Bool), xs = [.ref a, .ref tp] ∧ H a = some (ExC a C od) ∧ XdAt H od fs ∧ L2.ExcC K C ∧ H tp = some (.tup cs) ∧ Paired ClsV cs us ∧ PySem.W.kitAny K (.ref C) us = some b ∧ Q (.bl b) H
theorem call_isXT {X : Cx} : CallR X (.builtin "isinstance") (rIsXT X.K) := by
  intro pins s σ H xs us Q I r h
  obtain ⟨a, C, od, fs, tp, cs, ws, b, rfl, ha, hx, T, hT, hcs, e, q⟩ := h
  obtain ⟨u1, u2, rfl, r1, r2⟩ := vals2 r
  cases (show u1 = Value.ref a from r1)
  cases (show u2 = Value.ref tp from r2)
  obtain ⟨oe, ob, J, _⟩ := exc_inst I ha hx
  obtain ⟨cd, hcd, _⟩ := PySem.W.any_some T.hd
  obtain ⟨_, its, rv, o, h1, h2, n, h3⟩ := (show ObjOk X.prog X.w H s.heap tp (.tup cs) from I.hok tp _ hT)
  have e3 := ClsV.all hcs rv
  subst e3
  obtain ⟨oc, odd, dt, sl⟩ := o
  simp only at h2 h3
  subst h2 h3
  exact PySem.W.kia_tup (PySem.W.kitx_exc (gt := none) (by rw [hcd]; rfl) T.hg T.hk T.hs T.ha T.hn T.ht T.hm) I.kIn J h1 e (fun z => nomatch z) fun tk => ⟨.bl b, H, I.tok tk, rfl, q⟩
def tCs : List V → TA
  | [] => tNil
  | c :: cs => tCons (tC c) (tCs cs)
theorem tCs_run {σ : L2.St} {H : Hp} : ∀ {cs : List V} {Q : List V → Hp → Prop}, Q cs H → tCs cs σ H Q
  | [], Q, h => h
  | c :: cs, Q, h => tCs_run (cs := cs) (Q := fun vs H1 => Q (c :: vs) H1) h
section
variable {X : Cx} {T : Tb} {H0 : HZ} {Γ : List Mode} {a : Expr} {es : List Expr} {fa : EF} {ka : Knd} {pos po pt : Pos} {q : Q3}
theorem de_isT {n : Nat} {cs : List V} {cvs : List Value} {te : List (Nat × Bool)} (hg : Gl X "isinstance") (hm : X.mg "isinstance" = none) (hcs : Paired ClsV cs cvs) (hte : ∀ p ∈ te, L2.ExcC X.K (T p.1).1 ∧ PySem.W.kitAny X.K (.ref (T p.1).1) cvs = some p.2)
    (ha : DE X T H0 Γ a fa ka) (hb : PA X es (tCs cs)) (hlen : cs.length ≤ 64 := by exact Nat.le_of_ble_eq_true rfl)
    (hs : starEach [a, .Tuple es n pt] X.env = (false, eval a X.env) :: starEach [.Tuple es n pt] X.env := by rfl) (hs2 : starEach [.Tuple es n pt] X.env = (false, eval (.Tuple es n pt) X.env) :: starEach [] X.env := by rfl) (hpl : (backTo pos (starEach [.Tuple es n pt] X.env)).any (·.1) = false := by rfl) :
    DE X T H0 Γ (.Call (.Name "isinstance" po) [a, .Tuple es n pt] [] pos) (e1 (gIsC [] te none) fa) (.q q) :=
  PE.wk (pe_callB call_isXT hg hm (by decide +kernel) (pa_cons ha (pa_cons (pe_tup hb) pa_nil hs2) hs) (he := hs) (hpl := hpl)) (by
    rintro σ H Q ⟨F, O, ρ, d, R, hf, hq⟩
    unfold e1 at hf
    cases h1 : fa ρ with
    | none => rw [h1] at hf; cases hf
    | some x =>
      rw [h1] at hf
      simp only [Option.bind_some] at hf
      refine ⟨F, O, ρ, x, R, h1, fun F1 H1 v R1 s1 t1 r1 => tCs_run ⟨big6 (by omega), fun p hp => ?_⟩⟩
      obtain ⟨R2, s2, t2⟩ := R1.laid (o := .tup cs) hp
      have rv := t2.rU (R1.toB r1)
      have hq1 : ∀ w, Rp X.K T H0 _ _ O (.q q) w d → Q w _ := fun w hw => hq _ _ w R2 (s1.trans s2) (t1.trans t2) hw
      cases rv with
      | @exn a c od fs ds h2 h3 h4 h5 =>
        have hf : (te.lookup c).map D.bl = some d := hf
        cases hb : te.lookup c with
        | none => rw [hb] at hf; cases hf
        | some b =>
          rw [hb] at hf; cases hf
          obtain ⟨Z, z⟩ := hte _ (lookup_mem hb)
          exact ⟨a, _, od, fs, p, cs, cvs, b, rfl, h2, h3, Z, upd_same, hcs, z, hq1 _ (RepG.bl b)⟩
      | non => cases hf
      | ins _ _ _ _ => cases hf
      | bl _ => cases hf
      | int _ => cases hf
      | str _ => cases hf
      | tup _ _ => cases hf
      | lst _ _ _ => cases hf
      | scr _ _ => cases hf
      | dic _ _ _ => cases hf
      | dit _ _ _ => cases hf)
end
theorem tabs_nd {l : List (Addr × Str)} (nd : (l.map Prod.fst).Nodup) {P : Addr} {q : Str} (h : (P, q) ∈ l) : ∀ p ∈ l, p.1 = P → p.2 = q := fun p hp e => by
  induction l with
  | nil => cases h
  | cons x l ih =>
    rw [List.map_cons, List.nodup_cons] at nd
    rcases List.mem_cons.mp h with h | h <;> rcases List.mem_cons.mp hp with hp | hp
    · rw [hp, ← h]
    · exact absurd (List.mem_map.mpr ⟨p, hp, by rw [e, ← h]⟩) nd.1
    · exact absurd (List.mem_map.mpr ⟨_, h, by rw [← e, hp]⟩) nd.1
    · exact ih nd.2 h hp
theorem FtT.toF {K : PySem.W.Frag} {mg : Str → Option Value} {x qual : Str} {st : Stmt} {ps : List Str} {c P : Addr} (F : FtT K mg x qual st ps c P) : FtF K mg x qual st ps := by
  obtain ⟨f, oc, od, kV, doc, pm, an, ct, osl, lk, hcd, kp, bd, hmg⟩ := F.ex
  exact ⟨f, _, ⟨⟨oc, od, kV, doc, pm, an, _, ct, osl, rfl, lk, hcd⟩, kp⟩, bd, hmg⟩
end DL

namespace DL
open PySem PySem.Spec PyProof.Rows L2 HotX
section
variable {prog : Program} {w : World} {A : Around} {E : Value → Shared → Prop} {s : Shared}
theorem pyNext_list_end_hot {it l x1 : Addr} {i : Nat} {items : Array Value} {Q : Option Value → Shared → Prop} (hot : HotAt A x1 s.heap)
    (hit : s.heap.IsListIter it l i) (hl : s.heap.IsList l items) (hx : items[i]? = none)
    (hQ : ∀ h', Heap.ExtBut it s.heap h' → Q none { s with heap := h' }) : wpAny (model prog w) A (pyNext (.ref it)) Q E s := by
  obtain ⟨o, ho, hc, hd⟩ := id hit
  obtain ⟨ol, hol, _, nl, hdl⟩ := hl
  obtain ⟨hh, o1, vs1, h1, d1, c1⟩ := hot
  have hne : it ≠ x1 := fun z => by
    subst z
    rw [ho] at h1
    cases h1
    rw [hd] at d1
    cases d1
    simp at c1
  unfold pyNext
  refine wpAny_bind (wpAny_attempt (wpAny_callSpecial?_slot (name := Str.ofString "__next__") hit.typeIs slot_listiter_next
    (wpAny_call_entry slot_listiter_next hit.typeIs entry_listiter_next ?_ (args_listiter_next _))))
  show wpAny _ _ (field (.ref it) 0 >>= _) _ _ s
  refine wpAny_bind (wpAny_field ho hd (x := .ref l) rfl ?_)
  show wpAny _ _ (if (Value.ref l == Value.none) = true then _ else _) _ _ s
  rw [if_neg (show ¬ ((Value.ref l == Value.none) = true) from Bool.false_ne_true)]
  show wpAny _ _ (field (.ref it) 1 >>= _) _ _ s
  refine wpAny_bind (wpAny_field ho hd (x := .int i 0) rfl ?_)
  show wpAny _ _ (seqItems? (.ref l) >>= _) _ _ s
  refine wpAny_bind (wpAny_seqItems hol hdl ?_)
  simp only [Int.toNat_natCast, hx]
  refine wpAny_bind (wpAny_rule (wpAny_bind (wpAny_setField ho hd (by simp) ?_)))
  show wpAny _ _ (newExc (.type "StopIteration") [] >>= _) _ _ _
  refine wpAny_bind ?_
  simp only [newExc, newTuple]
  refine wpAny_bind (wpAny_newObj_type ?_ (by size_fits))
  refine wpAny_bind (m := firstArgMember _ _) (wpAny_of_eq (a := Value.none) (by first | rfl | (simp only [firstArgMember]; rfl)) ?_)
  refine wpAny_newObj_type ?_ (by size_fits)
  have h1' := (Heap.get?_update_other s.heap (Obj.mapFields fun x => x.setIfInBounds 0 Value.none) hne).trans h1
  refine raiseNew_hot ⟨hh, o1, vs1, Heap.get?_push_of_some _ (Heap.get?_push_of_some _ h1'), d1, c1⟩ (Nat.ne_of_lt (Heap.lt_size (Heap.get?_push_of_some _ h1'))) (Heap.get?_push_size _ rfl) rfl (by first | (simp; done) | (simp; omega) | (simp only [Array.size_append]; simp; omega)) ?_
  refine wpAny_bind (wpAny_isInstance (T := "StopIteration") (b := true) ⟨_, Heap.get?_update_self _ (Heap.get?_push_size _ rfl) rfl, rfl⟩ isSubtype_stop ?_)
  refine wpAny_pure (hQ _ ?_)
  intro b o hb e
  have e1 := (Heap.get?_update_other s.heap (Obj.mapFields fun x => x.setIfInBounds 0 Value.none) (Ne.symm hb)).trans e
  exact (Heap.get?_update_other _ _ (Nat.ne_of_gt (Heap.lt_size (Heap.get?_push_of_some _ e1)))).trans (Heap.get?_push_of_some _ (Heap.get?_push_of_some _ e1))
theorem iter_ne {h : Heap} {I ax x1 : Addr} {i : Nat} {o1 : Obj} {vs1 : Array Value} (hit : h.IsListIter I ax i) (h1 : h.get? x1 = some o1) (d1 : o1.data = .fields vs1) (c1 : vs1[2]? = some .none) : x1 ≠ I := fun z => by
  subst z
  obtain ⟨o, ho, hc, hd⟩ := hit
  rw [ho] at h1
  cases h1
  rw [hd] at d1
  cases d1
  simp at c1
theorem walks_list_hot {x1 : Addr} {o1 : Obj} {vs1 : Array Value} (hh : A.handled = some (.ref x1)) (d1 : o1.data = .fields vs1) (c1 : vs1[2]? = some .none) (I ax : Addr) (hne : ax ≠ I) (items : Array Value) :
    Walks prog w A I [I, ax, x1] [I] items.size (fun i v => items[i]? = some v) (fun i h => h.IsListIter I ax i ∧ h.IsList ax items ∧ h.get? x1 = some o1) where
  sub := fun b hb => by simp at hb; simp [hb]
  frame := fun _ _ _ st hk => ⟨st.1.at fun o e => hk I (by simp) o e, st.2.1.at fun o e => hk ax (by simp) o e, hk x1 (by simp) _ st.2.2⟩
  item := fun i s Q E hi st hQ => by
    refine wpAny_pyNext_list_item st.1 st.2.1 (x := items[i]) (by simp [hi]) fun h' hit' hs' => ?_
    exact hQ _ h' s.toks (by simp [hi]) ⟨hit', st.2.1.extBut hs'.extBut hne, hs'.extBut x1 _ (iter_ne st.1 st.2.2 d1 c1) st.2.2⟩ fun b o hb e => hs'.extBut b o (fun h => hb (by simp [h])) e
  done := fun s Q E st hQ => pyNext_list_end_hot ⟨hh, o1, vs1, st.2.2, d1, c1⟩ st.1 st.2.1 (by simp) fun h' he' => hQ h' s.toks fun b o hb e => he' b o (fun h => hb (by simp [h])) e
  self := fun _ _ _ _ st hQ => wpAny_pyIter_listiter st.1 hQ
end
section
variable {prog : Program} {w : World} {A : Around} {E : Value → Shared → Prop} {s : Shared} {l : Addr} {its : List Value} {ns : List Int} {Q : Value → Shared → Prop}
theorem sum_hot {x1 : Addr} {o1 : Obj} {vs1 : Array Value} (hh : A.handled = some (.ref x1)) (h1 : s.heap.get? x1 = some o1) (d1 : o1.data = .fields vs1) (c1 : vs1[2]? = some .none) (hl : s.heap.IsList l its.toArray) (hi : IntsAre its ns)
    (h : ∀ h' tk t', (∀ b o, s.heap.get? b = some o → h'.get? b = some o) → Q (.int ns.sum t') { s with heap := h', toks := tk }) : wpAny (model prog w) A (call (.builtin "sum") [.ref l]) Q E s := by
  obtain ⟨xs, e⟩ := hi.allInts.items
  have hn : numsOf (intItems xs).toList = ns := by rw [← e]; exact hi.numsOf
  rw [nums_intItems] at hn
  rw [e] at hl
  have hlx := Heap.lt_size h1
  refine call_sum_walkG (iter_intList hl fun s₂ e st hfp hlI => ?_)
  subst e
  refine ⟨_, [s.heap.objs.size, l, x1], _, _, _, _, numAt xs, rfl, walks_list_hot (A := A.in1) hh d1 c1 _ l hlI (intItems xs), ⟨st.1, st.2, Heap.get?_push_of_some _ h1⟩, fun b hb => ?_, (fun _ _ => intItems_at), fun h' tk t' hk => ?_⟩
  · rcases List.mem_cons.mp hb with rfl | hb
    · exact hfp _ (by simp)
    · rcases List.mem_cons.mp hb with rfl | hb
      · exact hfp _ (by simp)
      · rw [List.mem_singleton] at hb
        subst hb
        show _ < (s.heap.push _).objs.size
        rw [Heap.size_push]
        exact Nat.lt_succ_of_lt hlx
  · have := h h' tk t' (old_kept hk)
    rw [show (intItems xs).size = xs.size by simp [intItems], preSum_eq, List.take_of_length_le (by simp), hn]; exact this
end
section
variable {X : Cx}
end
end DL

namespace DL
open PySem PySem.Spec PyProof.Rows L2
section
variable {X : Cx} {T : Tb} {H0 : HZ} {Γ Γ1 Γn Γm Γ' : List Mode} {J : Jm} {e a b tg iter : Expr} {es : List Expr} {st : Stmt} {sts : List Stmt} {f g : SF} {fe fa fb fc : EF} {k ka kb kc : Knd} {pos po : Pos} {q p : Q3} {fs : List D → Option (List D)}
variable {x : Str} {pos' : Pos} {i j : Nat}
end
end DL

namespace DL
open PySem PySem.Spec PyProof.Rows L2
section
variable {X : Cx} {T : Tb} {H0 : HZ} {Γ : List Mode} {J : Jm} {e : Expr} {fa : EF} {ka : Knd} {pos : Pos} {q : Q3}
end
end DL

namespace DL
open PySem PySem.Spec PyProof.Rows L2
def DeskAt (C : Addr) (a : Addr) (H : Hp) (o : Addr → Prop) (d : D) (ws : List V) (ds : List D) : Prop :=
  ∃ (dx l : Addr) (avs : List V) (ads : List D) (ov bv lv : V) (od bd ld : D), H a = some (.ins C dx [("ahead", .ref l), ("order", ov), ("bits", bv), ("line", lv)]) ∧ H l = some (.lst avs) ∧ o a ∧ o l ∧ d = .ins 7 [.lst ads, od, bd, ld] ∧ ws = ov :: bv :: lv :: avs ∧ ds = od :: bd :: ld :: ads
theorem DeskAt.move {C a : Addr} {H H' : Hp} {o o' : Addr → Prop} {d : D} {ws : List V} {ds : List D} (hH : ∀ b, o b → H' b = H b) (ho : ∀ b, o b → o' b) (h : DeskAt C a H o d ws ds) : DeskAt C a H' o' d ws ds := by
  obtain ⟨dx, l, avs, ads, ov, bv, lv, od, bd, ld, h1, h2, h3, h4, h5, h6, h7⟩ := h
  exact ⟨dx, l, avs, ads, ov, bv, lv, od, bd, ld, by rw [hH _ h3]; exact h1, by rw [hH _ h4]; exact h2, ho _ h3, ho _ h4, h5, h6, h7⟩
inductive RC where
  | rt (d : D) (ρ : List D) | ex (c : Nat) (es : List D) (ρ : List D)
abbrev CF := List D → Option RC
section
variable {K : PySem.W.Frag} {T : Tb} {H0 : HZ} {Γ : List Mode} {F H : Hp} {O : Own} {σ : L2.St} {ρ : List D} {i kd : Nat} {pin : Bool}
end
section
variable {X : Cx} {T : Tb} {H0 : HZ} {Γ Γ1 Γn Γm : List Mode} {J : Jm} {e a b o : Expr} {es : List Expr} {st : Stmt} {sts : List Stmt} {fe fa fb : EF} {k ka kb : Knd} {pos po pos' apos : Pos} {q p : Q3} {fs : List D → Option (List D)} {x : Str} {i j kd : Nat} {pin : Bool} {W : WX}
end
end DL

namespace DL
open PySem PySem.Spec PyProof.Rows L2
def DkOk (K : PySem.W.Frag) (T : Tb) (F0 H' : Hp) (z : Addr) (q : Q3) (dd : D) (P : Hp → Prop) : Prop := ∃ (F : Hp) (o : Addr → Prop) (ws : List V) (ds : List D), Same F0 F ∧ Same F H' ∧ (NoT F ∧ LamX.Tabs T.t H') ∧ (∀ b, o b → F b = none ∧ ∃ u, H' b = some u ∧ isMut u = true) ∧ DeskAt (T 7).1 z H' o dd ws ds ∧ Rqs K T F0 q F ws ds ∧ P F
def spK (K : PySem.W.Frag) (T : Tb) (n : Nat) (φ : List D → Option RC) (q : Q3) : Sp := fun vs H Q E => ∃ z as, vs = .ref z :: as ∧ as.length + 1 = n ∧ ∃ (o : Addr → Prop) (dd : D) (ws : List V) (ds ads : List D) (r : RC), (∀ b, o b → ∃ u, H b = some u ∧ isMut u = true) ∧ LamX.Tabs T.t H ∧ DeskAt (T 7).1 z H o dd ws ds ∧ RUs K T (cut (ntb H) o) ws ds ∧ RUs K T (cut (ntb H) o) as ads ∧ φ (dd :: ads) = some r ∧
  (∀ d dd', r = .rt d [dd'] → ∀ H' v, DkOk K T (cut (ntb H) o) H' z .U dd' (fun F => Rq K T (cut (ntb H) o) q F v d) → Q v H') ∧
  ∀ c es dd', r = .ex c es [dd'] → ∀ H' cls od, DkOk K T (cut (ntb H) o) H' z .U dd' (fun F => ExR K T F cls od c es) → E cls od H'
structure OkMK (P : Program) (w : World) (K : PySem.W.Frag) (mg : Str → Option Value) (base : Heap) (T : Tb) (k : Nat) (m : Str) (ps : List Str) (φ : List D → Option RC) (q : Q3) : Prop where
  ex : ∃ f fd, Meth K (T 7).1 m f ∧ Binds K fd ps [] ∧ FnOk P w K mg base CX0 k f fd ps (spK K T ps.length φ q)
  cl : Cls K (T 7).1
  no : m ∉ (T 7).2
structure OkMKX (P : Program) (w : World) (K : PySem.W.Frag) (mg : Str → Option Value) (base : Heap) (T : Tb) (k : Nat) (m : Str) (ps : List Str) (φ : List D → Option RC) (q : Q3) : Prop where
  ex : ∃ f fd, Meth K (T 7).1 m f ∧ Binds K fd ps [] ∧ FnOk P w K mg base (L2N.CX P w) k f fd ps (spK K T ps.length φ q)
  cl : Cls K (T 7).1
  no : m ∉ (T 7).2
structure OkFK (P : Program) (w : World) (K : PySem.W.Frag) (mg : Str → Option Value) (base : Heap) (T : Tb) (k : Nat) (x : Str) (ps : List Str) (φ : List D → Option RC) (q : Q3) : Prop where
  ex : ∃ f fd, mg x = some (.ref f) ∧ PySem.W.keepIn K (.ref f) = true ∧ Binds K fd ps [] ∧ FnOk P w K mg base CX0 k f fd ps (spK K T ps.length φ q)
structure OkFKX (P : Program) (w : World) (K : PySem.W.Frag) (mg : Str → Option Value) (base : Heap) (T : Tb) (k : Nat) (x : Str) (ps : List Str) (φ : List D → Option RC) (q : Q3) : Prop where
  ex : ∃ f fd, mg x = some (.ref f) ∧ PySem.W.keepIn K (.ref f) = true ∧ Binds K fd ps [] ∧ FnOk P w K mg base (L2N.CX P w) k f fd ps (spK K T ps.length φ q)
section
variable {P : Program} {w : World} {K : PySem.W.Frag} {mg : Str → Option Value} {base : Heap} {T : Tb}
end
section
variable {K : PySem.W.Frag} {T : Tb} {H0 : HZ} {Γ : List Mode} {F H : Hp} {O : Own} {σ : L2.St} {ρ : List D} {i kd : Nat} {pin : Bool}
end
section
variable {X : Cx} {T : Tb} {H0 : HZ} {Γ Γ1 Γn Γm : List Mode} {J : Jm} {e a b o : Expr} {es : List Expr} {st : Stmt} {sts : List Stmt} {fe fa fb : EF} {f : CF} {k ka kb : Knd} {pos po pos' apos : Pos} {q p : Q3} {fs : List D → Option (List D)} {x m : Str} {i j kd : Nat} {pin : Bool} {W : WX}
end
end DL

namespace DL
open PySem PySem.Spec PyProof.Rows L2
section
variable {X : Cx} {T : Tb} {H0 : HZ} {Γ Γ1 Γn Γm : List Mode} {J : Jm} {e a b o : Expr} {es : List Expr} {st : Stmt} {sts : List Stmt} {fe fa fb : EF} {f : CF} {k ka kb : Knd} {pos po pos' apos : Pos} {q p : Q3} {fs : List D → Option (List D)} {x m : Str} {i j kd : Nat} {pin : Bool} {W : WX}
end

abbrev TF := List D → Option (Bool × List D)
section
variable {X : Cx} {T : Tb} {H0 : HZ} {Γ Γ1 Γn Γm : List Mode} {J : Jm} {e a b o : Expr} {es : List Expr} {st : Stmt} {sts : List Stmt} {fe fa fb : EF} {f : CF} {k ka kb : Knd} {pos po pos' apos : Pos} {q p : Q3} {fs : List D → Option (List D)} {x m : Str} {i j kd : Nat} {pin : Bool} {W : WX}
variable {t u : TF} {rest : List Expr} {tp : List D → Option Bool}
end

def spIK (K : PySem.W.Frag) (T : Tb) (φ : Option D) : Sp := fun vs H Q _ => ∃ (x dx : Addr) (dd : D), vs = [.ref x] ∧ H x = some (.ins (T 7).1 dx []) ∧ LamX.Tabs T.t H ∧ φ = some dd ∧ ∀ H', DkOk K T (cut (ntb H) (· = x)) H' x .L dd (fun _ => True) → Q .non H'
structure OkIK (P : Program) (w : World) (K : PySem.W.Frag) (mg : Str → Option Value) (base : Heap) (T : Tb) (k : Nat) (x : Str) (φ : Option D) : Prop where
  ex : ∃ fi fd ps, ps.length = 1 ∧ Mk K (T 7).1 fi ∧ Binds K fd ps [] ∧ FnOk P w K mg base CX0 k fi fd ps (spIK K T φ)
  mg : mg x = some (.ref (T 7).1)
section
variable {P : Program} {w : World} {K : PySem.W.Frag} {mg : Str → Option Value} {base : Heap} {T : Tb}
end
section
variable {X : Cx} {T : Tb} {H0 : HZ} {Γ : List Mode} {J : Jm} {pos po pos' : Pos} {x y : Str} {i j kd : Nat}
end
end DL

namespace DL
open PySem PySem.Spec PyProof.Rows L2
inductive TabRows : List (Str × Int) → List DictEntry → Prop
  | nil : TabRows [] []
  | cons {k : Str} {v : Int} {t u : Tok} {e : DictEntry} {tl : List (Str × Int)} {es : List DictEntry} : e.key = .str k t → e.val = .int v u → TabRows tl es → TabRows ((k, v) :: tl) (e :: es)
structure TabS (K : PySem.W.Frag) (w : World) (a : Addr) (tbl : List (Str × Int)) : Prop where
  ex : ∃ es n, KDict K w a es n ∧ TabRows tbl es.toList
section
variable {X : Cx} {T : Tb} {H0 : HZ} {Γ Γ1 : List Mode} {J : Jm} {e e2 o : Expr} {fe fa fb : EF} {k ka kb : Knd} {pos po apos : Pos} {q p : Q3} {a : Addr} {tbl : List (Str × Int)} {x : Str}
inductive DJ (X : Cx) (T : Tb) (H0 : HZ) (Γ : List Mode) : List Expr → List EF → Prop
  | nil : DJ X T H0 Γ [] []
  | cons {e : Expr} {f : EF} {es : List Expr} {fs : List EF} : DE X T H0 Γ e f (.q .A) → DJ X T H0 Γ es fs → DJ X T H0 Γ (e :: es) (f :: fs)
end
end DL

namespace DL
open PySem PySem.Spec PyProof.Rows L2
section
variable {X : Cx} {T : Tb} {H0 : HZ} {Γ Γ1 Γn Γm : List Mode} {J : Jm} {e a b tg iter : Expr} {fe : EF} {k ka kb : Knd} {pos : Pos} {q p : Q3} {c : Bool}
end
end DL

namespace DL
open PySem PySem.Spec PyProof.Rows L2
section
variable {X : Cx} {T : Tb} {H0 : HZ} {Γ Γ1 Γn Γm : List Mode} {J : Jm} {e a b tg iter : Expr} {rest : List Expr} {fe fa fb : EF} {f : CF} {t u : TF} {k ka kb : Knd} {pos po : Pos} {q p : Q3} {c : Bool} {W : WX}
end
end DL

namespace DL
open PySem PySem.Spec PyProof.Rows L2
section
variable {P : Program} {w : World} {H H' : Hp} {h : Heap} {S : Addr → Prop}
structure Loose (S : Addr → Prop) (H : Hp) : Prop where
  at_ : ∀ b, S b → ∃ o, H b = some o
  tup : ∀ b xs, H b = some (.tup xs) → ¬ S b
  own : ∀ b a, H b = some (.own a) → (S b ↔ S a)
theorem Loose.hok (c : Loose S H) (k : L2.HOk P w H h) : L2.HOk P w (cut H S) h := fun a o e => by
  by_cases z : S a
  · rw [cut_in z] at e; cases e
  · rw [cut_out z] at e
    exact (k a o e).stay (fun _ _ _ q => q) (fun b q => by rw [cut_out (fun y => z ((c.own b a q).mp y))]; exact q) fun b xs q => by rw [cut_out (c.tup b xs q)]; exact q
theorem Loose.back (c : Loose S H) (k : L2.HOk P w H h) {h' : Heap} (hn : ∀ b, S b → H' b = none) (kp : ∀ b o, S b → h.get? b = some o → h'.get? b = some o) (tp : ∀ b xs, cut H S b = some (.tup xs) → H' b = some (.tup xs)) (k' : L2.HOk P w H' h') : L2.HOk P w (DL.back S H H') h' := fun b o e => by
  have up : ∀ b o, H' b = some o → DL.back S H H' b = some o := fun b o e => back_of hn e
  by_cases z : S b
  · rw [back_in' z] at e
    refine (k b o e).stay (fun b' u hb hu => kp b' u ?_ hu) (fun b' q => ?_) fun b' xs q => ?_
    · rcases hb with rfl | hb
      · exact z
      · exact (c.own b' b hb).mpr z
    · rw [back_in' ((c.own b' b q).mpr z)]; exact q
    · exact up _ _ (tp b' xs (by rw [cut_out (c.tup b' xs q)]; exact q))
  · rw [back_out z] at e
    exact (k' b o e).stay (fun _ _ _ q => q) (fun _ q => up _ _ q) fun _ _ q => up _ _ q
end
section
variable {P : Program} {w : World} {outer : List Env} {H : Hp} {s s' : Shared} {u : Value} {S : Addr → Prop}
end
section
variable {P : Program} {w : World} {K : PySem.W.Frag} {mg : Str → Option Value} {base : Heap} {k : Nat} {f : Addr} {fd : FuncData} {ps : List Str} {sp : Sp}
end
section
variable {K : PySem.W.Frag} {T : Tb} {N : Addr → Prop} {F : Hp} {S : Addr → Prop}
theorem cutW (hS : ∀ a, S a → F a = none ∨ ∃ x, F a = some (.own x)) {a : Addr} {o : HO} (h : F a = some o) (hn : ∀ x, o ≠ .own x) : cut F S a = some o := by
  rw [cut_out]
  · exact h
  · intro z
    rcases hS a z with e | ⟨x, e⟩
    · rw [h] at e; cases e
    · rw [h] at e
      exact hn x (Option.some.inj e)
mutual
theorem RepG.cutW (hS : ∀ a, S a → F a = none ∨ ∃ x, F a = some (.own x)) : ∀ {v : V} {d : D}, RepG K T N F v d → RepG K T N (cut F S) v d
  | _, _, .non => .non
  | _, _, .bl b => .bl b
  | _, _, .int b => .int b
  | _, _, .str b => .str b
  | _, _, .tup h r => .tup (by
      rcases h with h | ⟨z, o, h⟩
      · exact .inl (DL.cutW hS h fun _ z => by cases z)
      · exact .inr ⟨z, o, DL.cutW hS h fun _ z => by cases z⟩) (RepsG.cutW hS r)
  | _, _, .lst h n r => .lst (DL.cutW hS h fun _ z => by cases z) n (RepsG.cutW hS r)
  | _, _, .scr h r => .scr (by
      rcases h with ⟨o, h⟩ | h
      · exact .inl ⟨o, DL.cutW hS h fun _ z => by cases z⟩
      · exact .inr h) (RepsG.cutW hS r)
  | _, _, .ins h n q r => .ins (DL.cutW hS h fun _ z => by cases z) n q (RepsG.cutW hS r)
  | _, _, .dic h n r => .dic (DL.cutW hS h fun _ z => by cases z) n (RepsG.cutW hS r)
  | _, _, .dit h n r => .dit (DL.cutW hS h fun _ z => by cases z) n (RepsG.cutW hS r)
  | _, _, .exn h x q r => .exn (DL.cutW hS h fun _ z => by cases z) (by
      rcases x with x | ⟨dx, x1, x2⟩
      · exact .inl x
      · exact .inr ⟨dx, x1, DL.cutW hS x2 fun _ z => by cases z⟩) q (RepsG.cutW hS r)
theorem RepsG.cutW (hS : ∀ a, S a → F a = none ∨ ∃ x, F a = some (.own x)) : ∀ {vs : List V} {ds : List D}, RepsG K T N F vs ds → RepsG K T N (cut F S) vs ds
  | _, _, .nil => .nil
  | _, _, .cons h r => .cons (RepG.cutW hS h) (RepsG.cutW hS r)
end
mutual
theorem RepG.too : ∀ {v : V} {d : D}, RepG K T N F v d → RepG K T (fun a => N a ∧ F a ≠ none) F v d
  | _, _, .non => .non
  | _, _, .bl b => .bl b
  | _, _, .int b => .int b
  | _, _, .str b => .str b
  | _, _, .tup h r => .tup h (RepsG.too r)
  | _, _, .lst h n r => .lst h ⟨n, by rw [h]; exact fun z => nomatch z⟩ (RepsG.too r)
  | _, _, .scr h r => .scr h (RepsG.too r)
  | _, _, .ins h n q r => .ins h ⟨n, by rw [h]; exact fun z => nomatch z⟩ q (RepsG.too r)
  | _, _, .dic h n r => .dic h ⟨n, by rw [h]; exact fun z => nomatch z⟩ (RepsG.too r)
  | _, _, .dit h n r => .dit h ⟨n, by rw [h]; exact fun z => nomatch z⟩ (RepsG.too r)
  | _, _, .exn h x q r => .exn h x q (RepsG.too r)
theorem RepsG.too : ∀ {vs : List V} {ds : List D}, RepsG K T N F vs ds → RepsG K T (fun a => N a ∧ F a ≠ none) F vs ds
  | _, _, .nil => .nil
  | _, _, .cons h r => .cons (RepG.too h) (RepsG.too r)
end
end
inductive Hang (H : Hp) (o : Addr → Prop) : Addr → Prop
  | on {a : Addr} : o a → Hang H o a
  | up {a b : Addr} : H b = some (.own a) → Hang H o a → Hang H o b
section
variable {K : PySem.W.Frag} {T : Tb} {H0 : HZ} {Γ : List Mode} {F H : Hp} {O : Own} {σ : L2.St} {ρ : List D} {i kd : Nat} {pin : Bool}
end
end DL

namespace DL
open PySem PySem.Spec PyProof.Rows L2
section
variable {X : Cx} {T : Tb} {H0 : HZ} {Γ Γ1 Γn Γm : List Mode} {J : Jm} {e a b o : Expr} {es : List Expr} {st : Stmt} {sts : List Stmt} {fe fa fb : EF} {f : CF} {k ka kb : Knd} {pos po pos' apos : Pos} {q p : Q3} {fs : List D → Option (List D)} {x m : Str} {i j kd : Nat} {pin : Bool} {W : WX}
end
end DL

namespace DL
open PySem PySem.Spec PyProof.Rows L2
section
variable {X : Cx} {T : Tb} {H0 : HZ} {Γ Γ1 Γn Γm : List Mode} {J : Jm} {e o : Expr} {pos po pos' apos : Pos} {q p : Q3} {x m : Str} {i kd : Nat} {pin : Bool} {W : WX}
end
end DL

namespace DL
open PySem PySem.Spec PyProof.Rows L2
structure FnA (P : Program) (w : World) (K : PySem.W.Frag) (mg : Str → Option Value) (base : Heap) (k : Nat) (f : Addr) (fd : FuncData) (ps : List Str) (sp : Sp) : Prop where
  len : ∀ vs H Q E, sp vs H Q E → vs.length = ps.length
  run : ∀ (A : Around) (outer : List Env) (s : Shared) (H : Hp) (args : Args) (us : List Value) (vs : List V) (Q : VK) (E : XK), L2H.RoomH k A → Env0 P w K mg base A outer s H → BindsTo s fd args (ps.zip us) → Vals vs us → sp vs H Q E → codeAny (model P w) A (.call (.ref f) args) (CR CX0 outer P w H s Q E) s
abbrev bodyA (P : Program) (w : World) (K : PySem.W.Frag) (mg : Str → Option Value) (base : Heap) (N : List Str) (x : Str) (st : Stmt) (f : Addr) (cdv : Value) (A : Around) (outer : List Env) (s : Shared) (H : Hp) (E : XK) (p : Addr × Obj) : Cx := (L2H.cxH CX0 P w K mg base N x (defScope st) f cdv A outer s H E p).nox
section
variable {P : Program} {w : World} {K : PySem.W.Frag} {mg : Str → Option Value} {base : Heap} {T : Tb}
theorem pin_self {A : Around} {outer : List Env} {s : Shared} {H : Hp} (v : Env0 P w K mg base A outer s H) {f : Addr} {oc : Value} {od : Option Addr} {fd : FuncData} {osl : Array (Option Value)} (lk : K.lookup f = some ⟨oc, od, .func fd, osl⟩) : L2H.PinOk outer H s (f, ⟨oc, od, .func fd, osl⟩) := by
  have hb := v.mod.kin _ _ lk
  refine ⟨(v.bs _ _ hb).1, (v.bs _ _ hb).2, fun m => ?_, fun _ z => nomatch z⟩
  have := (Heap.FunFrames.mem v.funs m).1
  rw [hb] at this; cases this
theorem fnA_of {x qual : Str} {st : Stmt} {N ps : List Str} {k : Nat} {sp : Sp} {f : Addr} {fd : FuncData} (F : Fun K x qual st f fd) (S : FnScope N ps (defScope st)) (len : ∀ vs H Q E, sp vs H Q E → vs.length = ps.length)
    (body : ∀ (cdv : Value) (A : Around) (outer : List Env) (s : Shared) (H : Hp) (vs : List V) (Q : VK) (E : XK) (p : Addr × Obj), L2H.RoomH k (A.deeper (envOfC qual (defScope st) s.heap.objs.size f cdv)) → sp vs H Q E →
      ∃ t, PSs (bodyA P w K mg base N qual st f cdv A outer s H E p) (defBody st) t ∧ t { nx := fun _ H' => Q .non H', rt := Q } (L2.start N vs) H) : FnA P w K mg base (k + 1) f fd ps sp := by
  obtain ⟨oc, od, kV, doc, pm, an, cdv, ct, osl, rfl, lk, hcd⟩ := F.ex
  refine ⟨len, fun A outer s H args us vs Q E room v bind rv hsp => ?_⟩
  have kept : ∀ b o, base.get? b = some o → s.heap.get? b = some o := fun b o e => (v.bs b o e).1
  have kin := v.mod.kin.keeps kept
  have kinds : ∀ y ∈ ps.zip us, (defScope st).names.lookup y.1 = some .local ∨ ((defScope st).names.lookup y.1 = some .cell ∧ ((cellsFrom (s.heap.objs.size + 1) (defScope st).names []).lookup y.1).isSome = true) := by
    rintro ⟨y, u⟩ hy
    exact (S.par y (List.of_mem_zip hy).1).imp id fun z => ⟨z, PySem.W.cellsFrom_some _ _ _ (.inl z)⟩
  have started := fun s1 x => L2H.inv_startH (CX := CX0) (P := P) (w := w) (K := K) (qual := qual) (f := f) (cd := cdv) (E := E) (s1 := s1) S (pin_self v lk) v (len _ _ _ _ hsp) rv x
  obtain ⟨t, ht, hq⟩ := body cdv A outer s H vs Q E (f, _) (room.deeper _) hsp
  refine codeAny_call_function room.depth (kin _ _ lk) rfl S.co S.gen rfl (PySem.W.codeRec_of kin hcd) (bind _ _ _ _ (wpAny_newFunctionEnv_cells S.kind kinds fun env ee s1 x => ?_))
  subst ee
  refine ⟨(v.mod.nolimit.keeps kept).keeps x.toInCall.keep, codeAny_func (wpAny_mono (ht.nox.run [] s1 _ H _ (started s1 x) hq) (fun fl s2 done => ?_) fun _ _ z => z)⟩
  cases fl with
  | next => obtain ⟨σ, H2, J, q⟩ := done; exact ⟨.non, H2, J.os, J.bare, J.base, J.hok, rfl, q⟩
  | ret u => obtain ⟨r, σ, H2, J, ru, q⟩ := done; exact ⟨r, H2, J.os, J.bare, J.base, J.hok, ru, q⟩
  | brk => exact (done.choose_spec.choose_spec.2).elim
  | cont => exact (done.choose_spec.choose_spec.2).elim
end
structure OkFA (P : Program) (w : World) (K : PySem.W.Frag) (mg : Str → Option Value) (base : Heap) (T : Tb) (k : Nat) (x : Str) (ps : List Str) (φ : List D → Option D) (rk : RK) : Prop where
  ex : ∃ f fd, mg x = some (.ref f) ∧ PySem.W.keepIn K (.ref f) = true ∧ Binds K fd ps [] ∧ FnA P w K mg base k f fd ps (spD K T ps.length φ rk)
section
variable {P : Program} {w : World} {K : PySem.W.Frag} {mg : Str → Option Value} {base : Heap} {T : Tb}
theorem mk_okfa {x : Str} {st : Stmt} {N ps : List Str} {pks : List PKn} {m k : Nat} {body : SF} {Γn : List Mode} {rk : RK} {nx : Bool} (F : FtF K mg x x st ps) (S : FnScope N ps (defScope st)) (hN : N.length = pks.length + m) (hp : ps.length = pks.length)
    (hnx : nx = true → ∃ q, rk = .q q) (hb : ∀ (f : Addr) (cdv : Value) (A : Around) (outer : List Env) (s : Shared) (H : Hp) (E : XK) (p : Addr × Obj), L2H.RoomH k (bodyA P w K mg base N x st f cdv A outer s H E p).A → DSs (bodyA P w K mg base N x st f cdv A outer s H E p) T ⟨ntb H, 0, []⟩ (ms0 pks m) (defBody st) body Γn (jm rk)) :
    OkFA P w K mg base T (k + 1) x ps (fnD pks m nx body) rk := by
  obtain ⟨f, fd, h1, h2, h3⟩ := F.ex
  refine ⟨f, fd, h3, h1.kp, h2, fnA_of h1 S (fun vs H Q E h => h.1) fun cdv A outer s H vs Q E p hr h => ?_⟩
  obtain ⟨hl, ds, d, ht, r, hf, hq⟩ := h
  refine ⟨_, hb f cdv A outer s H E p hr, ?_⟩
  unfold fnD at hf
  split at hf
  · rename_i hc
    cases h1 : body (ds ++ List.replicate m .non) with
    | none => rw [h1] at hf; cases hf
    | some o =>
      rw [h1] at hf
      simp only [Option.bind_some] at hf
      refine ⟨ntb H, _, _, o, rl_start hN r hc ht, h1, ?_⟩
      split at hf
      · cases hf
        exact fun H' v hv => hq H' v hv
      · split at hf
        · rename_i hx
          cases hf
          obtain ⟨q, rfl⟩ := hnx hx
          exact fun F' O' σ' H' s R => hq H' .non ⟨F', R.h0, R.fh, ⟨R.nF, R.tb⟩, .non⟩
        · cases hf
      · cases hf
  · cases hf
end
section
variable {X : Cx} {T : Tb} {H0 : HZ} {Γ : List Mode} {e : Expr} {es : List Expr} {pos po : Pos} {fs : List D → Option (List D)}
theorem pe_callA {k : Nat} {x : Str} {f : Addr} {fd : FuncData} {ps : List Str} {sp : Sp} {t : TA} (F : FnA X.prog X.w X.K X.mg X.base k f fd ps sp) (hr : L2H.RoomH k X.A) (hg : Gl X x) (hm : X.mg x = some (.ref f)) (hk : PySem.W.keepIn X.K (.ref f) = true) (hb : Binds X.K fd ps [])
    (ha : PA X (e :: es) t) (hdb : (x == ("__debug__" : Str)) = false := by decide) (he : starEach (e :: es) X.env = (false, eval e X.env) :: starEach es X.env := by rfl) (hpl : (backTo pos (starEach es X.env)).any (·.1) = false := by rfl) :
    PE X (.Call (.Name x po) (e :: es) [] pos) (tCall sp [] E0 t) := by
  refine ⟨fun pins s σ H Q I h => wpAny_Call_Name_kw (ld_glob I hg hm (PySem.W.callWith_K (h₀ := X.base) I.ok.mod.kin hk (thn (ha.run pos pins s σ H _ I h) fun us s1 ⟨vs, H1, I1, r, q⟩ => ⟨I1.kIn, ?_⟩) he hpl) hdb)⟩
  have q : sp (vs ++ []) H1 Q E0 := q
  rw [List.append_nil] at q
  show wpAny _ _ (call (.ref f) us) _ _ _
  have hl : us.length = ps.length := by rw [← r.length]; exact F.len _ _ _ _ q
  have b := hb s1 us I1.kIn (by rw [List.append_nil]; exact hl)
  rw [List.append_nil] at b
  refine wpAny_call (codeAny_mono (F.run X.A X.stack s1 H1 ⟨us, []⟩ us vs Q E0 hr I1.env0 b r q) fun r s' done => ?_)
  cases r with
  | error _ => exact done.elim
  | ok fl => cases fl <;> first | exact I1.after done | exact done.elim
theorem de_callA {j k : Nat} {x : Str} {ps : List Str} {φ : List D → Option D} {rk : RK} (h : OkFA X.prog X.w X.K X.mg X.base T j x ps φ rk) (hr : L2H.RoomH k X.A) (hg : Gl X x) (ha : DA X T H0 Γ (e :: es) fs) (hn : ∀ ρ ds, fs ρ = some ds → ds.length = ps.length) (hj : j ≤ k := by decide) (hk : rk.ok = true := by rfl)
    (hdb : (x == ("__debug__" : Str)) = false := by decide) (he : starEach (e :: es) X.env = (false, eval e X.env) :: starEach es X.env := by rfl) (hpl : (backTo pos (starEach es X.env)).any (·.1) = false := by rfl) :
    DE X T H0 Γ (.Call (.Name x po) (e :: es) [] pos) (eCall φ fs) rk.knd := by
  obtain ⟨f, fd, h1, h2, h3, h4⟩ := h.ex
  exact PE.wk (pe_callA ⟨h4.len, fun A outer s H args us vs Q E r => h4.run A outer s H args us vs Q E (r.mono hj)⟩ hr hg h1 h2 h3 ha hdb he hpl) (call_sem hk hn)
theorem rhot {k : Nat} {A : Around} {h : Option Value} (r : Room k A) : L2H.RoomH k (A.mark h) := ⟨r.dp, r.un⟩
end
end DL

namespace DL
open PySem PySem.Spec PyProof.Rows L2
section
variable {X : Cx} {T : Tb} {H0 : HZ} {Γ : List Mode} {e : Expr} {fe : EF} {q : Q3} {W : WX}
end
end DL

namespace DL
open PySem PySem.Spec PyProof.Rows L2 HotX
def HotH (X : Cx) (H : Hp) : Prop := ∃ a C od, X.A.handled = some (.ref a) ∧ H a = some (ExC a C od)
section
variable {X : Cx} {pins : List (Addr × Obj)} {σ : L2.St} {H : Hp} {s : Shared}
theorem HotH.at (h : HotH X H) (I : Inv X pins σ H s) : ∃ (x1 : Addr) (o1 : Obj) (vs1 : Array Value), X.A.handled = some (.ref x1) ∧ s.heap.get? x1 = some o1 ∧ o1.data = .fields vs1 ∧ vs1[2]? = some .none := by
  obtain ⟨a, C, od, h1, h2⟩ := h
  obtain ⟨⟨oe, vs, g1, g2, g3, g4, g5⟩, _, _⟩ := I.hok a _ h2
  exact ⟨a, oe, vs, h1, g1, g4, g5⟩
theorem cr_sumT : CallR X (.builtin "sum") (fun xs H Q => HotH X H ∧ rSum X.K xs H Q) := by
  intro pins s σ H vs us Q I r h
  obtain ⟨hot, a, ns, rfl, hs, q⟩ := h
  obtain ⟨its, rv, hl, _⟩ := I.list hs
  rw [Vals.ref1 r]
  obtain ⟨x1, o1, vs1, hh, h1, d1, c1⟩ := hot.at I
  exact sum_hot hh h1 d1 c1 hl.isList rv.ints fun h' tk t' hk => ⟨.int _, H, I.kept hk, ⟨_, rfl⟩, q⟩
def IntV (v u : Value) : Prop := ∃ (n : Int) (t : Tok), u = .int n t ∧ ((∃ t', v = .int n t') ∨ ∃ b, v = .bool b ∧ n = if b then 1 else 0)
def IntB : List V → List Int → Prop := Paired fun v n => v = .int n ∨ ∃ b, v = .bl b ∧ n = if b then 1 else 0
theorem ints_of : ∀ {xs : List V} {its : List Value} {ns : List Int} {ys : List Value}, Vals xs its → IntB xs ns → Paired IntV its ys → Vals (ns.map V.int) ys
  | _, _, _, _, .nil, .nil, .nil => .nil
  | _, _, _, _, .cons r rs, .cons b bs, .cons f fs => by
    refine .cons ?_ (ints_of rs bs fs)
    obtain ⟨n, t, rfl, f⟩ := f
    refine ⟨t, ?_⟩
    rcases b with rfl | ⟨k, rfl, rfl⟩
    · obtain ⟨t2, rfl⟩ := r
      rcases f with ⟨_, e⟩ | ⟨_, e, _⟩
      · cases e; rfl
      · cases e
    · cases (show _ = Value.bool k from r)
      rcases f with ⟨_, e⟩ | ⟨_, e, rfl⟩
      · cases e
      · cases e; rfl
theorem int_item : ∀ {xs : List V} {its : List Value} {ns : List Int}, Vals xs its → IntB xs ns → ∀ {v : Value}, v ∈ its → (∃ n t, v = Value.int n t) ∨ ∃ b, v = .bool b
  | _, _, _, .nil, .nil, _, h => by cases h
  | _, _, _, .cons r rs, .cons b bs, v, h => by
    rcases List.mem_cons.mp h with rfl | hm
    · rcases b with rfl | ⟨k, rfl, rfl⟩
      · obtain ⟨t, rfl⟩ := r
        exact .inl ⟨_, _, rfl⟩
      · exact .inr ⟨k, r⟩
    · exact int_item rs bs hm
def tIntC (X : Cx) (te : TE) : TE := fun σ H Q => te σ H fun v H1 => HotH X H1 ∧ ∃ p xs ns, v = .ref p ∧ H1 p = some (.lst xs) ∧ IntB xs ns ∧ ∀ D, H1 D = none → Q (.ref D) (upd H1 D (.lst (ns.map V.int)))
theorem pe_intC {iter : Expr} {te : TE} {x : Str} {scope : Scope} {px p1 p2 p3 pos : Pos} {cl : List (Str × Addr)} (hi : PE X iter te) (hm : X.mg "int" = none) (hclos : closureFor scope X.env = pure cl) (hcell : ∀ y ∈ scope.names, y.2 ≠ .cell)
    (hkind : scope.kind = .function) (hnames : ∀ y ∈ scope.names, y.2 = .local → scope.names.lookup y.1 = some .local) (hx : scope.names.lookup x = some .local) (hgi : ∀ C, (compEnvC scope cl C X.env).kindOf "int" = some .globalImplicit)
    (hlx : ∀ C, (compEnvC scope cl C X.env).kindOf x = some .local) (hd : (x == ("__debug__" : Str)) = false) (hs : ∀ x, foldedSetIterable iter X.env x = pure x)
    (hse : ∀ C, starEach [.Name x p2] (compEnvC scope cl C X.env) = (false, eval (.Name x p2) (compEnvC scope cl C X.env)) :: starEach [] (compEnvC scope cl C X.env)) :
    PE X (.ListComp (.Call (.Name "int" p1) [.Name x p2] [] p3) [⟨.Name x px, iter, [], 0⟩] scope pos) (tIntC X te) := by
  refine ⟨fun pins s σ H Q I h => ?_⟩
  refine wpAny_ListComp_free (fun _ => true) IntV hclos hcell hkind hnames hx (thn (hi.run pins s σ H _ I h) fun u s1 hu => ?_) hs
  obtain ⟨v, H1, I1, rv, hot, p, xs, ns, rfl, hp, hb, q⟩ := hu
  obtain rfl : u = .ref p := rv
  obtain ⟨x1, o1, vs1, hh, h1, d1, c1⟩ := hot.at I1
  obtain ⟨hz, its, n0, rvs, hl⟩ := (show ObjOk X.prog X.w H1 s1.heap p (.lst xs) from I1.hok p _ hp)
  have hlist : s1.heap.IsList p its.toArray := ⟨_, hl, rfl, _, rfl⟩
  have hplt := Heap.lt_size hl
  have hxlt := Heap.lt_size h1
  refine wpAny_pyIter_list hlist ?_
  have kp : ∀ b o, s1.heap.get? b = some o → (s1.heap.push { cls := .type "list_iterator", data := .fields #[.ref p, .int 0 0] }).get? b = some o := fun b o e => Heap.get?_push_of_some _ e
  refine ⟨s1.heap.objs.size, [s1.heap.objs.size, p, x1], [s1.heap.objs.size], _, _, _, rfl, walks_list_hot hh d1 c1 s1.heap.objs.size p (Nat.ne_of_lt hplt) its.toArray, ?_, ⟨⟨_, Heap.get?_push_size _ rfl, rfl, rfl⟩, ⟨_, kp _ _ hl, rfl, _, rfl⟩, kp _ _ h1⟩, fun b hb => ?_, ⟨?_, ?_⟩, ?_⟩
  · rw [List.size_toArray, ← rvs.length]; exact hz
  · show b < (s1.heap.push _).objs.size
    rw [Heap.size_push]
    simp only [List.mem_cons, List.not_mem_nil, or_false] at hb
    rcases hb with rfl | rfl | rfl
    · exact Nat.lt_succ_self _
    · exact Nat.lt_succ_of_lt hplt
    · exact Nat.lt_succ_of_lt hxlt
  · exact fun C i v s3 m3 E' _ _ _ _ _ _ => wpAny_tests_nil ⟨rfl, s3.heap, s3.toks, rfl, fun _ _ e => e⟩
  · intro C i v s3 m3 E' hC hP _ hn hv hk ht
    have hv2 : v ∈ its := by
      have : its[i]? = some v := by simpa using hP
      exact List.mem_of_getElem? this
    have hiv := int_item rvs hb hv2
    have base3 : ∀ b o, X.base.get? b = some o → s3.heap.get? b = some o := fun b o e => hk b o (fun z => by
      rw [List.mem_singleton] at z
      exact absurd (Heap.lt_size (I1.bk b o e)) (by rw [z]; exact Nat.lt_irrefl _)) (kp b o (I1.bk b o e))
    obtain ⟨mb, g1, g2⟩ := I1.mod.blt
    refine wpAny_Call_Name_kw (Calls.Name_function_global hkind (hgi C) (Calls.loadGlobal_builtin (v := .type "int") (by show s3.heap.Ns X.env.globals _; rw [I1.ok.glob]; exact I1.mod.glob.keeps base3) hm (by show s3.heap.Ns X.env.builtins _; rw [I1.ok.blt]; exact g1.keeps base3) ((g2 "int" (by decide)).trans (by decide +kernel)) ?_))
    refine callWith_type1 (T := "int") ?_ (hse C) rfl
    rw [hse C]
    refine Calls.spliced_cons (PyProof.Rows.ldVarK hn hv (Calls.spliced_nil ?_) hkind (hlx C) hd)
    rcases hiv with ⟨n, t, rfl⟩ | ⟨b, rfl⟩
    · exact call_int_int ⟨⟨n, t, rfl, .inl ⟨_, rfl⟩⟩, s3.heap, s3.toks, rfl, fun _ _ e => e⟩
    · exact call_int_bool ⟨⟨_, _, rfl, .inr ⟨b, rfl, rfl⟩⟩, s3.heap, _, rfl, fun _ _ e => e⟩
  · intro D h' tk ys vs hD _ hpl hlen hP hF hk
    have evs : vs = its := by
      apply List.ext_getElem?
      intro j
      cases e : vs[j]? with
      | none =>
        have := List.getElem?_eq_none_iff.mp e
        rw [List.getElem?_eq_none]
        rw [List.size_toArray] at hlen
        omega
      | some v =>
        have := hP j v e
        simpa using this.symm
    subst evs
    rw [List.filter_eq_self.mpr fun _ _ => rfl] at hF
    have ry := ints_of rvs hb hF
    have nD : s1.heap.get? D = none := by
      cases e : s1.heap.get? D with
      | none => rfl
      | some o => have := kp D o e; rw [hD] at this; cases this
    have hn1 : H1 D = none := hok_none I1.hok nD
    obtain ⟨n2, g⟩ := hpl
    refine ⟨.ref D, upd H1 D (.lst (ns.map V.int)), I1.laidN (t' := tk) (fun b o e => hk b o (fun z => ?_) (kp b o e)) nD hn1 ⟨?_, ys.toList, n2, ry, by simpa using g⟩, rfl, q D hn1⟩
    · rw [List.mem_singleton] at z
      exact absurd (Heap.lt_size e) (by rw [z]; exact Nat.lt_irrefl _)
    · rw [ry.length, ← hF.length, ← rvs.length]; exact hz
end
end DL

namespace DL
open PySem PySem.Spec PyProof.Rows L2 HotX
structure FnTh (P : Program) (w : World) (K : PySem.W.Frag) (mg : Str → Option Value) (base : Heap) (k : Nat) (f : Addr) (fd : FuncData) (ps : List Str) (sp : Sp) : Prop where
  len : ∀ vs H Q E, sp vs H Q E → vs.length = ps.length
  run : ∀ (A : Around) (outer : List Env) (s : Shared) (H : Hp) (args : Args) (us : List Value) (vs : List V) (Q : VK) (E : XK), L2H.RoomH k A → (∃ a C od, A.handled = some (.ref a) ∧ H a = some (ExC a C od)) → Env0 P w K mg base A outer s H → BindsTo s fd args (ps.zip us) → Vals vs us → sp vs H Q E →
    codeAny (model P w) A (.call (.ref f) args) (CR CX0 outer P w H s Q E) s
def HotZ (X : Cx) (H0 : HZ) : Prop := ∃ a C od, X.A.handled = some (.ref a) ∧ H0.h a = some (ExC a C od)
theorem HotZ.hot {X : Cx} {K : PySem.W.Frag} {T : Tb} {H0 : HZ} {Γ : List Mode} {F H : Hp} {O : Own} {σ : L2.St} {ρ : List D} (h : HotZ X H0) (R : Rl K T H0 Γ F O σ H ρ) : HotH X H := by
  obtain ⟨a, C, od, h1, h2⟩ := h
  exact ⟨a, C, od, h1, R.fh _ _ (R.h0 _ _ h2)⟩
section
variable {P : Program} {w : World} {K : PySem.W.Frag} {mg : Str → Option Value} {base : Heap} {T : Tb}
theorem fnTh_of {x qual : Str} {st : Stmt} {N ps : List Str} {k : Nat} {sp : Sp} {f : Addr} {fd : FuncData} (F : Fun K x qual st f fd) (S : FnScope N ps (defScope st)) (len : ∀ vs H Q E, sp vs H Q E → vs.length = ps.length)
    (body : ∀ (cdv : Value) (A : Around) (outer : List Env) (s : Shared) (H : Hp) (vs : List V) (Q : VK) (E : XK) (p : Addr × Obj), L2H.RoomH k (A.deeper (envOfC qual (defScope st) s.heap.objs.size f cdv)) → (∃ a C od, A.handled = some (.ref a) ∧ H a = some (ExC a C od)) → sp vs H Q E →
      ∃ t, PSs (bodyA P w K mg base N qual st f cdv A outer s H E p) (defBody st) t ∧ t { nx := fun _ H' => Q .non H', rt := Q } (L2.start N vs) H) : FnTh P w K mg base (k + 1) f fd ps sp := by
  obtain ⟨oc, od, kV, doc, pm, an, cdv, ct, osl, rfl, lk, hcd⟩ := F.ex
  refine ⟨len, fun A outer s H args us vs Q E room hot v bind rv hsp => ?_⟩
  have kept : ∀ b o, base.get? b = some o → s.heap.get? b = some o := fun b o e => (v.bs b o e).1
  have kin := v.mod.kin.keeps kept
  have kinds : ∀ y ∈ ps.zip us, (defScope st).names.lookup y.1 = some .local ∨ ((defScope st).names.lookup y.1 = some .cell ∧ ((cellsFrom (s.heap.objs.size + 1) (defScope st).names []).lookup y.1).isSome = true) := by
    rintro ⟨y, u⟩ hy
    exact (S.par y (List.of_mem_zip hy).1).imp id fun z => ⟨z, PySem.W.cellsFrom_some _ _ _ (.inl z)⟩
  have started := fun s1 x => L2H.inv_startH (CX := CX0) (P := P) (w := w) (K := K) (qual := qual) (f := f) (cd := cdv) (E := E) (s1 := s1) S (pin_self v lk) v (len _ _ _ _ hsp) rv x
  obtain ⟨t, ht, hq⟩ := body cdv A outer s H vs Q E (f, _) (room.deeper _) hot hsp
  refine codeAny_call_function room.depth (kin _ _ lk) rfl S.co S.gen rfl (PySem.W.codeRec_of kin hcd) (bind _ _ _ _ (wpAny_newFunctionEnv_cells S.kind kinds fun env ee s1 x => ?_))
  subst ee
  refine ⟨(v.mod.nolimit.keeps kept).keeps x.toInCall.keep, codeAny_func (wpAny_mono (ht.nox.run [] s1 _ H _ (started s1 x) hq) (fun fl s2 done => ?_) fun _ _ z => z)⟩
  cases fl with
  | next => obtain ⟨σ, H2, J, q⟩ := done; exact ⟨.non, H2, J.os, J.bare, J.base, J.hok, rfl, q⟩
  | ret u => obtain ⟨r, σ, H2, J, ru, q⟩ := done; exact ⟨r, H2, J.os, J.bare, J.base, J.hok, ru, q⟩
  | brk => exact (done.choose_spec.choose_spec.2).elim
  | cont => exact (done.choose_spec.choose_spec.2).elim
end
structure OkFTh (P : Program) (w : World) (K : PySem.W.Frag) (mg : Str → Option Value) (base : Heap) (T : Tb) (k : Nat) (x : Str) (ps : List Str) (φ : List D → Option D) (rk : RK) : Prop where
  ex : ∃ f fd, mg x = some (.ref f) ∧ PySem.W.keepIn K (.ref f) = true ∧ Binds K fd ps [] ∧ FnTh P w K mg base k f fd ps (spD K T ps.length φ rk)
section
variable {P : Program} {w : World} {K : PySem.W.Frag} {mg : Str → Option Value} {base : Heap} {T : Tb}
theorem mk_okfth {x : Str} {st : Stmt} {N ps : List Str} {pks : List PKn} {m k : Nat} {body : SF} {Γn : List Mode} {rk : RK} {nx : Bool} (F : FtF K mg x x st ps) (S : FnScope N ps (defScope st)) (hN : N.length = pks.length + m) (hp : ps.length = pks.length)
    (hnx : nx = true → ∃ q, rk = .q q) (hb : ∀ (f : Addr) (cdv : Value) (A : Around) (outer : List Env) (s : Shared) (H : Hp) (E : XK) (p : Addr × Obj), L2H.RoomH k (bodyA P w K mg base N x st f cdv A outer s H E p).A → HotZ (bodyA P w K mg base N x st f cdv A outer s H E p) ⟨ntb H, 0, []⟩ →
      DSs (bodyA P w K mg base N x st f cdv A outer s H E p) T ⟨ntb H, 0, []⟩ (ms0 pks m) (defBody st) body Γn (jm rk)) :
    OkFTh P w K mg base T (k + 1) x ps (fnD pks m nx body) rk := by
  obtain ⟨f, fd, h1, h2, h3⟩ := F.ex
  refine ⟨f, fd, h3, h1.kp, h2, fnTh_of h1 S (fun vs H Q E h => h.1) fun cdv A outer s H vs Q E p hr hot h => ?_⟩
  obtain ⟨hl, ds, d, ht, r, hf, hq⟩ := h
  obtain ⟨xa, xC, xd, hh, hx⟩ := hot
  refine ⟨_, hb f cdv A outer s H E p hr ⟨xa, xC, xd, hh, ntb_some hx rfl⟩, ?_⟩
  unfold fnD at hf
  split at hf
  · rename_i hc
    cases h1 : body (ds ++ List.replicate m .non) with
    | none => rw [h1] at hf; cases hf
    | some o =>
      rw [h1] at hf
      simp only [Option.bind_some] at hf
      refine ⟨ntb H, _, _, o, rl_start hN r hc ht, h1, ?_⟩
      split at hf
      · cases hf
        exact fun H' v hv => hq H' v hv
      · split at hf
        · rename_i hx
          cases hf
          obtain ⟨q, rfl⟩ := hnx hx
          exact fun F' O' σ' H' s R => hq H' .non ⟨F', R.h0, R.fh, ⟨R.nF, R.tb⟩, .non⟩
        · cases hf
      · cases hf
  · cases hf
end
section
variable {X : Cx} {T : Tb} {H0 : HZ} {Γ : List Mode} {a e : Expr} {fa fe : EF} {ka : Knd} {q : Q3} {pos po : Pos}
theorem pe_callTh {k i : Nat} {x n : Str} {p1 : Pos} {f : Addr} {fd : FuncData} {ps : List Str} {sp : Sp} (F : FnTh X.prog X.w X.K X.mg X.base k f fd ps sp) (hr : L2H.RoomH k X.A) (hg : Gl X x) (hm : X.mg x = some (.ref f)) (hk : PySem.W.keepIn X.K (.ref f) = true) (hb : Binds X.K fd ps [])
    (hv : PE X (.Name n p1) (tVar i)) (hdb : (x == ("__debug__" : Str)) = false) (he : starEach [.Name n p1] X.env = (false, eval (.Name n p1) X.env) :: starEach [] X.env) (hpl : (backTo pos (starEach [] X.env)).any (·.1) = false) :
    PE X (.Call (.Name x po) [.Name n p1] [] pos) (fun σ H Q => ∃ b C od, X.A.handled = some (.ref b) ∧ σ[i]? = some (some (.ref b)) ∧ H b = some (ExC b C od) ∧ sp [.ref b] H Q E0) := by
  refine ⟨fun pins s σ H Q I h => ?_⟩
  obtain ⟨b, C, od, hh, hs, hx, h⟩ := h
  have ha := pa_cons hv pa_nil he
  refine wpAny_Call_Name_kw (ld_glob I hg hm (PySem.W.callWith_K (h₀ := X.base) I.ok.mod.kin hk (thn (ha.run pos pins s σ H (fun vs H1 => vs = [V.ref b] ∧ H1 = H) I ⟨_, hs, rfl, rfl⟩) fun us s1 ⟨vs, H1, I1, r, ev, eH⟩ => ⟨I1.kIn, ?_⟩) he hpl) hdb)
  subst ev
  subst eH
  show wpAny _ _ (call (.ref f) us) _ _ _
  have hl : us.length = ps.length := by rw [← r.length]; exact F.len _ _ _ _ h
  have b2 := hb s1 us I1.kIn (by rw [List.append_nil]; exact hl)
  rw [List.append_nil] at b2
  refine wpAny_call (codeAny_mono (F.run X.A X.stack s1 H1 ⟨us, []⟩ us _ Q E0 hr ⟨b, C, od, hh, hx⟩ I1.env0 b2 r h) fun r s' done => ?_)
  cases r with
  | error _ => exact done.elim
  | ok fl => cases fl <;> first | exact I1.after done | exact done.elim
theorem pss_hot {J : Jm} {b : Addr} {i j j1 k : Nat} {x n y : Str} {p1 p2 spos : Pos} {φ : List D → Option D} {rk : RK} {py : Str} (hh : X.A.handled = some (.ref b)) (h : OkFTh X.prog X.w X.K X.mg X.base T j1 x [py] φ rk) (hr : L2H.RoomH k X.A) (hg : Gl X x) (hv : PE X (.Name n p1) (tVar i))
    (hN : X.N.Nodup) (hj : X.N[j]? = some y) (hy : Loc X.env.scope y) (hi : Γ[i]? = some (.fz .A)) (hl : j < Γ.length) (hrk : rk.knd = .q q) (hk : rk.ok = true) (hjk : j1 ≤ k)
    (hs : swapsWith (.Call (.Name x po) [.Name n p1] [] pos) (some (.Name y p2)) spos.line X.env = pure false)
    (hf : X.fn y = true ∨ X.env.scope.names.lookup y = some .local) (hdb : (x == ("__debug__" : Str)) = false) (he : starEach [.Name n p1] X.env = (false, eval (.Name n p1) X.env) :: starEach [] X.env) (hpl : (backTo pos (starEach [] X.env)).any (·.1) = false) :
    PSs X [.Assign [.Name y p2] (.Call (.Name x po) [.Name n p1] [] pos) spos] (tHot b i (tDS X.K T H0 Γ (sSet j (eCall φ (aCons (eV i) aNil))) (Γ.set j (.fz q)) J)) := by
  obtain ⟨f, fd, h1, h2, h3, h4⟩ := h.ex
  refine PSs.wk (pss_one (ps_set hN hj hy (pe_callTh h4 (hr.mono hjk) hg h1 h2 h3 hv hdb he hpl) hs hf)) fun E σ H ⟨hσ, ⟨C, od, hx⟩, hd⟩ => ?_
  refine ⟨b, C, od, hh, hσ, hx, ?_⟩
  have hd2 := set_sem hl E σ H hd
  have hd3 : tD X.K T H0 Γ (eCall φ (aCons (eV i) aNil)) rk.knd σ H (fun v H1 => gName j v σ H1 E.nx) := by rw [hrk]; exact hd2
  obtain ⟨F, O, ρ, ds, R, hds, hq⟩ := call_sem (n := [py].length) (E := E0) hk (fun ρ ds z => by
    unfold aCons aNil at z
    cases h5 : eV i ρ with
    | none => rw [h5] at z; cases z
    | some d => rw [h5] at z; cases z; rfl) σ H _ hd3
  obtain ⟨v, d, e1, e2, rq⟩ := R.sl i _ hi
  rw [hσ] at e1
  cases e1
  unfold aCons aNil eV at hds
  rw [e2] at hds
  cases hds
  exact hq F H [.ref b] R (.refl _) (.refl _) (.cons (R.U_of rq) .nil)
theorem de_sumT (hot : HotZ X H0) (hg : Gl X "sum") (hm : X.mg "sum" = none) (ha : DE X T H0 Γ a fa ka) (hs : starEach [a] X.env = (false, eval a X.env) :: starEach [] X.env := by rfl) : DE X T H0 Γ (.Call (.Name "sum" po) [a] [] pos) (e1 gSum fa) (.q q) :=
  PE.wk (pe_callB cr_sumT hg hm (by decide +kernel) (da_cons ha da_nil hs) (he := hs)) (callB_sem fun F O σ H ρ v x d Q R rv hg hq => by
    refine ⟨hot.hot R, ?_⟩
    unfold gSum at hg
    split at hg
    · rename_i ds
      cases h1 : intsOf ds with
      | none => rw [h1] at hg; cases hg
      | some ns =>
        rw [h1] at hg
        cases hg
        have := intsOf_eq h1
        subst this
        cases rv with
        | @lst a vs ds h1 h2 h3 =>
          rw [h3.ints] at h1
          exact ⟨a, ns, rfl, SqL.of h1, hq F H _ R (.refl _) (.refl _) (RepG.int _)⟩
    · cases hg)
theorem intC_go {j : Nat} {ρ : List D} : ∀ {items ds : List D}, compGo (tgN j) tTrue (e1 gInt (eV j)) ρ items = some ds → ∃ ns : List Int, ds = ns.map D.int ∧ Paired (fun x n => gInt x = some (.int n)) items ns
  | [], ds, h => by cases h; exact ⟨[], rfl, .nil⟩
  | x :: xs, ds, h => by
    unfold compGo at h
    simp only [tgN, tTrue, Option.bind_some, if_true, e1, eV] at h
    have hx : (ρ.set j x)[j]? = some x ∨ (ρ.set j x)[j]? = none := by
      by_cases hj : j < ρ.length
      · exact .inl (List.getElem?_set_self hj)
      · exact .inr (List.getElem?_eq_none (by rw [List.length_set]; omega))
    rcases hx with hx | hx <;> rw [hx] at h
    · rw [Option.bind_some] at h
      cases hg : gInt x with
      | none => rw [hg] at h; cases h
      | some y =>
        rw [hg, Option.bind_some] at h
        cases hr : compGo (tgN j) tTrue (e1 gInt (eV j)) ρ xs with
        | none => rw [hr] at h; cases h
        | some ys =>
          rw [hr] at h
          cases h
          obtain ⟨ns, rfl, hp⟩ := intC_go hr
          unfold gInt at hg
          split at hg
          · cases hg; exact ⟨_ :: ns, rfl, .cons rfl hp⟩
          · cases hg; exact ⟨_ :: ns, rfl, .cons rfl hp⟩
          · cases hg
    · cases h
theorem intB_of {K : PySem.W.Frag} {F : Hp} : ∀ {vs : List V} {items : List D} {ns : List Int}, Rqs K T H0 q F vs items → Paired (fun x n => gInt x = some (.int n)) items ns → IntB vs ns
  | _, _, _, .nil, .nil => .nil
  | _, _, _, .cons r rs, .cons p ps => by
    refine .cons ?_ (intB_of rs ps)
    unfold gInt at p
    split at p
    · cases p; cases r; exact .inl rfl
    · cases p; cases r; exact .inr ⟨_, rfl, rfl⟩
    · cases p
theorem de_intC {iter : Expr} {x : Str} {scope : Scope} {px p1 p2 p3 pos : Pos} {cl : List (Str × Addr)} {j : Nat} (hot : HotZ X H0) (hi : DE X T H0 Γ iter fe (.bl q)) (hm : X.mg "int" = none) (hclos : closureFor scope X.env = pure cl) (hcell : ∀ y ∈ scope.names, y.2 ≠ .cell)
    (hkind : scope.kind = .function) (hnames : ∀ y ∈ scope.names, y.2 = .local → scope.names.lookup y.1 = some .local) (hx : scope.names.lookup x = some .local) (hgi : ∀ C, (compEnvC scope cl C X.env).kindOf "int" = some .globalImplicit)
    (hlx : ∀ C, (compEnvC scope cl C X.env).kindOf x = some .local) (hd : (x == ("__debug__" : Str)) = false) (hs : ∀ x, foldedSetIterable iter X.env x = pure x)
    (hse : ∀ C, starEach [.Name x p2] (compEnvC scope cl C X.env) = (false, eval (.Name x p2) (compEnvC scope cl C X.env)) :: starEach [] (compEnvC scope cl C X.env)) :
    DE X T H0 Γ (.ListComp (.Call (.Name "int" p1) [.Name x p2] [] p3) [⟨.Name x px, iter, [], 0⟩] scope pos) (eComp (iSeq fe) (tgN j) tTrue (e1 gInt (eV j))) (.ol .A) :=
  PE.wk (pe_intC hi hm hclos hcell hkind hnames hx hgi hlx hd hs hse) fun σ H Q ⟨F, O, ρ, d, R, hf, hq⟩ => by
    unfold eComp iSeq at hf
    cases h1 : fe ρ with
    | none => rw [h1] at hf; cases hf
    | some dl =>
      rw [h1] at hf
      simp only [Option.bind_some] at hf
      refine ⟨F, O, ρ, dl, R, h1, fun F1 H1 v R1 s1 t1 rp => ⟨hot.hot R1, ?_⟩⟩
      obtain ⟨p, vs, ds, rfl, rfl, hp, rs⟩ := rp
      simp only [Option.bind_some] at hf
      cases h2 : compGo (tgN j) tTrue (e1 gInt (eV j)) ρ ds with
      | none => rw [h2] at hf; cases hf
      | some es =>
        rw [h2, Option.bind_some] at hf
        split at hf
        · cases hf
          obtain ⟨ns, rfl, hpn⟩ := intC_go h2
          exact ⟨p, vs, ns, rfl, hp, intB_of rs hpn, fun D hD => new_lst R1 (vals_reps _) (fun F' H' w R' s' t' r' => hq F' H' w R' (s1.trans s') (t1.trans t') r') D hD⟩
        · cases hf
def intCk (scope : Scope) (x : Str) : Bool :=
  (match scope.kind with | .function => true | _ => false) && (scope.names.all fun y => match y.2 with | .free => false | .cell => false | .local => decide (scope.names.lookup y.1 = some .local) | _ => true) &&
    decide (scope.names.lookup x = some .local) && decide (scope.names.lookup ("int" : Str) = some .globalImplicit) && !(x == ("__debug__" : Str))
theorem relabel_same {scope : Scope} {env : Env} (h : ∀ y ∈ scope.names, y.2 ≠ .free) : (relabel scope env).names = scope.names := by
  unfold relabel
  refine (List.map_congr_left fun y hy => ?_).trans (List.map_id _)
  obtain ⟨n, k⟩ := y
  have hk := h _ hy
  cases k <;> first | rfl | exact absurd rfl hk
theorem de_intC2 {iter : Expr} {x : Str} {scope : Scope} {px p1 p2 p3 pos : Pos} {j : Nat} (hot : HotZ X H0) (hi : DE X T H0 Γ iter fe (.bl q)) (hm : X.mg "int" = none) (hck : intCk scope x = true := by first | decide +kernel | kernel_rfl | rfl)
    (hs : ∀ x, foldedSetIterable iter X.env x = pure x := by intro _; rfl) :
    DE X T H0 Γ (.ListComp (.Call (.Name "int" p1) [.Name x p2] [] p3) [⟨.Name x px, iter, [], 0⟩] scope pos) (eComp (iSeq fe) (tgN j) tTrue (e1 gInt (eV j))) (.ol .A) := by
  unfold intCk at hck
  simp only [Bool.and_eq_true, decide_eq_true_eq, List.all_eq_true, Bool.not_eq_true'] at hck
  obtain ⟨⟨⟨⟨h1, h2⟩, h3⟩, h4⟩, h5⟩ := hck
  have hkind : scope.kind = .function := by
    split at h1
    · assumption
    · cases h1
  have free : ∀ y ∈ scope.names, y.2 ≠ .free := fun y hy e => by have := h2 y hy; rw [e] at this; cases this
  refine de_intC (cl := cloFrom X.env.cells scope.names []) hot hi hm (closure_ok fun y hy e => absurd e (free y hy)) (fun y hy e => ?_) hkind (fun y hy e => ?_) h3 (fun C => ?_) (fun C => ?_) h5 hs fun C => rfl
  · have := h2 y hy; rw [e] at this; cases this
  · have := h2 y hy; rw [e] at this; simpa using this
  · show (relabel scope X.env).names.lookup _ = _
    rw [relabel_same free]; exact h4
  · show (relabel scope X.env).names.lookup _ = _
    rw [relabel_same free]; exact h3
end
end DL

namespace DL
open PySem PySem.Spec PyProof.Rows L2
theorem seq_nx {f g : SF} {ρ ρ' : List D} (h : f ρ = some (.nx ρ')) : sSeq f g ρ = g ρ' := by unfold sSeq; rw [h]; rfl
theorem seq_rt {f g : SF} {ρ : List D} {d : D} (h : f ρ = some (.rt d)) : sSeq f g ρ = some (.rt d) := by unfold sSeq; rw [h]; rfl
theorem if_t {t : List D → Option Bool} {f g : SF} {ρ : List D} (h : t ρ = some true) : sIf t f g ρ = f ρ := by unfold sIf; rw [h]; rfl
theorem if_f {t : List D → Option Bool} {f g : SF} {ρ : List D} (h : t ρ = some false) : sIf t f g ρ = g ρ := by unfold sIf; rw [h]; rfl
theorem fnD_rt {pks : List PKn} {m : Nat} {nx : Bool} {b : SF} {args : List D} {d : D} (hc : chks pks args = true) (h : b (args ++ List.replicate m .non) = some (.rt d)) : fnD pks m nx b args = some d := by unfold fnD; rw [if_pos hc, h]; rfl
theorem for_eq {fi : List D → Option (List D)} {tg : D → List D → Option (List D)} {b : SF} {cl : List Nat} {ρ : List D} {items : List D} (h : fi ρ = some items) : sFor fi tg b cl ρ = loopD tg b cl items (clrs cl ρ) := by unfold sFor; rw [h]; rfl
theorem loop_fold {S α : Type} {tg : D → List D → Option (List D)} {b : SF} {cl : List Nat} (enc : S → List D) (f : α → D) (step : S → α → S) (Pv : S → Prop) :
    ∀ (xs : List α) (s : S), Pv s → (∀ s x, x ∈ xs → Pv s → Pv (step s x) ∧ ∃ ρ1 ρ2, tg (f x) (enc s) = some ρ1 ∧ (b ρ1 = some (.nx ρ2) ∨ b ρ1 = some (.ct ρ2)) ∧ clrs cl ρ2 = enc (step s x)) →
      loopD tg b cl (xs.map f) (enc s) = some (.nx (enc (xs.foldl step s))) ∧ Pv (xs.foldl step s)
  | [], s, hs, _ => ⟨rfl, hs⟩
  | x :: xs, s, hs, h => by
    obtain ⟨h1, ρ1, ρ2, h2, h3, h4⟩ := h s x List.mem_cons_self hs
    have ih := loop_fold enc f step Pv xs (step s x) h1 fun s y hy => h s y (List.mem_cons_of_mem _ hy)
    refine ⟨?_, ih.2⟩
    rw [List.map_cons]
    unfold loopD
    rw [h2, Option.bind_some]
    rcases h3 with h3 | h3 <;> (rw [h3, Option.bind_some]; show loopD tg b cl (xs.map f) (clrs cl ρ2) = _; rw [h4]; exact ih.1)
theorem loop_inv {tg : D → List D → Option (List D)} {b : SF} {cl : List Nat} (ρ : Nat → List D) (n : Nat) {items r0 : List D} (hn : items.length = n) (h0 : r0 = ρ 0) (h : ∀ i (hi : i < n) x, items[i]? = some x → ∃ ρ1 ρ2, tg x (ρ i) = some ρ1 ∧ (b ρ1 = some (.nx ρ2) ∨ b ρ1 = some (.ct ρ2)) ∧ clrs cl ρ2 = ρ (i + 1)) :
    loopD tg b cl items r0 = some (.nx (ρ n)) := by
  subst h0
  have key : ∀ k i, i + k = n → loopD tg b cl (items.drop i) (ρ i) = some (.nx (ρ n)) := by
    intro k
    induction k with
    | zero =>
      intro i hi
      rw [List.drop_of_length_le (by omega)]
      have : i = n := by omega
      subst this; rfl
    | succ k ih =>
      intro i hi
      have hlt : i < items.length := by omega
      rw [List.drop_eq_getElem_cons hlt]
      obtain ⟨ρ1, ρ2, h2, h3, h4⟩ := h i (by omega) _ (List.getElem?_eq_getElem hlt)
      unfold loopD
      rw [h2, Option.bind_some]
      rcases h3 with h3 | h3 <;> (rw [h3, Option.bind_some]; show loopD tg b cl (items.drop (i + 1)) (clrs cl ρ2) = _; rw [h4]; exact ih (i + 1) (by omega))
  simpa using key n 0 (by omega)
theorem comp_map {α : Type} {tg : D → List D → Option (List D)} {tt : List D → Option Bool} {fe : EF} {ρ : List D} (f : α → D) (g : α → D) : ∀ (xs : List α), (∀ x ∈ xs, ∃ ρ1, tg (f x) ρ = some ρ1 ∧ tt ρ1 = some true ∧ fe ρ1 = some (g x)) →
    compGo tg tt fe ρ (xs.map f) = some (xs.map g)
  | [], _ => rfl
  | x :: xs, h => by
    obtain ⟨ρ1, h1, h2, h3⟩ := h x List.mem_cons_self
    rw [List.map_cons, List.map_cons]
    unfold compGo
    rw [h1, Option.bind_some, h2, Option.bind_some, if_pos rfl, h3, Option.bind_some, comp_map f g xs fun y hy => h y (List.mem_cons_of_mem _ hy)]
    rfl
theorem comp_filter {α : Type} {tg : D → List D → Option (List D)} {tt : List D → Option Bool} {fe : EF} {ρ : List D} (f : α → D) (p : α → Bool) (g : α → D) : ∀ (xs : List α), (∀ x ∈ xs, ∃ ρ1, tg (f x) ρ = some ρ1 ∧ tt ρ1 = some (p x) ∧ (p x = true → fe ρ1 = some (g x))) →
    compGo tg tt fe ρ (xs.map f) = some ((xs.filter p).map g)
  | [], _ => rfl
  | x :: xs, h => by
    obtain ⟨ρ1, h1, h2, h3⟩ := h x List.mem_cons_self
    have ih := comp_filter f p g xs fun y hy => h y (List.mem_cons_of_mem _ hy)
    rw [List.map_cons]
    unfold compGo
    rw [h1, Option.bind_some, h2, Option.bind_some]
    cases hp : p x with
    | true => rw [if_pos rfl, h3 hp, Option.bind_some, ih, List.filter_cons_of_pos hp]; rfl
    | false => rw [if_neg Bool.false_ne_true, ih, List.filter_cons_of_neg (by rw [hp]; exact Bool.false_ne_true)]
theorem comp_eq {fi : List D → Option (List D)} {tg : D → List D → Option (List D)} {tt : List D → Option Bool} {fe : EF} {ρ items ds : List D} (h : fi ρ = some items) (h2 : compGo tg tt fe ρ items = some ds) (hl : ds.length ≤ 1000000) : eComp fi tg tt fe ρ = some (.lst ds) := by
  unfold eComp; rw [h, Option.bind_some, h2, Option.bind_some, if_pos hl]
theorem rangeD_nat (n : Nat) : rangeD 0 (n : Int) = (List.range n).map fun (i : Nat) => D.int (i : Int) := by
  unfold rangeD
  have : ((n : Int) - 0).toNat = n := by omega
  rw [this]
  apply List.map_congr_left
  intro i _
  rw [Int.zero_add]
theorem atI_map {α : Type} {f : α → D} {xs : List α} {i : Int} {x : α} (h : atI xs i = some x) : atI (xs.map f) i = some (f x) := by
  unfold atI at h ⊢
  rw [List.length_map]
  cases h1 : ixN xs.length i with
  | none => rw [h1] at h; cases h
  | some j =>
    rw [h1] at h
    simp only [Option.bind_some] at h ⊢
    rw [List.getElem?_map, h]; rfl
theorem atI_mapN {α : Type} {f : α → D} {xs : List α} {i : Nat} {x : α} (h : xs[i]? = some x) : atI (xs.map f) (i : Int) = some (f x) := atI_map (atI_nat h)
theorem atI_ex {α : Type} {xs : List α} {i : Int} (h0 : 0 ≤ i) (h1 : i < xs.length) : ∃ x, atI xs i = some x := by
  obtain ⟨k, rfl⟩ : ∃ k : Nat, i = k := ⟨i.toNat, by omega⟩
  exact ⟨xs[k]'(by omega), atI_nat (List.getElem?_eq_getElem (by omega))⟩
theorem atI_ints {ns : List Int} {i : Int} (h0 : 0 ≤ i) (h1 : i < ns.length) : ∃ c, atI (ns.map D.int) i = some (.int c) := by
  obtain ⟨x, h⟩ := atI_ex h0 h1
  exact ⟨x, atI_map h⟩
theorem small_b {n : Nat} {i : Int} (h1 : -1000000000 ≤ i) (h2 : i ≤ 1000000000) (hn : 30 ≤ n := by decide) : small n i := by
  have h : i.natAbs < 2 ^ 30 := by omega
  have := PySem.Flt.log2_lt_of (k := 30) (by decide) h
  unfold small
  omega
theorem mulOk_r {i j : Int} (h1 : -1000000000 ≤ j) (h2 : j ≤ 1000000000) : mulOk i j := .inr (.inl (small_b h1 h2))
theorem divOk {j : Int} (h : 0 < j) (h2 : j ≤ 1000000000) : 0 < j ∧ small 9000 j := ⟨h, small_b (by omega) h2⟩
end DL
namespace DL
theorem st_nx {f g : SF} {ρ ρ' : List D} {R : Option Out} (h : f ρ = some (.nx ρ')) (k : g ρ' = R) : sSeq f g ρ = R := (seq_nx h).trans k
end DL

namespace DL
open PySem PySem.Spec PyProof.Rows L2
theorem bitOr_nat (a b : Nat) : Builtin.bitOr (a : Int) (b : Int) = ((a ||| b : Nat) : Int) := by
  unfold Builtin.bitOr Builtin.bitAnd Builtin.bitNot
  have h1 : decide (0 ≤ (-(a : Int) - 1)) = false := decide_eq_false (by omega)
  have h2 : decide (0 ≤ (-(b : Int) - 1)) = false := decide_eq_false (by omega)
  rw [h1, h2]
  show -(-(((((-(-(a : Int) - 1) - 1)).toNat ||| ((-(-(b : Int) - 1) - 1)).toNat) : Nat) : Int) - 1) - 1 = _
  have e1 : (-(-(a : Int) - 1) - 1).toNat = a := by omega
  have e2 : (-(-(b : Int) - 1) - 1).toNat = b := by omega
  rw [e1, e2]
  omega
theorem bitAnd_nat (a b : Nat) : Builtin.bitAnd (a : Int) (b : Int) = ((a &&& b : Nat) : Int) := by
  unfold Builtin.bitAnd
  have h1 : decide (0 ≤ (a : Int)) = true := decide_eq_true (by omega)
  have h2 : decide (0 ≤ (b : Int)) = true := decide_eq_true (by omega)
  rw [h1, h2]
  rfl
theorem and_pow (b t : Nat) : decide (0 < b &&& 2 ^ t) = b.testBit t := by
  cases h : b.testBit t with
  | true =>
    refine decide_eq_true (Nat.pos_of_ne_zero fun z => ?_)
    have : (b &&& 2 ^ t).testBit t = true := by rw [Nat.testBit_and, h, Nat.testBit_two_pow]; simp
    rw [z, Nat.zero_testBit] at this
    cases this
  | false =>
    refine decide_eq_false fun z => ?_
    have : b &&& 2 ^ t = 0 := Nat.eq_of_testBit_eq fun i => by
      rw [Nat.testBit_and, Nat.testBit_two_pow, Nat.zero_testBit]
      by_cases hi : t = i
      · subst hi; rw [h]; rfl
      · simp [hi]
    omega
def asD (l : List Nat) : List D := l.map fun (n : Nat) => D.int n
theorem asD_len (l : List Nat) : (asD l).length = l.length := by simp [asD]
theorem dok_ints : ∀ l : List Nat, (asD l).all (dok 5) = true := fun l => List.all_eq_true.mpr fun d hd => by
  obtain ⟨n, _, rfl⟩ := List.mem_map.mp hd
  rfl
theorem dok_asD (l : List Nat) : dok 6 (.lst (asD l)) = true := dok_ints l
theorem gEqD_refl {x : D} (h : dok 6 x = true) : gEqD x x = some (.bl true) := by
  unfold gEqD
  rw [if_pos ⟨h, h⟩, SeqAt.eqv_refl _ (conv_ok 6 x h).1]
theorem gNeD_refl {x : D} (h : dok 6 x = true) : gNeD x x = some (.bl false) := by
  unfold gNeD
  rw [if_pos ⟨h, h⟩, SeqAt.eqv_refl _ (conv_ok 6 x h).1]; rfl
theorem gInD_nat (t : Nat) (l : List Nat) : gInD (.int t) (.lst (asD l)) = some (.bl (decide (t ∈ l))) := by
  unfold gInD
  have h : (asD l).all (dok 6) = true := List.all_eq_true.mpr fun d hd => by
    obtain ⟨n, _, rfl⟩ := List.mem_map.mp hd
    rfl
  show (if dok 6 (D.int t) = true ∧ (asD l).all (dok 6) = true then _ else _) = _
  rw [if_pos ⟨rfl, h⟩]
  congr 2
  unfold asD
  rw [List.any_map]
  rw [Bool.eq_iff_iff, List.any_eq_true, decide_eq_true_eq]
  constructor
  · rintro ⟨n, hn, e⟩
    have : ((n : Int) = (t : Int)) := by simpa [conv, PyData.eqv] using e
    have : n = t := by omega
    subst this; exact hn
  · intro ht
    exact ⟨t, ht, by simp [conv, PyData.eqv]⟩
theorem intsOf_asD (l : List Nat) : intsOf (asD l) = some (l.map fun (n : Nat) => (n : Int)) := by
  have : asD l = (l.map fun (n : Nat) => (n : Int)).map D.int := by unfold asD; rw [List.map_map]; rfl
  rw [this, intsOf_map]
theorem asD_app (a b : List Nat) : asD (a ++ b) = asD a ++ asD b := by unfold asD; rw [List.map_append]
theorem asD_one (a : Nat) : asD [a] = [.int (a : Int)] := rfl
theorem lfs_asD : ∀ l : List Nat, D.lfs (asD l) = true
  | [] => rfl
  | _ :: l => lfs_asD l

def sumB (p : Nat → Bool) (n : Nat) : Nat := (((List.range n).filter p).map (2 ^ ·)).sum
theorem sumB_succ (p : Nat → Bool) (n : Nat) : sumB p (n + 1) = (if p n = true then 2 ^ n else 0) + sumB p n := by
  unfold sumB
  rw [List.range_succ, List.filter_append, List.map_append, List.sum_append, Nat.add_comm]
  congr 1
  cases h : p n <;> simp [h]
theorem sumB_lt (p : Nat → Bool) : ∀ n, sumB p n < 2 ^ n
  | 0 => Nat.zero_lt_one
  | n + 1 => by
    have := sumB_lt p n
    rw [sumB_succ, Nat.pow_succ]
    split <;> omega
theorem sumB_test (p : Nat → Bool) (t : Nat) : ∀ n, (sumB p n).testBit t = (decide (t < n) && p t)
  | 0 => by simp [sumB]
  | n + 1 => by
    have ih := sumB_test p t n
    have hl := sumB_lt p n
    by_cases h1 : t < n
    · rw [sumB_succ]
      split
      · rw [Nat.testBit_two_pow_add_gt h1, ih]
        simp [h1, show t < n + 1 by omega]
      · rw [Nat.zero_add, ih]
        simp [h1, show t < n + 1 by omega]
    · by_cases h2 : t = n
      · subst h2
        have h3 : (sumB p t).testBit t = false := Nat.testBit_lt_two_pow hl
        rw [sumB_succ]
        split
        · rename_i h; rw [Nat.testBit_two_pow_add_eq, h3, h]; simp
        · rename_i h; rw [Nat.zero_add, h3]; simp [h]
      · have h3 : sumB p (n + 1) < 2 ^ t := Nat.lt_of_lt_of_le (sumB_lt p (n + 1)) (Nat.pow_le_pow_right (by omega) (by omega))
        rw [Nat.testBit_lt_two_pow h3]
        simp [show ¬ t < n + 1 by omega]
end DL

namespace DL
open PySem PySem.Spec PyProof.Rows L2
theorem loop_ex {tg : D → List D → Option (List D)} {b : SF} {cl : List Nat} (I : Nat → List D → Prop) (n : Nat) {items r0 : List D} (hn : items.length = n) (h0 : I 0 r0)
    (h : ∀ i (hi : i < n) x, items[i]? = some x → ∀ ρ, I i ρ → ∃ ρ1 ρ2, tg x ρ = some ρ1 ∧ (b ρ1 = some (.nx ρ2) ∨ b ρ1 = some (.ct ρ2)) ∧ I (i + 1) (clrs cl ρ2)) :
    ∃ ρ', loopD tg b cl items r0 = some (.nx ρ') ∧ I n ρ' := by
  have key : ∀ k i ρ, i + k = n → I i ρ → ∃ ρ', loopD tg b cl (items.drop i) ρ = some (.nx ρ') ∧ I n ρ' := by
    intro k
    induction k with
    | zero =>
      intro i ρ hi hI
      rw [List.drop_of_length_le (by omega)]
      have : i = n := by omega
      subst this
      exact ⟨ρ, rfl, hI⟩
    | succ k ih =>
      intro i ρ hi hI
      have hlt : i < items.length := by omega
      rw [List.drop_eq_getElem_cons hlt]
      obtain ⟨ρ1, ρ2, h2, h3, h4⟩ := h i (by omega) _ (List.getElem?_eq_getElem hlt) ρ hI
      obtain ⟨ρ', h5, h6⟩ := ih (i + 1) _ (by omega) h4
      refine ⟨ρ', ?_, h6⟩
      unfold loopD
      rw [h2, Option.bind_some]
      rcases h3 with h3 | h3 <;> (rw [h3, Option.bind_some]; exact h5)
  simpa using key n 0 r0 (by omega) h0
theorem loop_find {α : Type} {tg : D → List D → Option (List D)} {b : SF} {cl : List Nat} {ρ : List D} (f : α → D) (p : α → Bool) (d : D) : ∀ (xs : List α),
    (∀ x ∈ xs, ∃ ρ1, tg (f x) ρ = some ρ1 ∧ ((p x = true ∧ b ρ1 = some (.rt d)) ∨ (p x = false ∧ ∃ ρ2, (b ρ1 = some (.nx ρ2) ∨ b ρ1 = some (.ct ρ2)) ∧ clrs cl ρ2 = ρ))) →
    loopD tg b cl (xs.map f) ρ = if xs.any p = true then some (.rt d) else some (.nx ρ)
  | [], _ => rfl
  | x :: xs, h => by
    obtain ⟨ρ1, h1, h2⟩ := h x List.mem_cons_self
    have ih := loop_find f p d xs fun y hy => h y (List.mem_cons_of_mem _ hy)
    rw [List.map_cons, List.any_cons]
    unfold loopD
    rw [h1, Option.bind_some]
    rcases h2 with ⟨hp, h2⟩ | ⟨hp, ρ2, h2, h3⟩
    · rw [h2, hp]; rfl
    · rw [hp, Bool.false_or, ← ih]
      rcases h2 with h2 | h2 <;> (rw [h2, Option.bind_some]; show loopD tg b cl (xs.map f) (clrs cl ρ2) = _; rw [h3])
theorem loop_same {α : Type} {tg : D → List D → Option (List D)} {b : SF} {cl : List Nat} {ρ : List D} (f : α → D) (xs : List α)
    (h : ∀ x ∈ xs, ∃ ρ1 ρ2, tg (f x) ρ = some ρ1 ∧ (b ρ1 = some (.nx ρ2) ∨ b ρ1 = some (.ct ρ2)) ∧ clrs cl ρ2 = ρ) :
    loopD tg b cl (xs.map f) ρ = some (.nx ρ) :=
  (loop_fold (enc := fun (_ : Unit) => ρ) (f := f) (step := fun u _ => u) (Pv := fun _ => True) xs () trivial fun _ x hx _ => ⟨trivial, h x hx⟩).1
theorem gAll_map {α : Type} (p : α → Bool) (xs : List α) : gAll (.lst (xs.map fun x => D.bl (p x))) = some (.bl (xs.all p)) := by
  have : (xs.map fun x => D.bl (p x)) = (xs.map p).map D.bl := by rw [List.map_map]; rfl
  show (blsOf _).map _ = _
  rw [this, blsOf_map]
  show some (D.bl ((xs.map p).all id)) = _
  rw [List.all_map]; rfl
theorem bit_lt {b n t : Nat} (h : b < 2 ^ n) (ht : b.testBit t = true) : t < n := by
  refine Nat.lt_of_not_le fun h9 => ?_
  rw [Nat.testBit_lt_two_pow (Nat.lt_of_lt_of_le h (Nat.pow_le_pow_right (by omega) h9))] at ht
  cases ht
theorem small_n {k m : Nat} (h : m ≤ 1000000000) (hk : 30 ≤ k := by decide) : small k (m : Int) := small_b (by omega) (by omega) hk
theorem range_item {n t : Nat} {d : D} (ht : t < n) (h : ((List.range n).map fun (i : Nat) => D.int (i : Int))[t]? = some d) : d = .int (t : Int) := by
  rw [List.getElem?_map, List.getElem?_range ht] at h
  cases h; rfl
theorem flen (p : Nat → Bool) (n : Nat) : ((List.range n).filter p).length ≤ n := by have := List.length_filter_le p (List.range n); simpa using this
end DL

namespace DL
open PySem PySem.Spec PyProof.Rows L2
end DL

namespace Lw
open PySem PySem.Spec PyProof.Rows L2 DL
def b__law_cell_at : SF := (sSeq (sSet 2 (eK (.int 0)))
 (sSeq (sIf (t2b (e2 gGt (e1 gLen (eV 0)) (eK (.int 0)))) (sSet 2 (eA (e2 gIx (eV 0) (e2 gMod (eV 1) (e1 gLen (eV 0)))))) sNil)
 (sSeq (sSet 3 (e2 gMod (e2 gMul (e2 gAdd (eV 2) (e2 gMul (eK (.int 7919)) (e2 gAdd (eV 1) (eK (.int 1))))) (eK (.int 6364136223846793005))) (eK (.int 2305843009213693951))))
 (sRet (e2 gAdd (e2 gMul (e2 gDiv (e2 gMod (eV 2) (e2 gPow (eK (.int 10)) (eK (.int 60)))) (eK (.int 2305843009213693951))) (eK (.int 2305843009213693951))) (eV 3))))))
def den__law_cell_at : List D → Option D := fnD [.U, .A] 2 false b__law_cell_at
def b_things_of : SF := (sRet (eComp (iRg1 (eK (.int 9))) (tgN 1) (t2b (e2 gGt (e2 gAnd (eV 0) (e2 gIxT (eK (.tup (List.map D.int [1, 2, 4, 8, 16, 32, 64, 128, 256, 512]))) (eV 1))) (eK (.int 0)))) (eV 1)))
def den_things_of : List D → Option D := fnD [.A] 1 false b_things_of
def b_bit_of : SF := (sRet (e2 gIxT (eK (.tup (List.map D.int [1, 2, 4, 8, 16, 32, 64, 128, 256, 512]))) (eV 0)))
def den_bit_of : List D → Option D := fnD [.A] 0 false b_bit_of
def b_set_of : SF := (sSeq (sSet 1 (eK (.int 0)))
 (sSeq (sFor (iSeq (eV 0)) (tgN 2) (sSet 1 (e2 gOr (eV 1) (eCall den_bit_of (aCons (eV 2) aNil)))) [2])
 (sRet (eV 1))))
def den_set_of : List D → Option D := fnD [.fA] 2 false b_set_of
def b__law_raw : SF := (sSeq (sIf (t2b (e2 gLt (eV 1) (e1 gLen (eV 0)))) (sRet (eA (e2 gIx (eV 0) (eV 1)))) sNil)
 (sRet (eK (.int 0))))
def den__law_raw : List D → Option D := fnD [.U, .A] 0 false b__law_raw
def b_Order_init : SF := (sSeq (sIf (bOr (t2b (e2 gLt (eV 1) (eK (.int 1)))) (t2b (e2 gGt (eV 1) (eK (.int 9))))) sNev sNil)
 (sSeq (sFor (iSeq (eV 2)) (tgT [4, 5]) (sIf (bOr (t2b (e2 gLt (eV 4) (eK (.int 0)))) (bOr (t2b (e2 gGe (eV 4) (eV 5))) (t2b (e2 gGe (eV 5) (eV 1))))) sNev sNil) [4, 5])
 (sSeq (sSf 0 (eV 1))
 (sSeq (sSf 0 (eLst aNil))
 (sFor (iRg1 (eV 1)) (tgN 3) (sSeq (sSet 6 (eK (.int 0)))
 (sSeq (sFor (iSeq (eV 2)) (tgT [4, 5]) (sIf (t2b (e2 gEqS (eV 5) (eV 3))) (sSet 6 (e2 gOr (e2 gOr (eV 6) (eCall den_bit_of (aCons (eV 4) aNil))) (e2 gIx (eSf 0 1) (eV 4)))) sNil) [4, 5])
 (sSa 0 1 (eV 6)))) [3, 6, 4, 5])))))
def den_Order_init : List D → Option (List D) := initD 0 [.A, .fA] 4 b_Order_init
def b_Order_size : SF := (sRet (eA (eFld 0 0 (eV 0))))
def den_Order_size : List D → Option D := fnD [.U] 0 false b_Order_size
def b_Order_lows_of : SF := (sRet (eA (e2 gIx (eFld 0 1 (eV 0)) (eV 1))))
def den_Order_lows_of : List D → Option D := fnD [.U, .A] 0 false b_Order_lows_of
def b_has_lows : SF := (sSeq (sSet 3 (eMeth 0 den_Order_lows_of (eV 0) (aCons (eV 2) aNil)))
 (sRet (e2 gEqS (e2 gAnd (eV 3) (eV 1)) (eV 3))))
def den_has_lows : List D → Option D := fnD [.U, .A, .A] 1 false b_has_lows
def b_is_downset : SF := (sSeq (sIf (bOr (t2b (e2 gLt (eV 1) (eK (.int 0)))) (t2b (e2 gGe (eV 1) (eCall den_bit_of (aCons (eMeth 0 den_Order_size (eV 0) aNil) aNil))))) (sRet (eK (.bl false))) sNil)
 (sRet (e1 gAll (eComp (iSeq (eCall den_things_of (aCons (eV 1) aNil))) (tgN 2) tTrue (eCall den_has_lows (aCons (eV 0) (aCons (eV 1) (aCons (eV 2) aNil))))))))
def den_is_downset : List D → Option D := fnD [.U, .A] 1 false b_is_downset
def b_needs_downset : SF := (sIf (bNot (t2b (eCall den_is_downset (aCons (eV 0) (aCons (eV 1) aNil))))) sNev sNil)
def den_needs_downset : List D → Option D := fnD [.U, .A] 0 true b_needs_downset
def b_brim : SF := (sSeq (sDrop (eCall den_needs_downset (aCons (eV 0) (aCons (eV 1) aNil))))
 (sSeq (sSet 2 (eK (.int 0)))
 (sSeq (sFor (iSeq (eCall den_things_of (aCons (eV 1) aNil))) (tgN 3) (sSet 2 (e2 gOr (eV 2) (eMeth 0 den_Order_lows_of (eV 0) (aCons (eV 3) aNil)))) [3])
 (sRet (e2 gSbI (eV 1) (eV 2))))))
def den_brim : List D → Option D := fnD [.U, .A] 2 false b_brim
def b_doors : SF := (sSeq (sDrop (eCall den_needs_downset (aCons (eV 0) (aCons (eV 1) aNil))))
 (sSeq (sSet 2 (eLst aNil))
 (sSeq (sFor (iRg1 (eMeth 0 den_Order_size (eV 0) aNil)) (tgN 3) (sIf (bAnd (t2b (e2 gEqS (e2 gAnd (eV 1) (e2 gIxT (eK (.tup (List.map D.int [1, 2, 4, 8, 16, 32, 64, 128, 256, 512]))) (eV 3))) (eK (.int 0)))) (t2b (eCall den_has_lows (aCons (eV 0) (aCons (eV 1) (aCons (eV 3) aNil)))))) (sApp 2 (eV 3)) sNil) [3])
 (sRet (eCall den_set_of (aCons (eV 2) aNil))))))
def den_doors : List D → Option D := fnD [.U, .A] 2 false b_doors
def b_downsets : SF := (sSeq (sSet 1 (eLst (aCons (eK (.int 0)) aNil)))
 (sSeq (sFor (iRg1 (eMeth 0 den_Order_size (eV 0) aNil)) (tgN 2) (sSeq (sSet 3 (eCall den_bit_of (aCons (eV 2) aNil)))
 (sSet 1 (e2 gCat (eV 1) (eComp (iSeq (eV 1)) (tgN 4) (t2b (eCall den_has_lows (aCons (eV 0) (aCons (eV 4) (aCons (eV 2) aNil))))) (e2 gAdd (eV 4) (eV 3)))))) [2, 3, 4])
 (sRet (eV 1))))
def den_downsets : List D → Option D := fnD [.U] 4 false b_downsets
def b_Order_needs_thing : SF := (sIf (bOr (t2b (e2 gLt (eV 1) (eK (.int 0)))) (t2b (e2 gGe (eV 1) (eFld 0 0 (eV 0))))) sNev sNil)
def den_Order_needs_thing : List D → Option D := fnD [.U, .A] 0 true b_Order_needs_thing
def b_Order_below : SF := (sSeq (sDrop (eMeth 0 den_Order_needs_thing (eV 0) (aCons (eV 1) aNil)))
 (sSeq (sDrop (eMeth 0 den_Order_needs_thing (eV 0) (aCons (eV 2) aNil)))
 (sRet (e2 gGt (e2 gAnd (e2 gIx (eFld 0 1 (eV 0)) (eV 2)) (e2 gIxT (eK (.tup (List.map D.int [1, 2, 4, 8, 16, 32, 64, 128, 256, 512]))) (eV 1))) (eK (.int 0))))))
def den_Order_below : List D → Option D := fnD [.U, .A, .A] 0 false b_Order_below
def b__law_any : SF := (sSeq (sSet 2 (e2 gAdd (eK (.int 1)) (e2 gMod (e2 gDiv (eCall den__law_raw (aCons (eV 0) (aCons (eK (.int 0)) aNil))) (eK (.int 2))) (eV 1))))
 (sSeq (sSet 3 (eCall den__law_raw (aCons (eV 0) (aCons (eK (.int 1)) aNil))))
 (sSeq (sSet 4 (eLst aNil))
 (sSeq (sFor (iRg1 (eV 2)) (tgN 5) (sFor (iRg1 (eV 5)) (tgN 6) (sSeq (sIf (t2b (e2 gEqS (e2 gMod (eV 3) (eK (.int 2))) (eK (.int 1)))) (sApp 4 (eTup (aCons (eV 6) (aCons (eV 5) aNil)))) sNil)
 (sSet 3 (e2 gDiv (eV 3) (eK (.int 2))))) [6]) [5, 6])
 (sRet (eTup (aCons (eV 2) (aCons (eV 4) aNil))))))))
def den__law_any : List D → Option D := fnD [.U, .A] 5 false b__law_any
def b__law_field : SF := (sSeq (sSet 2 (e2 gAdd (eK (.int 1)) (e2 gMod (eV 0) (eK (.int 3)))))
 (sSeq (sIf (t2b (e2 gGt (eV 2) (eV 1))) (sSet 2 (eK (.int 1))) sNil)
 (sSeq (sSet 3 (e2 gAdd (eK (.int 1)) (e2 gMod (e2 gDiv (eV 0) (eK (.int 3))) (e2 gDiv (eV 1) (eV 2)))))
 (sSeq (sSet 4 (eLst aNil))
 (sSeq (sFor (iRg1 (e2 gMul (eV 2) (eV 3))) (tgN 5) (sSeq (sIf (t2b (e2 gLt (e2 gMod (eV 5) (eV 3)) (e2 gSbI (eV 3) (eK (.int 1))))) (sApp 4 (eTup (aCons (eV 5) (aCons (e2 gAdd (eV 5) (eK (.int 1))) aNil)))) sNil)
 (sIf (t2b (e2 gLt (e2 gAdd (eV 5) (eV 3)) (e2 gMul (eV 2) (eV 3)))) (sApp 4 (eTup (aCons (eV 5) (aCons (e2 gAdd (eV 5) (eV 3)) aNil)))) sNil)) [5])
 (sRet (eTup (aCons (e2 gMul (eV 2) (eV 3)) (aCons (eV 4) aNil)))))))))
def den__law_field : List D → Option D := fnD [.A, .A] 4 false b__law_field
def b__law_drawn_v2 : SF := (sSeq (sIf (t2b (e2 gEqS (e2 gMod (eCall den__law_raw (aCons (eV 0) (aCons (eK (.int 0)) aNil))) (eK (.int 2))) (eK (.int 0)))) (sRet (eCall den__law_any (aCons (eV 0) (aCons (eV 1) aNil)))) sNil)
 (sSeq (sSet 2 (eCall den__law_cell_at (aCons (eV 0) (aCons (eK (.int 0)) aNil))))
 (sSeq (sSet 3 (e2 gAdd (eK (.int 1)) (e2 gMod (eV 2) (eV 1))))
 (sSeq (sSet 4 (e2 gMod (e2 gDiv (eV 2) (eK (.int 9))) (eK (.int 7))))
 (sSeq (sIf (t2b (e2 gEqS (eV 4) (eK (.int 0)))) (sRet (eCall den__law_field (aCons (e2 gDiv (eV 2) (eK (.int 63))) (aCons (eV 1) aNil)))) sNil)
 (sSeq (sIf (t2b (e2 gEqS (eV 4) (eK (.int 1)))) (sRet (eTup (aCons (eV 3) (aCons (eComp (iRg1 (e2 gSbI (eV 3) (eK (.int 1)))) (tgN 9) tTrue (eTup (aCons (eV 9) (aCons (e2 gAdd (eV 9) (eK (.int 1))) aNil)))) aNil)))) (sThen sNil [9]))
 (sSeq (sIf (bOr (t2b (e2 gLt (eV 3) (eK (.int 2)))) (t2b (e2 gEqS (eV 4) (eK (.int 2))))) (sRet (eTup (aCons (eV 3) (aCons (eLst aNil) aNil)))) sNil)
 (sSeq (sSet 5 (eLst aNil))
 (sSeq (sFor (iRg1 (e2 gAdd (eK (.int 1)) (e2 gMod (eCall den__law_cell_at (aCons (eV 0) (aCons (eK (.int 1)) aNil))) (e2 gMul (eK (.int 2)) (eV 3))))) (tgN 6) (sSeq (sSet 7 (e2 gAdd (eCall den__law_cell_at (aCons (eV 0) (aCons (e2 gAdd (eK (.int 8)) (eV 6)) aNil))) (e2 gMul (e2 gDiv (eV 2) (eK (.int 7))) (e2 gAdd (eV 6) (eK (.int 1))))))
 (sSeq (sSet 8 (e2 gMod (eV 7) (e2 gSbI (eV 3) (eK (.int 1)))))
 (sApp 5 (eTup (aCons (eV 8) (aCons (e2 gAdd (e2 gAdd (eV 8) (eK (.int 1))) (e2 gMod (e2 gDiv (eV 7) (eK (.int 9))) (e2 gSbI (e2 gSbI (eV 3) (eK (.int 1))) (eV 8)))) aNil)))))) [6, 7, 8])
 (sRet (eTup (aCons (eV 3) (aCons (eV 5) aNil)))))))))))))
def den__law_drawn_v2 : List D → Option D := fnD [.U, .A] 8 false b__law_drawn_v2
def b__law_bits : SF := (sSeq (sSet 1 (eK (.int 0)))
 (sSeq (sFor (iSeq (eV 0)) (tgN 2) (sSeq (sSet 3 (eK (.int 1)))
 (sSeq (sFor (iRg1 (eV 2)) (tgN 4) (sSet 3 (e2 gMul (eV 3) (eK (.int 2)))) [4])
 (sSet 1 (e2 gAdd (eV 1) (eV 3))))) [2, 3, 4])
 (sRet (eV 1))))
def den__law_bits : List D → Option D := fnD [.fA] 4 false b__law_bits
def b__law_free : SF := (sSeq (sIf (t2b (e2 gEqS (e2 gMod (eCall den__law_raw (aCons (eV 0) (aCons (eK (.int 0)) aNil))) (eK (.int 2))) (eK (.int 0)))) (sRet (eCall den__law_raw (aCons (eV 0) (aCons (eV 1) aNil)))) sNil)
 (sRet (eCall den__law_cell_at (aCons (eV 0) (aCons (eV 1) aNil)))))
def den__law_free : List D → Option D := fnD [.U, .A] 0 false b__law_free
def b__law_under : SF := (sSeq (sSet 2 (eLst aNil))
 (sSeq (sFor (iRg1 (eV 0)) (tgN 3) (sSeq (sSet 4 (eLst aNil))
 (sSeq (sFor (iSeq (eV 1)) (tgT [5, 6]) (sIf (t2b (e2 gEqS (eV 6) (eV 3))) (sExt 4 (e2 gCat (eLst (aCons (eV 5) aNil)) (e2 gIx (eV 2) (eV 5)))) sNil) [5, 6])
 (sApp 2 (e1 gSSet (eV 4))))) [3, 4, 5, 6])
 (sRet (eV 2))))
def den__law_under : List D → Option D := fnD [.A, .fA] 5 false b__law_under
def b_needs_things : SF := (sFor (iSeq (eV 1)) (tgN 2) (sIf (bOr (t2b (e2 gLt (eV 2) (eK (.int 0)))) (t2b (e2 gGe (eV 2) (eMeth 0 den_Order_size (eV 0) aNil)))) sNev sNil) [2])
def den_needs_things : List D → Option D := fnD [.U, .fA] 1 true b_needs_things
def b_put_or_taken : SF := (sSeq (sSet 3 (eCall den_set_of (aCons (eLst (aCons (eV 2) aNil)) aNil)))
 (sSeq (sIf (t2i (e2 gAnd (eV 3) (e2 gOr (eCall den_brim (aCons (eV 0) (aCons (eV 1) aNil))) (eCall den_doors (aCons (eV 0) (aCons (eV 1) aNil)))))) (sRet (e2 gXor (eV 1) (eV 3))) sNil)
 (sRet (eV 1))))
def den_put_or_taken : List D → Option D := fnD [.U, .A, .A] 1 false b_put_or_taken
def b__law_line : SF := (sSeq (sSet 3 (eLst aNil))
 (sSeq (sSet 4 (eCall den__law_raw (aCons (eV 1) (aCons (eV 2) aNil))))
 (sSeq (sWhile (t2b (e2 gLt (e1 gLen (eV 3)) (e1 gLen (eV 0)))) (sSeq (sSet 5 (eLst aNil))
 (sSeq (sFor (iRg1 (e1 gLen (eV 0))) (tgN 6) (sIf (bAnd (t2b (e2 gNotInD (eV 6) (eV 3))) (t2b (e1 gAll (eComp (iSeq (e2 gIx (eV 0) (eV 6))) (tgN 7) tTrue (e2 gInD (eV 7) (eV 3)))))) (sApp 5 (eV 6)) sNil) [6, 7])
 (sSeq (sIf (t2b (e2 gEqS (e2 gMod (eCall den__law_raw (aCons (eV 1) (aCons (eK (.int 0)) aNil))) (eK (.int 2))) (eK (.int 1)))) (sSet 4 (e2 gAdd (eCall den__law_cell_at (aCons (eV 1) (aCons (e2 gAdd (eV 2) (e1 gLen (eV 3))) aNil))) (e2 gMul (e2 gDiv (eCall den__law_cell_at (aCons (eV 1) (aCons (eK (.int 3)) aNil))) (eK (.int 11))) (e2 gAdd (e1 gLen (eV 3)) (eK (.int 1)))))) sNil)
 (sSeq (sApp 3 (e2 gIx (eV 5) (e2 gMod (eV 4) (e1 gLen (eV 5)))))
 (sSet 4 (e2 gDiv (eV 4) (e1 gLen (eV 5)))))))) [5, 6, 7] 10000)
 (sRet (e1 gTuple (eV 3))))))
def den__law_line : List D → Option D := fnD [.fU, .U, .A] 5 false b__law_line
def b_is_line : SF := (sSeq (sIf (t2b (e2 gNeD (e1 gSortT (eV 1)) (e1 gLrg1 (eMeth 0 den_Order_size (eV 0) aNil)))) (sRet (eK (.bl false))) sNil)
 (sSeq (sFor (iEnT (eV 1)) (tgT [2, 3]) (sFor (iTupD (eSl gSlT (eV 1) oNo (oYes (eV 2)))) (tgN 4) (sIf (t2b (eMeth 0 den_Order_below (eV 0) (aCons (eV 3) (aCons (eV 4) aNil)))) (sRet (eK (.bl false))) sNil) [4]) [2, 3, 4])
 (sRet (eK (.bl true)))))
def den_is_line : List D → Option D := fnD [.U, .A] 3 false b_is_line
def b_needs_line : SF := (sIf (bNot (t2b (eCall den_is_line (aCons (eV 0) (aCons (eV 1) aNil))))) sNev sNil)
def den_needs_line : List D → Option D := fnD [.U, .A] 0 true b_needs_line
def b_needs_places : SF := (sFor (iSeq (eV 1)) (tgN 2) (sIf (bOr (t2b (e2 gLt (eV 2) (eK (.int 0)))) (t2b (e2 gGt (eV 2) (e2 gSbI (eMeth 0 den_Order_size (eV 0) aNil) (eK (.int 2)))))) sNev sNil) [2])
def den_needs_places : List D → Option D := fnD [.U, .fA] 1 true b_needs_places
def b_exchanged : SF := (sSeq (sSet 3 (e2 gIxT (eV 1) (eV 2)))
 (sSeq (sSet 4 (e2 gIxT (eV 1) (e2 gAdd (eV 2) (eK (.int 1)))))
 (sSeq (sIf (t2b (eMeth 0 den_Order_below (eV 0) (aCons (eV 3) (aCons (eV 4) aNil)))) (sRet (eV 1)) sNil)
 (sRet (e2 gCatT (e2 gCatT (eSl gSlT (eV 1) oNo (oYes (eV 2))) (eTup (aCons (eV 4) (aCons (eV 3) aNil)))) (eSl gSlT (eV 1) (oYes (e2 gAdd (eV 2) (eK (.int 2)))) oNo))))))
def den_exchanged : List D → Option D := fnD [.U, .A, .A] 2 false b_exchanged
def b__law_bits_v3 : SF := (sSeq (sSet 1 (eK (.int 0)))
 (sSeq (sFor (iTupD (eV 0)) (tgN 2) (sSeq (sSet 3 (eK (.int 1)))
 (sSeq (sFor (iRg1 (eV 2)) (tgN 4) (sSet 3 (e2 gMul (eV 3) (eK (.int 2)))) [4])
 (sSet 1 (e2 gAdd (eV 1) (eV 3))))) [2, 3, 4])
 (sRet (eV 1))))
def den__law_bits_v3 : List D → Option D := fnD [.A] 4 false b__law_bits_v3
def b_ends : SF := (sSeq (sSet 1 (eK (.dic [] [])))
 (sSeq (sFor (iRv (eCall den_downsets (aCons (eV 0) aNil))) (tgN 2) (sSeq (sSet 3 (eCall den_things_of (aCons (eCall den_doors (aCons (eV 0) (aCons (eV 2) aNil))) aNil)))
 (sIf (t2t (eV 3)) (sThen (sDPutD 1 (eV 2) (e1 gSum (eComp (iSeq (eV 3)) (tgN 4) tTrue (e2 gDGet (eV 1) (e2 gAdd (eV 2) (eCall den_set_of (aCons (eLst (aCons (eV 4) aNil)) aNil))))))) [4]) (sThen (sDPutD 1 (eV 2) (eK (.int 1))) [4]))) [2, 3, 4])
 (sRet (eV 1))))
def den_ends : List D → Option D := fnD [.U] 4 false b_ends
def b_needs_downset_X : SF := (sIf (bNot (t2b (eCall den_is_downset (aCons (eV 0) (aCons (eV 1) aNil))))) (sRaise 12 (aCons (eV 1) aNil)) sNil)
def den_needs_downset_X : List D → Option Res := fnX [.U, .A] 0 true b_needs_downset_X
def b_needs_line_X : SF := (sIf (bNot (t2b (eCall den_is_line (aCons (eV 0) (aCons (eV 1) aNil))))) (sRaise 15 aNil) sNil)
def den_needs_line_X : List D → Option Res := fnX [.U, .A] 0 true b_needs_line_X
def b_walker : SF := (sSeq (sDrop (eCall den_needs_things (aCons (eV 0) (aCons (eV 1) aNil))))
 (sSet 2 (e1 gList (eV 1))))
def den_walker : List D → Option D := mkD [.fA] 2 [0, 2] b_walker
def b_leader : SF := (sSeq (sDrop (eCall den_needs_places (aCons (eV 0) (aCons (eV 1) aNil))))
 (sSet 2 (e1 gList (eV 1))))
def den_leader : List D → Option D := mkD [.fA] 2 [0, 2] b_leader
def b__law_no_downset : SF := (sSeq (sSet 2 (e1 gLen (eV 0)))
 (sSeq (sSet 3 (eCall den__law_bits (aCons (e1 gLrg1 (eV 2)) aNil)))
 (sSeq (sSet 4 (eLst (aCons (e2 gSbI (e2 gSbI (eK (.int 0)) (eK (.int 1))) (e2 gMod (e2 gDiv (eV 1) (eK (.int 4))) (eK (.int 1000)))) (aCons (e2 gAdd (e2 gAdd (eV 3) (eK (.int 1))) (e2 gMod (e2 gDiv (eV 1) (eK (.int 4))) (eK (.int 1000)))) (aCons (e2 gSbI (e2 gSbI (eK (.int 0)) (eK (.int 1))) (e2 gMod (eV 1) (e2 gPow (eK (.int 10)) (eK (.int 20))))) aNil)))))
 (sSeq (sFor (iRg1 (eV 2)) (tgN 5) (sIf (t2b (e2 gGt (e1 gLen (e2 gIx (eV 0) (eV 5))) (eK (.int 0)))) (sApp 4 (eCall den__law_bits (aCons (e2 gCat (eLst (aCons (eV 5) aNil)) (eSl gSlL (e2 gIx (eV 0) (eV 5)) (oYes (eK (.int 1))) oNo)) aNil))) sNil) [5])
 (sRet (e2 gIx (eV 4) (e2 gMod (eV 1) (e1 gLen (eV 4)))))))))
def den__law_no_downset : List D → Option D := fnD [.fU, .A] 4 false b__law_no_downset
def b__law_no_line : SF := (sSeq (sSet 3 (e1 gLen (eZt 0)))
 (sSeq (sSet 4 (eLst (aCons (eSl gSlT (eZt 0) (oYes (eK (.int 1))) oNo) (aCons (e2 gCatT (eZt 0) (eTup (aCons (eK (.int 0)) aNil))) (aCons (e2 gCatT (eSl gSlT (eZt 0) oNo (oYes (e1 gNeg (eK (.int 1))))) (eTup (aCons (eV 3) aNil))) (aCons (e2 gCatT (eTup (aCons (e2 gSbI (eK (.int 0)) (eK (.int 1))) aNil)) (eSl gSlT (eZt 0) (oYes (eK (.int 1))) oNo)) aNil))))))
 (sSeq (sIf (t2b (e2 gGt (eV 3) (eK (.int 1)))) (sApp 4 (e2 gCatT (eSl gSlT (eZt 0) oNo (oYes (e1 gNeg (eK (.int 1))))) (eSl gSlT (eZt 0) oNo (oYes (eK (.int 1)))))) sNil)
 (sSeq (sFor (iRg1 (eV 3)) (tgN 5) (sIf (t2b (e2 gGt (e1 gLen (e2 gIx (eV 1) (eV 5))) (eK (.int 0)))) (sThen (sSeq (sSet 6 (e2 gTix (eZt 0) (eV 5)))
 (sApp 4 (e2 gCatT (e2 gCatT (eTup (aCons (eV 5) aNil)) (eSl gSlT (eZt 0) oNo (oYes (eV 6)))) (eSl gSlT (eZt 0) (oYes (e2 gAdd (eV 6) (eK (.int 1)))) oNo)))) [6]) (sThen sNil [6])) [5, 6])
 (sRet (e2 gIx (eV 4) (e2 gMod (eV 2) (e1 gLen (eV 4)))))))))
def den__law_no_line : List D → Option D := fnD [.U, .fU, .A] 4 false b__law_no_line
def b_needs_places_X : SF := (sFor (iSeq (eV 1)) (tgN 2) (sIf (bOr (t2b (e2 gLt (eV 2) (eK (.int 0)))) (t2b (e2 gGt (eV 2) (e2 gSbI (eMeth 0 den_Order_size (eV 0) aNil) (eK (.int 2)))))) (sRaise 13 (aCons (eV 2) aNil)) sNil) [2])
def den_needs_places_X : List D → Option Res := fnX [.U, .fA] 1 true b_needs_places_X
def b_led_X : SF := (sSeq (xDrop (xCall den_needs_line_X (aCons (eV 0) (aCons (eV 1) aNil))))
 (sSeq (xDrop (xCall den_needs_places_X (aCons (eV 0) (aCons (eV 2) aNil))))
 (sSeq (sFor (iSeq (eV 2)) (tgN 3) (sSet 1 (eCall den_exchanged (aCons (eV 0) (aCons (eV 1) (aCons (eV 3) aNil))))) [3])
 (sRet (eV 1)))))
def den_led_X : List D → Option Res := fnX [.U, .A, .fA] 1 false b_led_X
def b__law_others : SF := (sSeq (sIf (t2b (e1 (gIsC [] [(10, false), (12, false), (13, false), (15, false)] none) (eV 0))) (sRet (eK (.int 1))) sNil)
 (sRet (e1 gInt (e1 (gIsC [] [(10, false), (12, false), (13, false), (15, false)] none) (eV 0)))))
def den__law_others : List D → Option D := fnD [.A] 0 false b__law_others
def b__law_kinds_v6 : SF := (sSeq (sSet 1 (eLst (aCons (e1 (gIsC [] [(10, false), (12, true), (13, false), (15, false)] none) (eV 0)) (aCons (e1 (gIsC [] [(10, true), (12, false), (13, false), (15, false)] none) (eV 0)) (aCons (e1 (gIsC [] [(10, false), (12, false), (13, false), (15, true)] none) (eV 0)) (aCons (e1 (gIsC [] [(10, false), (12, false), (13, true), (15, false)] none) (eV 0)) aNil))))))
 (sSeq (sIf (bOr (t2b (e2 gNeS (e2 gAdd (e1 gSum (eComp (iSeq (eV 1)) (tgN 2) tTrue (e1 gInt (eV 2)))) (eCall den__law_others (aCons (eV 0) aNil))) (eK (.int 1)))) (bNot (t2b (e1 (gIsC [] [(10, true), (12, true), (13, true), (15, true)] none) (eV 0))))) (sRet (eTup (aCons (eK (.str "other")) (aCons (eK (.int 0)) aNil)))) sNil)
 (sSeq (sIf (t2b (e2 gIx (eV 1) (eK (.int 0)))) (sRet (eTup (aCons (eK (.str "downset")) (aCons (eFldE 12 0 (eV 0)) aNil)))) sNil)
 (sSeq (sIf (t2b (e2 gIx (eV 1) (eK (.int 1)))) (sRet (eTup (aCons (eK (.str "thing")) (aCons (eFldE 10 0 (eV 0)) aNil)))) sNil)
 (sSeq (sIf (t2b (e2 gIx (eV 1) (eK (.int 2)))) (sRet (eTup (aCons (eK (.str "line")) (aCons (eK (.int 0)) aNil)))) sNil)
 (sRet (eIf (t2b (e2 gIx (eV 1) (eK (.int 3)))) (eTup (aCons (eK (.str "place")) (aCons (eFldE 13 0 (eV 0)) aNil))) (eTup (aCons (eK (.str "other")) (aCons (eK (.int 0)) aNil))))))))))
def den__law_kinds_v6 : List D → Option D := fnD [.A] 2 false b__law_kinds_v6
def b__law_said_v5 (r : Res) : SF := (sSeq (sSet 1 (eTup (aCons (eK (.str "told")) (aCons (eK (.int 0)) aNil))))
 (sSeq (sTry (xDrop (fun _ => some r)) [([10, 12, 13, 15], [], 2, (sSet 1 (eCall den__law_kinds_v6 (aCons (eV 2) aNil))))])
 (sRet (eV 1))))
def den__law_said_v5 : Res → Option D := fnL 2 b__law_said_v5
def b_needs_things_X : SF := (sFor (iSeq (eV 1)) (tgN 2) (sIf (bOr (t2b (e2 gLt (eV 2) (eK (.int 0)))) (t2b (e2 gGe (eV 2) (eMeth 0 den_Order_size (eV 0) aNil)))) (sRaise 10 (aCons (eV 2) aNil)) sNil) [2])
def den_needs_things_X : List D → Option Res := fnX [.U, .fA] 1 true b_needs_things_X
def b_walked_X : SF := (sSeq (xDrop (xCall den_needs_downset_X (aCons (eV 0) (aCons (eV 1) aNil))))
 (sSeq (xDrop (xCall den_needs_things_X (aCons (eV 0) (aCons (eV 2) aNil))))
 (sSeq (sFor (iSeq (eV 2)) (tgN 3) (sSet 1 (eCall den_put_or_taken (aCons (eV 0) (aCons (eV 1) (aCons (eV 3) aNil))))) [3])
 (sRet (eV 1)))))
def den_walked_X : List D → Option Res := fnX [.U, .A, .fA] 1 false b_walked_X
def b_toggled_X : SF := (xRet (xCall den_walked_X (aCons (eV 0) (aCons (eV 1) (aCons (eLst (aCons (eV 2) aNil)) aNil)))))
def den_toggled_X : List D → Option Res := fnX [.U, .A, .A] 0 false b_toggled_X
def b_walker_X : SF := (sSeq (xDrop (xCall den_needs_things_X (aCons (eV 0) (aCons (eV 1) aNil))))
 (sSeq (sSet 2 (e1 gList (eV 1)))
 (sSeq sNev
 sNev)))
def den_walker_X : List D → Option Res := fnX [.U, .fA] 2 false b_walker_X
def b_walker_walk_X : SF := (xRet (xCall den_walked_X (aCons (eV 1) (aCons (eV 0) (aCons (eV 2) aNil)))))
def den_walker_walk_X : List D → Option Res := fnX [.A, .U, .fA] 0 false b_walker_walk_X
def b__law_of_downsets : SF := (sSeq (sSet 5 (e2 gIx (eLst (aCons (eV 3) (aCons (e2 gSbI (eK (.int 0)) (eK (.int 1))) (aCons (e2 gAdd (eV 3) (e2 gMod (eV 4) (e2 gPow (eK (.int 10)) (eK (.int 20))))) (aCons (e2 gSbI (e2 gSbI (eK (.int 0)) (eK (.int 1))) (e2 gMod (eV 4) (e2 gPow (eK (.int 10)) (eK (.int 20))))) aNil))))) (e2 gMod (e2 gDiv (eV 4) (eK (.int 3))) (eK (.int 4)))))
 (sSeq (sSet 6 (eLst (aCons (e2 gMod (e2 gDiv (eV 4) (eK (.int 50))) (eV 3)) (aCons (eV 5) (aCons (e2 gAdd (eV 3) (eK (.int 1))) aNil)))))
 (sSeq (sSet 7 (eLst (aCons (eTup (aCons (eK (.str "downset")) (aCons (eV 2) aNil))) (aCons (eTup (aCons (eK (.str "downset")) (aCons (eV 2) aNil))) (aCons (eTup (aCons (eK (.str "thing")) (aCons (eV 5) aNil))) (aCons (eTup (aCons (eK (.str "thing")) (aCons (eV 5) aNil))) (aCons (eTup (aCons (eK (.str "thing")) (aCons (eV 5) aNil))) (aCons (eTup (aCons (eK (.str "downset")) (aCons (eV 2) aNil))) aNil))))))))
 (sSeq (sSet 8 (eLst (aCons (eLam den__law_said_v5 (xCall den_toggled_X (aCons (eV 0) (aCons (eV 2) (aCons (eV 5) aNil))))) aNil)))
 (sSeq (sApp 8 (eLam den__law_said_v5 (xCall den_walked_X (aCons (eV 0) (aCons (eV 2) (aCons (eV 6) aNil))))))
 (sSeq (sApp 8 (eLam den__law_said_v5 (xCall den_toggled_X (aCons (eV 0) (aCons (eV 1) (aCons (eV 5) aNil))))))
 (sSeq (sApp 8 (eLam den__law_said_v5 (xCall den_walked_X (aCons (eV 0) (aCons (eV 1) (aCons (eV 6) aNil))))))
 (sSeq (sApp 8 (eLam den__law_said_v5 (xCall den_walker_X (aCons (eV 0) (aCons (eV 6) aNil)))))
 (sSeq (sClo 9 den_walker (eV 0) (eSl gSlL (eV 6) oNo (oYes (eK (.int 1)))))
 (sSeq (sApp 8 (eLam den__law_said_v5 (xClo 9 den_walker_walk_X (aCons (eV 2) aNil))))
 (sRet (e2 gEqD (eV 8) (eV 7)))))))))))))
def den__law_of_downsets : List D → Option D := fnD [.U, .A, .A, .A, .A] 5 false b__law_of_downsets
def b_swapped_X : SF := (xRet (xCall den_led_X (aCons (eV 0) (aCons (eV 1) (aCons (eLst (aCons (eV 2) aNil)) aNil)))))
def den_swapped_X : List D → Option Res := fnX [.U, .A, .A] 0 false b_swapped_X
def b_leader_X : SF := (sSeq (xDrop (xCall den_needs_places_X (aCons (eV 0) (aCons (eV 1) aNil))))
 (sSeq (sSet 2 (e1 gList (eV 1)))
 (sSeq sNev
 sNev)))
def den_leader_X : List D → Option Res := fnX [.U, .fA] 2 false b_leader_X
def b_leader_lead_X : SF := (xRet (xCall den_led_X (aCons (eV 1) (aCons (eV 0) (aCons (eV 2) aNil)))))
def den_leader_lead_X : List D → Option Res := fnX [.A, .U, .fA] 0 false b_leader_lead_X
def b__law_of_lines_v2 : SF := (sSeq (sSet 4 (e1 gLen (eV 1)))
 (sSeq (sSet 5 (e2 gIx (eLst (aCons (e2 gSbI (eV 4) (eK (.int 1))) (aCons (e2 gSbI (eK (.int 0)) (eK (.int 1))) (aCons (e2 gAdd (eV 4) (e2 gMod (eV 3) (e2 gPow (eK (.int 10)) (eK (.int 20))))) (aCons (e2 gSbI (e2 gSbI (eK (.int 0)) (eK (.int 1))) (e2 gMod (eV 3) (e2 gPow (eK (.int 10)) (eK (.int 20))))) aNil))))) (e2 gMod (e2 gDiv (eV 3) (eK (.int 3))) (eK (.int 4)))))
 (sSeq (sSet 6 (eLst (aCons (eV 5) (aCons (e2 gAdd (eV 4) (eK (.int 3))) aNil))))
 (sSeq (sIf (t2b (e2 gGt (eV 4) (eK (.int 1)))) (sSet 6 (e2 gCat (eLst (aCons (e2 gMod (e2 gDiv (eV 3) (eK (.int 50))) (e2 gSbI (eV 4) (eK (.int 1)))) aNil)) (eV 6))) sNil)
 (sSeq (sSet 7 (eLst (aCons (eTup (aCons (eK (.str "line")) (aCons (eK (.int 0)) aNil))) (aCons (eTup (aCons (eK (.str "line")) (aCons (eK (.int 0)) aNil))) (aCons (eTup (aCons (eK (.str "place")) (aCons (eV 5) aNil))) (aCons (eTup (aCons (eK (.str "place")) (aCons (eV 5) aNil))) (aCons (eTup (aCons (eK (.str "place")) (aCons (eV 5) aNil))) (aCons (eTup (aCons (eK (.str "line")) (aCons (eK (.int 0)) aNil))) aNil))))))))
 (sSeq (sSet 8 (eLst (aCons (eLam den__law_said_v5 (xCall den_swapped_X (aCons (eV 0) (aCons (eV 2) (aCons (eV 5) aNil))))) aNil)))
 (sSeq (sApp 8 (eLam den__law_said_v5 (xCall den_led_X (aCons (eV 0) (aCons (eV 2) (aCons (eV 6) aNil))))))
 (sSeq (sApp 8 (eLam den__law_said_v5 (xCall den_swapped_X (aCons (eV 0) (aCons (eV 1) (aCons (eV 5) aNil))))))
 (sSeq (sApp 8 (eLam den__law_said_v5 (xCall den_led_X (aCons (eV 0) (aCons (eV 1) (aCons (eV 6) aNil))))))
 (sSeq (sApp 8 (eLam den__law_said_v5 (xCall den_leader_X (aCons (eV 0) (aCons (eV 6) aNil)))))
 (sSeq (sClo 9 den_leader (eV 0) (eSl gSlL (eV 6) oNo (oYes (e1 gNeg (eK (.int 2))))))
 (sSeq (sApp 8 (eLam den__law_said_v5 (xClo 9 den_leader_lead_X (aCons (eV 2) aNil))))
 (sRet (e2 gEqD (eV 8) (eV 7)))))))))))))))
def den__law_of_lines_v2 : List D → Option D := fnD [.U, .A, .A, .A] 6 false b__law_of_lines_v2
theorem sm9_2 : small 9000 2 := by decide
theorem sm9_3 : small 9000 3 := by decide
theorem sm9_4 : small 9000 4 := by decide
theorem sm9_5 : small 9000 5 := by decide
theorem sm9_6 : small 9000 6 := by decide
theorem sm9_7 : small 9000 7 := by decide
theorem sm9_8 : small 9000 8 := by decide
theorem sm9_9 : small 9000 9 := by decide
theorem sm9_10 : small 9000 10 := by decide
theorem sm9_11 : small 9000 11 := by decide
theorem sm9_12 : small 9000 12 := by decide
theorem sm9_14 : small 9000 14 := by decide
theorem sm9_16 : small 9000 16 := by decide
theorem sm9_31 : small 9000 31 := by decide
theorem sm9_45 : small 9000 45 := by decide
theorem sm9_50 : small 9000 50 := by decide
theorem sm9_60 : small 9000 60 := by decide
theorem sm9_61 : small 9000 61 := by decide
theorem sm9_63 : small 9000 63 := by decide
theorem sm9_94 : small 9000 94 := by decide
theorem sm9_97 : small 9000 97 := by decide
theorem sm9_150 : small 9000 150 := by decide
theorem sm9_189 : small 9000 189 := by decide
theorem sm9_196 : small 9000 196 := by decide
theorem sm9_400 : small 9000 400 := by decide
theorem sm9_4096 : small 9000 4096 := by decide
theorem sm9_1000003 : small 9000 1000003 := by decide
theorem sm9_2305843009213693951 : small 9000 2305843009213693951 := by decide
theorem sm6_0 : small 62 0 := by decide
theorem sm6_1 : small 62 1 := by decide
theorem sm6_2 : small 62 2 := by decide
theorem sm6_3 : small 62 3 := by decide
theorem sm6_4 : small 62 4 := by decide
theorem sm6_5 : small 62 5 := by decide
theorem sm6_9 : small 62 9 := by decide
theorem sm6_13 : small 62 13 := by decide
theorem sm4_10 : small 64 10 := by decide
theorem sm1_6 : small 10 6 := by decide
theorem sm1_9 : small 10 9 := by decide
theorem sm1_15 : small 10 15 := by decide
theorem sm1_20 : small 10 20 := by decide
theorem sm1_39 : small 10 39 := by decide
theorem sm1_40 : small 10 40 := by decide
theorem sm1_50 : small 10 50 := by decide
theorem sm1_54 : small 10 54 := by decide
theorem sm1_55 : small 10 55 := by decide
theorem sm1_60 : small 10 60 := by decide
theorem mk_2 (i : Int) : mulOk i 2 := .inr (.inl (by decide))
theorem mk_143 (i : Int) : mulOk i 143 := .inr (.inl (by decide))
theorem mk_1001 (i : Int) : mulOk i 1001 := .inr (.inl (by decide))
theorem mk_48271 (i : Int) : mulOk i 48271 := .inr (.inl (by decide))
theorem mk_2305843009213693951 (i : Int) : mulOk i 2305843009213693951 := .inr (.inl (by decide))
theorem mk_6364136223846793005 (i : Int) : mulOk i 6364136223846793005 := .inr (.inl (by decide))
theorem mj_2 (i : Int) : mulOk 2 i := .inl (by decide)
theorem mj_5 (i : Int) : mulOk 5 i := .inl (by decide)
theorem mj_7 (i : Int) : mulOk 7 i := .inl (by decide)
theorem mj_7919 (i : Int) : mulOk 7919 i := .inl (by decide)
local macro_rules | `(tactic| walk_at "ev") => `(tactic| simp only [fnD, chks, PKn.chk, D.lf, D.lfs, sSeq, sNil, sIf, sRet, sSet, sDrop, sFor, sThen, sPar, sTg, sApp, sExt, sRev, sClr, sPut, sWhile, clrs, eK, eV, e1, e2, eA, eAnd, eOr, eNot, eIf, eTup, eLst, eCall, eSl, oNo, oYes, aNil, aCons, t2b, b2e, bAnd, bOr, bNot, t2t, tTrue, iSeq, iTupD, iRg1, iRg2, tgN, tgT, setAll, i1, i2, gAdd, gSbI, gMul, gDiv, gMod, gPow, gAnd, gOr, gXor, gNeg, gLt, gLe, gGt, gGe, gEqS, gNeS, gAbs, gLen, gIx, gIxT, gCat, gList, gListT, gTuple, gSlL, gSlT, gCatT, gSum, gAll, gAny, gInT, Option.bind_some, Option.bind_none, Option.map_some, List.getElem?_cons_zero, List.getElem?_cons_succ, List.set_cons_zero, List.set_cons_succ, List.replicate, List.cons_append, List.nil_append, Bool.and_true, Bool.true_and, Bool.and_false, Bool.false_and, if_true, if_false, reduceIte, Bool.false_eq_true, List.length_cons, List.length_nil, Bool.not_true, Bool.not_false, decide_true, decide_false, ite_true, ite_false, Bool.not_eq_true, Bool.not_eq_false, decide_eq_true_eq, Nat.reduceAdd, Nat.reduceLeDiff, Int.reduceLT, Int.reduceLE, Int.reduceNeg, Int.reduceAdd, Int.reduceSub, Int.reduceMul, Int.reduceMod, Int.reduceDiv, Nat.reduceLT, Int.reduceEq, Nat.reduceEqDiff, true_and, and_true, and_self, false_and, and_false, not_true_eq_false, not_false_eq_true, Bool.or_true, Bool.true_or, Bool.or_false, Bool.false_or, Int.reducePow, Int.reduceToNat, Bool.not_not, sSf, sSa, eSf, eFld, eMeth, eMake, sRa, sRs, atL, gMin, gMax, gInt, iEn, iRv, iRgN, eAt, eLf, gRep, e3, sDPutD, eAlt, iZp, xDrop, xSet, xRet, xCall, xMeth, xMake, sRaise, sTry, tryGo, suiteOut, gIsC, eFldE, gIs0, gNot0, isN, fnX, List.reverse_cons, List.reverse_nil
, gTupRT, gStr, gAddS, gSlSt, iKeysD, iItemsD, sClrD, kD, xCallP, xCallQ, xaCons, gTrg1, sm9_2, sm9_3, sm9_4, sm9_5, sm9_6, sm9_7, sm9_8, sm9_9, sm9_10, sm9_11, sm9_12, sm9_14, sm9_16, sm9_31, sm9_45, sm9_50, sm9_60, sm9_61, sm9_63, sm9_94, sm9_97, sm9_150, sm9_189, sm9_196, sm9_400, sm9_4096, sm9_1000003, sm9_2305843009213693951, sm6_0, sm6_1, sm6_2, sm6_3, sm6_4, sm6_5, sm6_9, sm6_13, sm4_10, sm1_6, sm1_9, sm1_15, sm1_20, sm1_39, sm1_40, sm1_50, sm1_54, sm1_55, sm1_60, mk_2, mk_143, mk_1001, mk_48271, mk_2305843009213693951, mk_6364136223846793005, mj_2, mj_5, mj_7, mj_7919])
local macro_rules | `(tactic| walk_at "st") => `(tactic| (apply st_nx; focus (simp only [fnD, chks, PKn.chk, D.lf, D.lfs, sSeq, sNil, sIf, sRet, sSet, sDrop, sFor, sThen, sPar, sTg, sApp, sExt, sRev, sClr, sPut, sWhile, clrs, eK, eV, e1, e2, eA, eAnd, eOr, eNot, eIf, eTup, eLst, eCall, eSl, oNo, oYes, aNil, aCons, t2b, b2e, bAnd, bOr, bNot, t2t, tTrue, iSeq, iTupD, iRg1, iRg2, tgN, tgT, setAll, i1, i2, gAdd, gSbI, gMul, gDiv, gMod, gPow, gAnd, gOr, gXor, gNeg, gLt, gLe, gGt, gGe, gEqS, gNeS, gAbs, gLen, gIx, gIxT, gCat, gList, gListT, gTuple, gSlL, gSlT, gCatT, gSum, gAll, gAny, gInT, Option.bind_some, Option.bind_none, Option.map_some, List.getElem?_cons_zero, List.getElem?_cons_succ, List.set_cons_zero, List.set_cons_succ, List.replicate, List.cons_append, List.nil_append, Bool.and_true, Bool.true_and, Bool.and_false, Bool.false_and, if_true, if_false, reduceIte, Bool.false_eq_true, List.length_cons, List.length_nil, Bool.not_true, Bool.not_false, decide_true, decide_false, ite_true, ite_false, Bool.not_eq_true, Bool.not_eq_false, decide_eq_true_eq, Nat.reduceAdd, Nat.reduceLeDiff, Int.reduceLT, Int.reduceLE, Int.reduceNeg, Int.reduceAdd, Int.reduceSub, Int.reduceMul, Int.reduceMod, Int.reduceDiv, Nat.reduceLT, Int.reduceEq, Nat.reduceEqDiff, true_and, and_true, and_self, false_and, and_false, not_true_eq_false, not_false_eq_true, Bool.or_true, Bool.true_or, Bool.or_false, Bool.false_or, Int.reducePow, Int.reduceToNat, Bool.not_not, sSf, sSa, eSf, eFld, eMeth, eMake, sRa, sRs, atL, gMin, gMax, gInt, iEn, iRv, iRgN, eAt, eLf, gRep, e3, sDPutD, eAlt, iZp, xDrop, xSet, xRet, xCall, xMeth, xMake, sRaise, sTry, tryGo, suiteOut, gIsC, eFldE, gIs0, gNot0, isN, fnX, List.reverse_cons, List.reverse_nil
, gTupRT, gStr, gAddS, gSlSt, iKeysD, iItemsD, sClrD, kD, xCallP, xCallQ, xaCons, gTrg1, sm9_2, sm9_3, sm9_4, sm9_5, sm9_6, sm9_7, sm9_8, sm9_9, sm9_10, sm9_11, sm9_12, sm9_14, sm9_16, sm9_31, sm9_45, sm9_50, sm9_60, sm9_61, sm9_63, sm9_94, sm9_97, sm9_150, sm9_189, sm9_196, sm9_400, sm9_4096, sm9_1000003, sm9_2305843009213693951, sm6_0, sm6_1, sm6_2, sm6_3, sm6_4, sm6_5, sm6_9, sm6_13, sm4_10, sm1_6, sm1_9, sm1_15, sm1_20, sm1_39, sm1_40, sm1_50, sm1_54, sm1_55, sm1_60, mk_2, mk_143, mk_1001, mk_48271, mk_2305843009213693951, mk_6364136223846793005, mj_2, mj_5, mj_7, mj_7919]; try rfl)))
local macro_rules | `(tactic| simp_arith [$xs,*]) => `(tactic| simp only [fnD, chks, PKn.chk, D.lf, D.lfs, sSeq, sNil, sIf, sRet, sSet, sDrop, sFor, sThen, sPar, sTg, sApp, sExt, sRev, sClr, sPut, sWhile, clrs, eK, eV, e1, e2, eA, eAnd, eOr, eNot, eIf, eTup, eLst, eCall, eSl, oNo, oYes, aNil, aCons, t2b, b2e, bAnd, bOr, bNot, t2t, tTrue, iSeq, iTupD, iRg1, iRg2, tgN, tgT, setAll, i1, i2, gAdd, gSbI, gMul, gDiv, gMod, gPow, gAnd, gOr, gXor, gNeg, gLt, gLe, gGt, gGe, gEqS, gNeS, gAbs, gLen, gIx, gIxT, gCat, gList, gListT, gTuple, gSlL, gSlT, gCatT, gSum, gAll, gAny, gInT, Option.bind_some, Option.bind_none, Option.map_some, List.getElem?_cons_zero, List.getElem?_cons_succ, List.set_cons_zero, List.set_cons_succ, List.replicate, List.cons_append, List.nil_append, Bool.and_true, Bool.true_and, Bool.and_false, Bool.false_and, if_true, if_false, reduceIte, Bool.false_eq_true, List.length_cons, List.length_nil, Bool.not_true, Bool.not_false, decide_true, decide_false, ite_true, ite_false, Bool.not_eq_true, Bool.not_eq_false, decide_eq_true_eq, Nat.reduceAdd, Nat.reduceLeDiff, Int.reduceLT, Int.reduceLE, Int.reduceNeg, Int.reduceAdd, Int.reduceSub, Int.reduceMul, Int.reduceMod, Int.reduceDiv, Nat.reduceLT, Int.reduceEq, Nat.reduceEqDiff, true_and, and_true, and_self, false_and, and_false, not_true_eq_false, not_false_eq_true, Bool.or_true, Bool.true_or, Bool.or_false, Bool.false_or, Int.reducePow, Int.reduceToNat, Bool.not_not, sSf, sSa, eSf, eFld, eMeth, eMake, sRa, sRs, atL, gMin, gMax, gInt, iEn, iRv, iRgN, eAt, eLf, gRep, e3, sDPutD, eAlt, iZp, xDrop, xSet, xRet, xCall, xMeth, xMake, sRaise, sTry, tryGo, suiteOut, gIsC, eFldE, gIs0, gNot0, isN, fnX, List.reverse_cons, List.reverse_nil
, gTupRT, gStr, gAddS, gSlSt, iKeysD, iItemsD, sClrD, kD, xCallP, xCallQ, xaCons, gTrg1, sm9_2, sm9_3, sm9_4, sm9_5, sm9_6, sm9_7, sm9_8, sm9_9, sm9_10, sm9_11, sm9_12, sm9_14, sm9_16, sm9_31, sm9_45, sm9_50, sm9_60, sm9_61, sm9_63, sm9_94, sm9_97, sm9_150, sm9_189, sm9_196, sm9_400, sm9_4096, sm9_1000003, sm9_2305843009213693951, sm6_0, sm6_1, sm6_2, sm6_3, sm6_4, sm6_5, sm6_9, sm6_13, sm4_10, sm1_6, sm1_9, sm1_15, sm1_20, sm1_39, sm1_40, sm1_50, sm1_54, sm1_55, sm1_60, mk_2, mk_143, mk_1001, mk_48271, mk_2305843009213693951, mk_6364136223846793005, mj_2, mj_5, mj_7, mj_7919, $xs,*])
local macro_rules | `(tactic| simp_arith! [$xs,*]) => `(tactic| (apply st_nx; focus (simp only [fnD, chks, PKn.chk, D.lf, D.lfs, sSeq, sNil, sIf, sRet, sSet, sDrop, sFor, sThen, sPar, sTg, sApp, sExt, sRev, sClr, sPut, sWhile, clrs, eK, eV, e1, e2, eA, eAnd, eOr, eNot, eIf, eTup, eLst, eCall, eSl, oNo, oYes, aNil, aCons, t2b, b2e, bAnd, bOr, bNot, t2t, tTrue, iSeq, iTupD, iRg1, iRg2, tgN, tgT, setAll, i1, i2, gAdd, gSbI, gMul, gDiv, gMod, gPow, gAnd, gOr, gXor, gNeg, gLt, gLe, gGt, gGe, gEqS, gNeS, gAbs, gLen, gIx, gIxT, gCat, gList, gListT, gTuple, gSlL, gSlT, gCatT, gSum, gAll, gAny, gInT, Option.bind_some, Option.bind_none, Option.map_some, List.getElem?_cons_zero, List.getElem?_cons_succ, List.set_cons_zero, List.set_cons_succ, List.replicate, List.cons_append, List.nil_append, Bool.and_true, Bool.true_and, Bool.and_false, Bool.false_and, if_true, if_false, reduceIte, Bool.false_eq_true, List.length_cons, List.length_nil, Bool.not_true, Bool.not_false, decide_true, decide_false, ite_true, ite_false, Bool.not_eq_true, Bool.not_eq_false, decide_eq_true_eq, Nat.reduceAdd, Nat.reduceLeDiff, Int.reduceLT, Int.reduceLE, Int.reduceNeg, Int.reduceAdd, Int.reduceSub, Int.reduceMul, Int.reduceMod, Int.reduceDiv, Nat.reduceLT, Int.reduceEq, Nat.reduceEqDiff, true_and, and_true, and_self, false_and, and_false, not_true_eq_false, not_false_eq_true, Bool.or_true, Bool.true_or, Bool.or_false, Bool.false_or, Int.reducePow, Int.reduceToNat, Bool.not_not, sSf, sSa, eSf, eFld, eMeth, eMake, sRa, sRs, atL, gMin, gMax, gInt, iEn, iRv, iRgN, eAt, eLf, gRep, e3, sDPutD, eAlt, iZp, xDrop, xSet, xRet, xCall, xMeth, xMake, sRaise, sTry, tryGo, suiteOut, gIsC, eFldE, gIs0, gNot0, isN, fnX, List.reverse_cons, List.reverse_nil
, gTupRT, gStr, gAddS, gSlSt, iKeysD, iItemsD, sClrD, kD, xCallP, xCallQ, xaCons, gTrg1, sm9_2, sm9_3, sm9_4, sm9_5, sm9_6, sm9_7, sm9_8, sm9_9, sm9_10, sm9_11, sm9_12, sm9_14, sm9_16, sm9_31, sm9_45, sm9_50, sm9_60, sm9_61, sm9_63, sm9_94, sm9_97, sm9_150, sm9_189, sm9_196, sm9_400, sm9_4096, sm9_1000003, sm9_2305843009213693951, sm6_0, sm6_1, sm6_2, sm6_3, sm6_4, sm6_5, sm6_9, sm6_13, sm4_10, sm1_6, sm1_9, sm1_15, sm1_20, sm1_39, sm1_40, sm1_50, sm1_54, sm1_55, sm1_60, mk_2, mk_143, mk_1001, mk_48271, mk_2305843009213693951, mk_6364136223846793005, mj_2, mj_5, mj_7, mj_7919, $xs,*]; try rfl)))
abbrev nD (n : Nat) : D := .int (n : Int)
theorem bits_at (t : Nat) (ht : t < 9) : atI (List.map D.int [1, 2, 4, 8, 16, 32, 64, 128, 256, 512]) (t : Int) = some (nD (2 ^ t)) := by
  match t, ht with
  | 0, _ => rfl
  | 1, _ => rfl
  | 2, _ => rfl
  | 3, _ => rfl
  | 4, _ => rfl
  | 5, _ => rfl
  | 6, _ => rfl
  | 7, _ => rfl
  | 8, _ => rfl
  | n + 9, h => omega
theorem bit_of_eq (t : Nat) (ht : t < 9) : den_bit_of [nD t] = some (nD (2 ^ t)) := by
  refine fnD_rt rfl ?_
  unfold b_bit_of
  have h := bits_at t ht
  simp_arith [h]
def T9 (p : Nat → Bool) : List Nat := (List.range 9).filter p
theorem r9 : rangeD 0 9 = (List.range 9).map nD := rfl
theorem T9_len (p : Nat → Bool) : (T9 p).length ≤ 9 := by have := List.length_filter_le p (List.range 9); simpa [T9] using this
theorem things_eq (b : Nat) : den_things_of [nD b] = some (.lst (asD (T9 b.testBit))) := by
  refine fnD_rt rfl ?_
  unfold b_things_of
  have : eComp (iRg1 (eK (.int 9))) (tgN 1) (t2b (e2 gGt (e2 gAnd (eV 0) (e2 gIxT (eK (.tup (List.map D.int [1, 2, 4, 8, 16, 32, 64, 128, 256, 512]))) (eV 1))) (eK (.int 0)))) (eV 1) [nD b, .non] = some (.lst (asD (T9 b.testBit))) := by
    refine comp_eq (items := rangeD 0 9) ?_ ?_ (by rw [asD_len]; have := T9_len b.testBit; omega)
    · walk_at "ev"
    · rw [r9]
      refine comp_filter _ b.testBit nD _ fun t ht => ⟨_, rfl, ?_, fun _ => rfl⟩
      have ht := List.mem_range.mp ht
      have h := bits_at t ht
      simp_arith [h, bitAnd_nat]
      rw [← and_pow]
      simp
  unfold sRet
  show (eComp _ _ _ _ [nD b, .non]).bind _ = _
  rw [this]; rfl
def asP (ps : List (Nat × Nat)) : List D := ps.map fun p => .tup [nD p.1, nD p.2]
theorem asP_len (ps : List (Nat × Nat)) : (asP ps).length = ps.length := by simp [asP]
theorem asP_app (a b : List (Nat × Nat)) : asP (a ++ b) = asP a ++ asP b := by simp [asP]
theorem lfs_asP : ∀ ps : List (Nat × Nat), D.lfs (asP ps) = true
  | [] => rfl
  | _ :: ps => lfs_asP ps
def PsOk (n : Nat) (ps : List (Nat × Nat)) : Prop := ∀ p ∈ ps, p.1 < p.2 ∧ p.2 < n
inductive Clo (ps : List (Nat × Nat)) : Nat → Nat → Prop
  | base {i j : Nat} : (i, j) ∈ ps → Clo ps i j
  | step {i l j : Nat} : Clo ps i l → (l, j) ∈ ps → Clo ps i j
theorem Clo.trans {ps : List (Nat × Nat)} {i j k : Nat} (h : Clo ps i j) (h2 : Clo ps j k) : Clo ps i k := by
  induction h2 with
  | base m => exact .step h m
  | step _ m ih => exact .step ih m
theorem Clo.iff_last {ps : List (Nat × Nat)} {i j : Nat} : Clo ps i j ↔ ∃ l, (l, j) ∈ ps ∧ (i = l ∨ Clo ps i l) := by
  constructor
  · intro h
    cases h with
    | base m => exact ⟨i, m, .inl rfl⟩
    | step h m => exact ⟨_, m, .inr h⟩
  · rintro ⟨l, m, rfl | h⟩
    · exact .base m
    · exact .step h m
theorem Clo.up {ps : List (Nat × Nat)} {n : Nat} (hp : PsOk n ps) {i j : Nat} (h : Clo ps i j) : i < j ∧ j < n := by
  induction h with
  | base m => exact hp _ m
  | step _ m ih => have := hp _ m; exact ⟨Nat.lt_trans ih.1 this.1, this.2⟩
open Classical in
noncomputable def cl (ps : List (Nat × Nat)) (i j : Nat) : Bool := decide (Clo ps i j)
theorem cl_iff {ps : List (Nat × Nat)} {i j : Nat} : cl ps i j = true ↔ Clo ps i j := by unfold cl; simp
structure PO (n : Nat) (lt : Nat → Nat → Bool) : Prop where
  pos : 1 ≤ n
  le : n ≤ 9
  up : ∀ {i j : Nat}, lt i j = true → i < j ∧ j < n
  tr : ∀ {i j k : Nat}, lt i j = true → lt j k = true → lt i k = true
theorem po_cl {n : Nat} {ps : List (Nat × Nat)} (h1 : 1 ≤ n) (h9 : n ≤ 9) (hp : PsOk n ps) : PO n (cl ps) :=
  ⟨h1, h9, fun h => (cl_iff.mp h).up hp, fun h h2 => cl_iff.mpr ((cl_iff.mp h).trans (cl_iff.mp h2))⟩
def lows (n : Nat) (lt : Nat → Nat → Bool) (j : Nat) : Nat := sumB (fun i => lt i j) n
def ordD (n : Nat) (lt : Nat → Nat → Bool) : D := .ins 0 [nD n, .lst (asD ((List.range n).map (lows n lt)))]
theorem lows_test {n : Nat} {lt : Nat → Nat → Bool} (P : PO n lt) (i j : Nat) : (lows n lt j).testBit i = lt i j := by
  unfold lows
  rw [sumB_test]
  cases h : lt i j with
  | false => simp
  | true => have := P.up h; simp; omega
theorem foldl_or_test {α : Type} (p : α → Bool) (f : α → Nat) (i : Nat) : ∀ (xs : List α) (b : Nat), (xs.foldl (fun b x => if p x = true then b ||| f x else b) b).testBit i = (b.testBit i || xs.any fun x => p x && (f x).testBit i)
  | [], b => by simp
  | x :: xs, b => by
    rw [List.foldl_cons, foldl_or_test p f i xs, List.any_cons]
    by_cases h : p x = true
    · rw [if_pos h, Nat.testBit_or, h, Bool.true_and, Bool.or_assoc]
    · rw [if_neg h]; simp [h]
theorem init_eq {n : Nat} {ps : List (Nat × Nat)} (h1 : 1 ≤ n) (h9 : n ≤ 9) (hp : PsOk n ps) : den_Order_init [nD n, .lst (asP ps)] = some [nD n, .lst (asD ((List.range n).map (lows n (cl ps))))] := by
  have P := po_cl h1 h9 hp
  have hb : b_Order_init [.ins 0 [], nD n, .lst (asP ps), .non, .non, .non, .non] = some (.nx [.ins 0 [nD n, .lst (asD ((List.range n).map (lows n (cl ps))))], nD n, .lst (asP ps), .non, .non, .non, .non]) := by
    unfold b_Order_init
    have q1 : decide ((n : Int) < 1) = false := decide_eq_false (by omega)
    have q2 : decide ((9 : Int) < n) = false := decide_eq_false (by omega)
    simp_arith! [q1, q2]
    refine st_nx (ρ' := [.ins 0 [], nD n, .lst (asP ps), .non, .non, .non, .non]) ((for_eq (items := asP ps) ?_).trans ?_) ?_
    · walk_at "ev"
    · exact (loop_fold (enc := fun (_ : Unit) => [.ins 0 [], nD n, .lst (asP ps), .non, .non, .non, .non]) (f := fun (p : Nat × Nat) => D.tup [nD p.1, nD p.2]) (step := fun u _ => u) (Pv := fun _ => True) ps () trivial fun _ p hm _ => ⟨trivial, _, _, rfl, .inl (by
        have hh := hp p hm
        have e3 : decide ((p.1 : Int) < 0) = false := decide_eq_false (by omega)
        have e4 : decide ((p.2 : Int) ≤ p.1) = false := decide_eq_false (by omega)
        have e5 : decide ((n : Int) ≤ p.2) = false := decide_eq_false (by omega)
        simp_arith [e3, e4, e5]; rfl), rfl⟩).1
    walk_at "st"
    walk_at "st"
    refine (for_eq (items := rangeD 0 n) ?_).trans ?_
    · walk_at "ev"
      rw [if_pos (small_b (by omega) (by omega))]
    · rw [rangeD_nat]
      refine loop_inv (fun t => [.ins 0 [nD n, .lst (asD ((List.range t).map (lows n (cl ps))))], nD n, .lst (asP ps), .non, .non, .non, .non]) n (by simp) rfl fun t ht d hd => ?_
      rw [List.getElem?_map, List.getElem?_range ht] at hd
      cases hd
      refine ⟨_, [.ins 0 [nD n, .lst (asD ((List.range (t + 1)).map (lows n (cl ps))))], nD n, .lst (asP ps), nD t, .non, .non, nD (lows n (cl ps) t)], rfl, .inl ?_, rfl⟩
      walk_at "st"
      refine st_nx (ρ' := [.ins 0 [nD n, .lst (asD ((List.range t).map (lows n (cl ps))))], nD n, .lst (asP ps), nD t, .non, .non, nD (lows n (cl ps) t)]) ((for_eq (items := asP ps) ?_).trans ?_) ?_
      · walk_at "ev"
      · have key := (loop_fold (tg := tgT [4, 5]) (b := (sIf (t2b (e2 gEqS (eV 5) (eV 3))) (sSet 6 (e2 gOr (e2 gOr (eV 6) (eCall den_bit_of (aCons (eV 4) aNil))) (e2 gIx (eSf 0 1) (eV 4)))) sNil)) (cl := [4, 5]) (enc := fun (b : Nat) => [.ins 0 [nD n, .lst (asD ((List.range t).map (lows n (cl ps))))], nD n, .lst (asP ps), nD t, .non, .non, nD b]) (f := fun (p : Nat × Nat) => D.tup [nD p.1, nD p.2])
          (step := fun b p => if decide (p.2 = t) = true then b ||| (2 ^ p.1 ||| lows n (cl ps) p.1) else b) (Pv := fun _ => True) ps 0 trivial fun b p hm _ => ⟨trivial, _, [.ins 0 [nD n, .lst (asD ((List.range t).map (lows n (cl ps))))], nD n, .lst (asP ps), nD t, nD p.1, nD p.2, nD (if decide (p.2 = t) = true then b ||| (2 ^ p.1 ||| lows n (cl ps) p.1) else b)], rfl, .inl (by
          have hh := hp p hm
          by_cases hpt : p.2 = t
          · subst hpt
            have hb := bit_of_eq p.1 (by omega)
            have hg : atI (asD ((List.range p.2).map (lows n (cl ps)))) (p.1 : Int) = some (nD (lows n (cl ps) p.1)) := atI_mapN (by rw [List.getElem?_map, List.getElem?_range hh.1]; rfl)
            simp_arith [hb, eSf, hg, bitOr_nat, Nat.or_assoc]
          · have e6 : ¬ ((p.2 : Int) = t) := by omega
            simp_arith [e6, hpt]), rfl⟩).1
        have e7 : ps.foldl (fun b p => if decide (p.2 = t) = true then b ||| (2 ^ p.1 ||| lows n (cl ps) p.1) else b) 0 = lows n (cl ps) t := by
          apply Nat.eq_of_testBit_eq
          intro i
          rw [foldl_or_test (fun p : Nat × Nat => decide (p.2 = t)) (fun p => 2 ^ p.1 ||| lows n (cl ps) p.1), lows_test P, Nat.zero_testBit, Bool.false_or, Bool.eq_iff_iff, List.any_eq_true, cl_iff, Clo.iff_last]
          constructor
          · rintro ⟨p, hm, h⟩
            rw [Bool.and_eq_true, decide_eq_true_eq, Nat.testBit_or, Nat.testBit_two_pow, Bool.or_eq_true, decide_eq_true_eq, lows_test P, cl_iff] at h
            obtain ⟨h1, h2⟩ := h
            subst h1
            exact ⟨p.1, hm, h2.imp Eq.symm id⟩
          · rintro ⟨l, hm, h⟩
            refine ⟨(l, t), hm, ?_⟩
            rw [Bool.and_eq_true, decide_eq_true_eq, Nat.testBit_or, Nat.testBit_two_pow, Bool.or_eq_true, decide_eq_true_eq, lows_test P, cl_iff]
            exact ⟨rfl, h.imp Eq.symm id⟩
        rw [e7] at key
        exact key
      · have hl : ((List.range t).map (lows n (cl ps))).length < 1000000 := by simp; omega
        simp_arith [sSa, asD_len, hl, List.range_succ, List.map_append, asD_app]
        rfl
  unfold den_Order_init initD
  have hc : chks [.A, .fA] [nD n, .lst (asP ps)] = true := by show (true && (D.lfs (asP ps) && true)) = true; rw [lfs_asP]; rfl
  rw [if_pos hc]
  have : (D.ins 0 [] :: ([nD n, .lst (asP ps)] ++ List.replicate 4 D.non)) = [.ins 0 [], nD n, .lst (asP ps), .non, .non, .non, .non] := rfl
  rw [this, hb]
  rfl
section
variable {n : Nat} {lt : Nat → Nat → Bool} (P : PO n lt)
theorem size_eq : den_Order_size [ordD n lt] = some (nD n) := rfl
theorem lows_at (j : Nat) (hj : j < n) : atI (asD ((List.range n).map (lows n lt))) (j : Int) = some (nD (lows n lt j)) := atI_mapN (by rw [List.getElem?_map, List.getElem?_range hj]; rfl)
theorem lows_of_eq (j : Nat) (hj : j < n) : den_Order_lows_of [ordD n lt, nD j] = some (nD (lows n lt j)) := by
  refine fnD_rt rfl ?_
  unfold b_Order_lows_of
  have h := lows_at (lt := lt) j hj
  simp_arith [eFld, ordD, h]
def hasL (n : Nat) (lt : Nat → Nat → Bool) (b j : Nat) : Bool := (List.range n).all fun i => !lt i j || b.testBit i
include P in
theorem and_lows (b j : Nat) : decide (lows n lt j &&& b = lows n lt j) = hasL n lt b j := by
  rw [Bool.eq_iff_iff, decide_eq_true_eq]
  unfold hasL
  rw [List.all_eq_true]
  constructor
  · intro h i _
    have := congrArg (fun x => x.testBit i) h
    simp only [Nat.testBit_and, lows_test P] at this
    cases h1 : lt i j with
    | false => rfl
    | true => rw [h1, Bool.true_and] at this; rw [this]; rfl
  · intro h
    apply Nat.eq_of_testBit_eq
    intro i
    rw [Nat.testBit_and, lows_test P]
    cases h1 : lt i j with
    | false => rfl
    | true =>
      have h2 := h i (List.mem_range.mpr (by have := P.up h1; omega))
      rw [h1] at h2
      simpa using h2
include P in
theorem has_lows_eq (b j : Nat) (hj : j < n) : den_has_lows [ordD n lt, nD b, nD j] = some (.bl (hasL n lt b j)) := by
  refine fnD_rt rfl ?_
  unfold b_has_lows
  have h := lows_of_eq (lt := lt) j hj
  unfold ordD at h ⊢
  simp_arith! [eMeth, h]
  simp_arith [bitAnd_nat, Int.natCast_inj, ← and_lows P]
end

theorem cell_ex (ns : List Int) (k : Nat) : ∃ c, den__law_cell_at [.scr (ns.map .int), .int k] = some (.int c) := by
  have hx : ∃ c : Int, (sIf (t2b (e2 gGt (e1 gLen (eV 0)) (eK (.int 0)))) (sSet 2 (eA (e2 gIx (eV 0) (e2 gMod (eV 1) (e1 gLen (eV 0)))))) sNil) [.scr (ns.map .int), .int k, .int 0, .non] = some (.nx [.scr (ns.map .int), .int k, .int c, .non]) := by
    cases ns with
    | nil => exact ⟨0, rfl⟩
    | cons a r =>
      obtain ⟨v, hv⟩ := atI_ints (ns := a :: r) (i := (k : Int) % ((a :: r).length : Int)) (Int.emod_nonneg _ (by rw [List.length_cons]; omega)) (Int.emod_lt_of_pos _ (by rw [List.length_cons]; omega))
      have h4 : (0 : Int) < ((r.length + 1 : Nat) : Int) := by omega
      have hv' : atI (List.map D.int (a :: r)) ((k : Int) % ((r.length + 1 : Nat) : Int)) = some (.int v) := hv
      exact ⟨v, by simp_arith [List.length_map, h4, hv']⟩
  obtain ⟨c, hc⟩ := hx
  refine ⟨c % 10 ^ 60 / 2305843009213693951 * 2305843009213693951 + (c + 7919 * ((k : Int) + 1)) * 6364136223846793005 % 2305843009213693951, fnD_rt rfl ?_⟩
  unfold b__law_cell_at
  walk_at "st"
  refine st_nx hc ?_
  walk_at "st"
  walk_at "ev"

theorem raw_ex (ns : List Int) (k : Nat) : ∃ c, den__law_raw [.scr (ns.map .int), nD k] = some (.int c) := by
  by_cases h : k < ns.length
  · obtain ⟨c, hc⟩ := atI_ints (ns := ns) (i := (k : Int)) (by omega) (by omega)
    refine ⟨c, fnD_rt rfl ?_⟩
    unfold b__law_raw
    have h1 : (k : Int) < (ns.length : Int) := by omega
    refine seq_rt ((if_t ?_).trans ?_)
    · simp_arith [List.length_map, h1]
    · simp_arith [hc]
  · refine ⟨0, fnD_rt rfl ?_⟩
    unfold b__law_raw
    have h1 : ¬ (k : Int) < (ns.length : Int) := by omega
    refine st_nx ((if_f ?_).trans rfl) ?_
    · simp_arith [List.length_map, h1]
    · walk_at "ev"
def Drw (d : Option D) : Prop := ∃ n ps, 1 ≤ n ∧ n ≤ 9 ∧ PsOk n ps ∧ ps.length ≤ 100 ∧ d = some (.tup [nD n, .lst (asP ps)])
theorem PsOk.app {n : Nat} {a b : List (Nat × Nat)} (h : PsOk n a) (g : PsOk n b) : PsOk n (a ++ b) := fun p hp => by
  rcases List.mem_append.mp hp with hp | hp
  · exact h p hp
  · exact g p hp
theorem PsOk.nil {n : Nat} : PsOk n [] := fun p h => by cases h
theorem PsOk.one {n i j : Nat} (h : i < j) (g : j < n) : PsOk n [(i, j)] := fun p hp => by
  rw [List.mem_singleton] at hp; subst hp; exact ⟨h, g⟩
theorem psok_map {n : Nat} {xs : List Nat} {f : Nat → Nat × Nat} (h : ∀ x ∈ xs, (f x).1 < (f x).2 ∧ (f x).2 < n) : PsOk n (xs.map f) := fun p hp => by
  obtain ⟨x, hx, rfl⟩ := List.mem_map.mp hp
  exact h x hx
theorem asP_map {xs : List Nat} {f : Nat → Nat × Nat} : asP (xs.map f) = xs.map fun x => .tup [nD (f x).1, nD (f x).2] := by unfold asP; rw [List.map_map]; rfl
def leM (m m' : Nat → Nat → Bool) : Prop := ∀ i j, m i j = true → m' i j = true
theorem leM.trans {a b c : Nat → Nat → Bool} (h : leM a b) (h2 : leM b c) : leM a c := fun i j z => h2 i j (h i j z)
inductive Way (m : Nat → Nat → Bool) (k : Nat) : Nat → Nat → Prop
  | base {i j : Nat} : m i j = true → Way m k i j
  | join {i l j : Nat} : l < k → Way m k i l → Way m k l j → Way m k i j
theorem Way.split {m : Nat → Nat → Bool} {k i j : Nat} (h : Way m (k + 1) i j) : Way m k i j ∨ (Way m k i k ∧ Way m k k j) := by
  induction h with
  | base h => exact .inl (.base h)
  | @join i l j hl _ _ ih1 ih2 =>
    by_cases hk : l = k
    · subst hk
      have h1 : Way m l i l := by rcases ih1 with h | h; exact h; exact h.1
      have h2 : Way m l l j := by rcases ih2 with h | h; exact h; exact h.2
      exact .inr ⟨h1, h2⟩
    · have hl : l < k := by omega
      rcases ih1 with h1 | ⟨h1, h1'⟩ <;> rcases ih2 with h2 | ⟨h2, h2'⟩
      · exact .inl (.join hl h1 h2)
      · exact .inr ⟨.join hl h1 h2, h2'⟩
      · exact .inr ⟨h1, .join hl h1' h2⟩
      · exact .inr ⟨h1, h2'⟩
theorem Way.lt {m : Nat → Nat → Bool} {k i j n : Nat} (hm : ∀ i j, m i j = true → i < n ∧ j < n) (h : Way m k i j) : i < n ∧ j < n := by
  induction h with
  | base h => exact hm _ _ h
  | join _ _ _ ih1 ih2 => exact ⟨ih1.1, ih2.2⟩
theorem free_ex (ns : List Int) (k : Nat) : ∃ c, den__law_free [.scr (ns.map .int), nD k] = some (.int c) := by
  obtain ⟨r, hr⟩ := raw_ex ns 0
  have hr : den__law_raw [.scr (ns.map .int), .int 0] = some (.int r) := hr
  obtain ⟨rk, hrk⟩ := raw_ex ns k
  obtain ⟨ck, hck⟩ := cell_ex ns k
  by_cases h : r % 2 = 0
  · refine ⟨rk, fnD_rt rfl ?_⟩
    unfold b__law_free
    refine seq_rt ((if_t ?_).trans ?_)
    · simp_arith [hr, h]
    · simp_arith [hrk]
  · refine ⟨ck, fnD_rt rfl ?_⟩
    unfold b__law_free
    refine st_nx ((if_f ?_).trans rfl) ?_
    · simp_arith [hr, h]
    · simp_arith [hck]
theorem any2_ex (ns : List Int) (m : Nat) (hm1 : 1 ≤ m) (hm9 : m ≤ 9) : Drw (den__law_any [.scr (ns.map .int), nD m]) := by
  obtain ⟨r, hr⟩ := raw_ex ns 0
  have hr : den__law_raw [.scr (ns.map .int), .int 0] = some (.int r) := hr
  obtain ⟨c, hc⟩ := raw_ex ns 1
  have hc : den__law_raw [.scr (ns.map .int), .int 1] = some (.int c) := hc
  have hmp : (0 : Int) < m := by omega
  have g1 := Int.emod_nonneg (r / 2) (show (m : Int) ≠ 0 by omega)
  have g2 := Int.emod_lt_of_pos (r / 2) hmp
  obtain ⟨n, hn1, hn9, hn⟩ : ∃ n : Nat, 1 ≤ n ∧ n ≤ 9 ∧ 1 + r / 2 % (m : Int) = n := ⟨(1 + r / 2 % (m : Int)).toNat, by omega, by omega, by omega⟩
  have hsm : small 62 (n : Int) := small_n (by omega)
  generalize D.scr (ns.map .int) = S at hr hc ⊢
  have hloop : ∃ ρ', loopD (tgN 5) (sFor (iRg1 (eV 5)) (tgN 6) (sSeq (sIf (t2b (e2 gEqS (e2 gMod (eV 3) (eK (.int 2))) (eK (.int 1)))) (sApp 4 (eTup (aCons (eV 6) (aCons (eV 5) aNil)))) sNil) (sSet 3 (e2 gDiv (eV 3) (eK (.int 2))))) [6]) [5, 6] ((List.range n).map nD) [S, nD m, nD n, .int c, .lst [], .non, .non] = some (.nx ρ') ∧ ∃ c' ps, ρ' = [S, nD m, nD n, .int c', .lst (asP ps), .non, .non] ∧ PsOk n ps ∧ ps.length ≤ 9 * n := by
    refine loop_ex (fun t ρ => ∃ c' ps, ρ = [S, nD m, nD n, .int c', .lst (asP ps), .non, .non] ∧ PsOk n ps ∧ ps.length ≤ 9 * t) n (by simp) ⟨_, [], rfl, PsOk.nil, Nat.zero_le _⟩ ?_
    rintro t ht d hd ρ ⟨c1, ps1, rfl, ok1, len1⟩
    rw [range_item ht hd]
    have inner : ∃ ρ', loopD (tgN 6) (sSeq (sIf (t2b (e2 gEqS (e2 gMod (eV 3) (eK (.int 2))) (eK (.int 1)))) (sApp 4 (eTup (aCons (eV 6) (aCons (eV 5) aNil)))) sNil) (sSet 3 (e2 gDiv (eV 3) (eK (.int 2))))) [6] ((List.range t).map nD) [S, nD m, nD n, .int c1, .lst (asP ps1), nD t, .non] = some (.nx ρ') ∧ ∃ c' ps, ρ' = [S, nD m, nD n, .int c', .lst (asP ps), nD t, .non] ∧ PsOk n ps ∧ ps.length ≤ 9 * t + t := by
      refine loop_ex (fun u ρ => ∃ c' ps, ρ = [S, nD m, nD n, .int c', .lst (asP ps), nD t, .non] ∧ PsOk n ps ∧ ps.length ≤ 9 * t + u) t (by simp) ⟨c1, ps1, rfl, ok1, len1⟩ ?_
      rintro u hu d hd ρ ⟨c2, ps2, rfl, ok2, len2⟩
      rw [range_item hu hd]
      by_cases hc : c2 % 2 = 1
      · refine ⟨_, [S, nD m, nD n, .int (c2 / 2), .lst (asP (ps2 ++ [(u, t)])), nD t, nD u], rfl, .inl ?_, c2 / 2, ps2 ++ [(u, t)], rfl, ok2.app (.one hu ht), by simp; omega⟩
        have hl : ps2.length < 1000000 := by omega
        refine st_nx (ρ' := [S, nD m, nD n, .int c2, .lst (asP (ps2 ++ [(u, t)])), nD t, nD u]) ?_ ?_
        · simp_arith [hc, asP_len, hl, asP_app]; rfl
        · walk_at "ev"
      · refine ⟨_, [S, nD m, nD n, .int (c2 / 2), .lst (asP ps2), nD t, nD u], rfl, .inl ?_, c2 / 2, ps2, rfl, ok2, by omega⟩
        refine st_nx (ρ' := [S, nD m, nD n, .int c2, .lst (asP ps2), nD t, nD u]) ?_ ?_
        · simp_arith [hc]
        · walk_at "ev"
    obtain ⟨ρ', h1, c3, ps3, rfl, ok3, len3⟩ := inner
    refine ⟨_, _, rfl, .inl ((for_eq (items := (List.range t).map nD) ?_).trans h1), c3, ps3, rfl, ok3, by omega⟩
    have hs : small 62 (t : Int) := small_n (by omega)
    simp_arith [hs, rangeD_nat]
  obtain ⟨ρ', hl, c', ps, rfl, ok, len⟩ := hloop
  refine ⟨n, ps, hn1, hn9, ok, by omega, fnD_rt rfl ?_⟩
  unfold b__law_any
  simp_arith! [hr, hmp, hn]
  simp_arith! [hc]
  walk_at "st"
  refine st_nx ((for_eq (items := (List.range n).map nD) ?_).trans hl) ?_
  · simp_arith [hsm, rangeD_nat]
  · walk_at "ev"
theorem field_ex (c : Int) (m : Nat) (hm1 : 1 ≤ m) (hm9 : m ≤ 9) : Drw (den__law_field [.int c, nD m]) := by
  obtain ⟨r0, hr01, hr03, hr0⟩ : ∃ r : Nat, 1 ≤ r ∧ r ≤ 3 ∧ 1 + c % 3 = r := ⟨(1 + c % 3).toNat, by omega, by omega, by omega⟩
  obtain ⟨r, hr1, hr3, hrm, hstep⟩ : ∃ r : Nat, 1 ≤ r ∧ r ≤ 3 ∧ r ≤ m ∧ (sIf (t2b (e2 gGt (eV 2) (eV 1))) (sSet 2 (eK (.int 1))) sNil) [.int c, nD m, nD r0, .non, .non, .non] = some (.nx [.int c, nD m, nD r, .non, .non, .non]) := by
    by_cases h : (m : Int) < r0
    · exact ⟨1, by omega, by omega, hm1, by simp_arith [h]; rfl⟩
    · exact ⟨r0, hr01, hr03, by omega, by simp_arith [h]⟩
  have hq : (m : Int) / r = ((m / r : Nat) : Int) := (Int.natCast_ediv _ _).symm
  have hq0 : 1 ≤ m / r := Nat.div_pos hrm hr1
  obtain ⟨w, hw1, hw9, hw⟩ : ∃ w : Nat, 1 ≤ w ∧ w ≤ m / r ∧ 1 + c / 3 % ((m / r : Nat) : Int) = w := by
    have g1 := Int.emod_nonneg (c / 3) (show ((m / r : Nat) : Int) ≠ 0 by omega)
    have g2 := Int.emod_lt_of_pos (c / 3) (show (0 : Int) < ((m / r : Nat) : Int) by omega)
    exact ⟨(1 + c / 3 % ((m / r : Nat) : Int)).toNat, by omega, by omega, by omega⟩
  have hm9' : r * w ≤ 9 := Nat.le_trans (Nat.mul_le_mul_left r hw9) (Nat.le_trans (Nat.mul_div_le m r) hm9)
  have hmp : 1 ≤ r * w := Nat.mul_pos hr1 hw1
  have hw10 : w ≤ 9 := Nat.le_trans (Nat.le_mul_of_pos_left w hr1) hm9'
  have hmul : mulOk (r : Int) (w : Int) := mulOk_r (by omega) (by omega)
  have hrd : 0 < (r : Int) ∧ small 9000 (r : Int) := divOk (by omega) (by omega)
  have hqp : 0 < ((m / r : Nat) : Int) := by omega
  have hrw : (r : Int) * w = ((r * w : Nat) : Int) := (Int.natCast_mul r w).symm
  have hsm : small 62 ((r * w : Nat) : Int) := small_n (by omega)
  have hwp : (0 : Int) < w := by omega
  generalize hN : r * w = N at hm9' hmp hrw hsm
  have hloop : ∃ ρ', loopD (tgN 5) (sSeq (sIf (t2b (e2 gLt (e2 gMod (eV 5) (eV 3)) (e2 gSbI (eV 3) (eK (.int 1))))) (sApp 4 (eTup (aCons (eV 5) (aCons (e2 gAdd (eV 5) (eK (.int 1))) aNil)))) sNil)
 (sIf (t2b (e2 gLt (e2 gAdd (eV 5) (eV 3)) (e2 gMul (eV 2) (eV 3)))) (sApp 4 (eTup (aCons (eV 5) (aCons (e2 gAdd (eV 5) (eV 3)) aNil)))) sNil)) [5] ((List.range N).map nD) [.int c, nD m, nD r, nD w, .lst [], .non] = some (.nx ρ') ∧ ∃ ps, ρ' = [.int c, nD m, nD r, nD w, .lst (asP ps), .non] ∧ PsOk N ps ∧ ps.length ≤ 2 * N := by
    refine loop_ex (fun t ρ => ∃ ps, ρ = [.int c, nD m, nD r, nD w, .lst (asP ps), .non] ∧ PsOk N ps ∧ ps.length ≤ 2 * t) N (by simp) ⟨[], rfl, PsOk.nil, Nat.zero_le _⟩ ?_
    rintro t ht d hd ρ ⟨ps1, rfl, ok1, len1⟩
    rw [range_item ht hd]
    have step1 : ∃ ps2, (sIf (t2b (e2 gLt (e2 gMod (eV 5) (eV 3)) (e2 gSbI (eV 3) (eK (.int 1))))) (sApp 4 (eTup (aCons (eV 5) (aCons (e2 gAdd (eV 5) (eK (.int 1))) aNil)))) sNil) [.int c, nD m, nD r, nD w, .lst (asP ps1), nD t] = some (.nx [.int c, nD m, nD r, nD w, .lst (asP ps2), nD t]) ∧ PsOk N ps2 ∧ ps2.length ≤ 2 * t + 1 := by
      by_cases hc : (t : Int) % w < w - 1
      · have hlt : t + 1 < N := by
          refine Nat.lt_of_le_of_ne ht fun e => ?_
          have h1 : (t + 1) % w = 0 := by rw [e, ← hN, Nat.mul_mod_left]
          have h2 : t % w < w - 1 := by
            have : ((t % w : Nat) : Int) < w - 1 := by rw [Int.natCast_emod]; exact hc
            omega
          have h3 : (t + 1) % w = t % w + 1 := by
            rw [Nat.add_mod, Nat.mod_eq_of_lt (a := 1) (by omega), Nat.mod_eq_of_lt (by omega)]
          omega
        have hl : ps1.length < 1000000 := by omega
        refine ⟨ps1 ++ [(t, t + 1)], ?_, ok1.app (.one (by omega) hlt), by simp; omega⟩
        simp_arith [hwp, hc, asP_len, hl, asP_app]; rfl
      · exact ⟨ps1, by simp_arith [hwp, hc], ok1, by omega⟩
    obtain ⟨ps2, hs1, ok2, len2⟩ := step1
    have step2 : ∃ ps3, (sIf (t2b (e2 gLt (e2 gAdd (eV 5) (eV 3)) (e2 gMul (eV 2) (eV 3)))) (sApp 4 (eTup (aCons (eV 5) (aCons (e2 gAdd (eV 5) (eV 3)) aNil)))) sNil) [.int c, nD m, nD r, nD w, .lst (asP ps2), nD t] = some (.nx [.int c, nD m, nD r, nD w, .lst (asP ps3), nD t]) ∧ PsOk N ps3 ∧ ps3.length ≤ 2 * t + 2 := by
      by_cases hc : (t : Int) + w < (N : Int)
      · have hl : ps2.length < 1000000 := by omega
        refine ⟨ps2 ++ [(t, t + w)], ?_, ok2.app (.one (by omega) (by omega)), by simp; omega⟩
        simp_arith [hmul, hrw, hc, asP_len, hl, asP_app]; rfl
      · exact ⟨ps2, by simp_arith [hmul, hrw, hc], ok2, by omega⟩
    obtain ⟨ps3, hs2, ok3, len3⟩ := step2
    exact ⟨[.int c, nD m, nD r, nD w, .lst (asP ps1), nD t], _, rfl, .inl (st_nx hs1 hs2), ps3, rfl, ok3, by omega⟩
  obtain ⟨ρ', hl, ps, rfl, ok, len⟩ := hloop
  refine ⟨N, ps, hmp, hm9', ok, by omega, fnD_rt rfl ?_⟩
  unfold b__law_field
  simp_arith! [hr0]
  refine st_nx hstep ?_
  simp_arith! [hrd, hq, hqp, hw]
  walk_at "st"
  refine st_nx ((for_eq (items := (List.range N).map nD) ?_).trans hl) ?_
  · simp_arith [hmul, hrw, hsm, rangeD_nat]
  · simp_arith [hmul, hrw]
theorem drawn2_ex (ns : List Int) : Drw (den__law_drawn_v2 [.scr (ns.map .int), .int 9]) := by
  obtain ⟨r0, hr0⟩ := raw_ex ns 0
  have hr0 : den__law_raw [.scr (ns.map .int), .int 0] = some (.int r0) := hr0
  by_cases h0 : r0 % 2 = 0
  · obtain ⟨n, ps, h1, h2, h3, h4, h5⟩ := any2_ex ns 9 (by decide) (by decide)
    have h5 : den__law_any [.scr (ns.map .int), .int 9] = _ := h5
    refine ⟨n, ps, h1, h2, h3, h4, fnD_rt rfl ?_⟩
    unfold b__law_drawn_v2
    refine seq_rt ((if_t ?_).trans ?_)
    · simp_arith [hr0, h0]
    · simp_arith [h5]
  obtain ⟨c0, hc0⟩ := cell_ex ns 0
  have hc0 : den__law_cell_at [.scr (ns.map .int), .int 0] = some (.int c0) := hc0
  obtain ⟨c1, hc1⟩ := cell_ex ns 1
  have hc1 : den__law_cell_at [.scr (ns.map .int), .int 1] = some (.int c1) := hc1
  obtain ⟨n, hn1, hn9, hn⟩ : ∃ n : Nat, 1 ≤ n ∧ n ≤ 9 ∧ 1 + c0 % 9 = n := ⟨(1 + c0 % 9).toNat, by omega, by omega, by omega⟩
  have hsm : small 62 ((n : Int) - 1) := small_b (by omega) (by omega)
  by_cases k0 : c0 / 9 % 7 = 0
  · obtain ⟨n2, ps, h1, h2, h3, h4, h5⟩ := field_ex (c0 / 63) 9 (by decide) (by decide)
    have h5 : den__law_field [.int (c0 / 63), .int 9] = _ := h5
    refine ⟨n2, ps, h1, h2, h3, h4, fnD_rt rfl ?_⟩
    unfold b__law_drawn_v2
    refine st_nx ((if_f ?_).trans rfl) ?_
    · simp_arith [hr0, h0]
    simp_arith! [hc0]
    simp_arith! [hn]
    walk_at "st"
    refine seq_rt ((if_t ?_).trans ?_)
    · simp_arith [k0]
    · simp_arith [h5]
  by_cases k1 : c0 / 9 % 7 = 1
  · refine ⟨n, (List.range (n - 1)).map fun k => (k, k + 1), hn1, hn9, psok_map fun x hx => by have := List.mem_range.mp hx; simp; omega, by simp; omega, fnD_rt rfl ?_⟩
    unfold b__law_drawn_v2
    refine st_nx ((if_f ?_).trans rfl) ?_
    · simp_arith [hr0, h0]
    simp_arith! [hc0]
    simp_arith! [hn]
    walk_at "st"
    refine st_nx ((if_f ?_).trans rfl) ?_
    · simp_arith [k0]
    have hc : eComp (iRg1 (e2 gSbI (eV 3) (eK (.int 1)))) (tgN 9) tTrue (eTup (aCons (eV 9) (aCons (e2 gAdd (eV 9) (eK (.int 1))) aNil))) [.scr (ns.map .int), .int 9, .int c0, nD n, .int (c0 / 9 % 7), .non, .non, .non, .non, .non] = some (.lst (asP ((List.range (n - 1)).map fun k => (k, k + 1)))) := by
      have hn' : (n : Int) - 1 = ((n - 1 : Nat) : Int) := by omega
      refine comp_eq (items := (List.range (n - 1)).map nD) ?_ ?_ (by rw [asP_len]; simp; omega)
      · simp_arith [hsm]
        rw [hn', rangeD_nat]
      · rw [asP_map]
        exact comp_map nD (fun x => .tup [nD x, nD (x + 1)]) _ fun x hx => ⟨_, rfl, rfl, by walk_at "ev"; rfl⟩
    refine seq_rt ((if_t ?_).trans ?_)
    · simp_arith [k1]
    · simp_arith [hc]
  have start : ∀ {R : Option Out} {g : SF}, g [.scr (ns.map .int), .int 9, .int c0, nD n, .int (c0 / 9 % 7), .non, .non, .non, .non, .non] = R → (sSeq (sIf (t2b (e2 gEqS (e2 gMod (eCall den__law_raw (aCons (eV 0) (aCons (eK (.int 0)) aNil))) (eK (.int 2))) (eK (.int 0)))) (sRet (eCall den__law_any (aCons (eV 0) (aCons (eV 1) aNil)))) sNil)
 (sSeq (sSet 2 (eCall den__law_cell_at (aCons (eV 0) (aCons (eK (.int 0)) aNil))))
 (sSeq (sSet 3 (e2 gAdd (eK (.int 1)) (e2 gMod (eV 2) (eV 1))))
 (sSeq (sSet 4 (e2 gMod (e2 gDiv (eV 2) (eK (.int 9))) (eK (.int 7))))
 (sSeq (sIf (t2b (e2 gEqS (eV 4) (eK (.int 0)))) (sRet (eCall den__law_field (aCons (e2 gDiv (eV 2) (eK (.int 63))) (aCons (eV 1) aNil)))) sNil)
 (sSeq (sIf (t2b (e2 gEqS (eV 4) (eK (.int 1)))) (sRet (eTup (aCons (eV 3) (aCons (eComp (iRg1 (e2 gSbI (eV 3) (eK (.int 1)))) (tgN 9) tTrue (eTup (aCons (eV 9) (aCons (e2 gAdd (eV 9) (eK (.int 1))) aNil)))) aNil)))) (sThen sNil [9])) g)))))) [.scr (ns.map .int), .int 9, .non, .non, .non, .non, .non, .non, .non, .non] = R := by
    intro R g hg
    refine st_nx ((if_f ?_).trans rfl) ?_
    · simp_arith [hr0, h0]
    simp_arith! [hc0]
    simp_arith! [hn]
    walk_at "st"
    refine st_nx ((if_f ?_).trans rfl) ?_
    · simp_arith [k0]
    refine st_nx ((if_f ?_).trans rfl) ?_
    · simp_arith [k1]
    exact hg
  by_cases k2 : (n : Int) < 2 ∨ c0 / 9 % 7 = 2
  · refine ⟨n, [], hn1, hn9, PsOk.nil, by simp, fnD_rt rfl ?_⟩
    unfold b__law_drawn_v2
    refine start ?_
    refine seq_rt ((if_t ?_).trans ?_)
    · rcases k2 with k2 | k2
      · simp_arith [k2]
      · by_cases k3 : (n : Int) < 2
        · simp_arith [k3]
        · simp_arith [k2, k3]
    · walk_at "ev"; rfl
  · have k3 : ¬ (n : Int) < 2 := fun h => k2 (.inl h)
    have k4 : ¬ c0 / 9 % 7 = 2 := fun h => k2 (.inr h)
    have h2n : (0 : Int) < 2 * n := by omega
    have g1 := Int.emod_nonneg c1 (show (2 * (n : Int)) ≠ 0 by omega)
    have g2 := Int.emod_lt_of_pos c1 h2n
    obtain ⟨m, hm18, hm⟩ : ∃ m : Nat, m ≤ 18 ∧ 1 + c1 % (2 * (n : Int)) = m := ⟨(1 + c1 % (2 * (n : Int))).toNat, by omega, by omega⟩
    have hsmm : small 62 (m : Int) := small_n (by omega)
    have hloop : ∃ ρ', loopD (tgN 6) (sSeq (sSet 7 (e2 gAdd (eCall den__law_cell_at (aCons (eV 0) (aCons (e2 gAdd (eK (.int 8)) (eV 6)) aNil))) (e2 gMul (e2 gDiv (eV 2) (eK (.int 7))) (e2 gAdd (eV 6) (eK (.int 1))))))
 (sSeq (sSet 8 (e2 gMod (eV 7) (e2 gSbI (eV 3) (eK (.int 1)))))
 (sApp 5 (eTup (aCons (eV 8) (aCons (e2 gAdd (e2 gAdd (eV 8) (eK (.int 1))) (e2 gMod (e2 gDiv (eV 7) (eK (.int 9))) (e2 gSbI (e2 gSbI (eV 3) (eK (.int 1))) (eV 8)))) aNil)))))) [6, 7, 8] ((List.range m).map nD) [.scr (ns.map .int), .int 9, .int c0, nD n, .int (c0 / 9 % 7), .lst [], .non, .non, .non, .non] = some (.nx ρ') ∧ ∃ ps, ρ' = [.scr (ns.map .int), .int 9, .int c0, nD n, .int (c0 / 9 % 7), .lst (asP ps), .non, .non, .non, .non] ∧ PsOk n ps ∧ ps.length ≤ m := by
      refine loop_ex (fun t ρ => ∃ ps, ρ = [.scr (ns.map .int), .int 9, .int c0, nD n, .int (c0 / 9 % 7), .lst (asP ps), .non, .non, .non, .non] ∧ PsOk n ps ∧ ps.length ≤ t) m (by simp) ⟨[], rfl, PsOk.nil, Nat.zero_le _⟩ ?_
      rintro t ht d hd ρ ⟨ps1, rfl, ok1, len1⟩
      rw [range_item ht hd]
      obtain ⟨ct, hct⟩ := cell_ex ns (8 + t)
      have hct : den__law_cell_at [.scr (ns.map .int), .int (8 + (t : Int))] = some (.int ct) := hct
      obtain ⟨e, he⟩ : ∃ e : Int, ct + c0 / 7 * ((t : Int) + 1) = e := ⟨_, rfl⟩
      obtain ⟨lo, hlo⟩ : ∃ lo : Nat, e % ((n : Int) - 1) = lo := ⟨(e % ((n : Int) - 1)).toNat, by have := Int.emod_nonneg e (show (n : Int) - 1 ≠ 0 by omega); omega⟩
      have hlo2 : lo < n - 1 := by have := Int.emod_lt_of_pos e (show (0 : Int) < (n : Int) - 1 by omega); omega
      obtain ⟨up, hup⟩ : ∃ up : Nat, e / 9 % ((n : Int) - 1 - lo) = up := ⟨(e / 9 % ((n : Int) - 1 - lo)).toNat, by have := Int.emod_nonneg (e / 9) (show (n : Int) - 1 - lo ≠ 0 by omega); omega⟩
      have hup2 : up < n - 1 - lo := by have := Int.emod_lt_of_pos (e / 9) (show (0 : Int) < (n : Int) - 1 - lo by omega); omega
      refine ⟨_, [.scr (ns.map .int), .int 9, .int c0, nD n, .int (c0 / 9 % 7), .lst (asP (ps1 ++ [(lo, lo + 1 + up)])), nD t, .int e, nD lo, .non], rfl, .inl ?_, ps1 ++ [(lo, lo + 1 + up)], rfl, ok1.app (.one (by omega) (by omega)), by simp; omega⟩
      have hp1 : (0 : Int) < (n : Int) - 1 := by omega
      have hp2 : (0 : Int) < (n : Int) - 1 - lo := by omega
      have hl : ps1.length < 1000000 := by omega
      have hmo : mulOk (c0 / 7) ((t : Int) + 1) := mulOk_r (by omega) (by omega)
      simp_arith! [hct, hmo, he]
      simp_arith [hp1, hlo, hp2, hup, asP_len, hl, asP_app]
      rfl
    obtain ⟨ρ', hl, ps, rfl, ok, len⟩ := hloop
    refine ⟨n, ps, hn1, hn9, ok, by omega, fnD_rt rfl ?_⟩
    unfold b__law_drawn_v2
    refine start ?_
    refine st_nx ((if_f ?_).trans rfl) ?_
    · simp_arith [k3, k4]
    walk_at "st"
    refine st_nx ((for_eq (items := (List.range m).map nD) ?_).trans hl) ?_
    · simp_arith [hc1, h2n, hm, hsmm, rangeD_nat]
    · walk_at "ev"

section
variable {n : Nat} {lt : Nat → Nat → Bool} (P : PO n lt)
def isDown (n : Nat) (lt : Nat → Nat → Bool) (b : Nat) : Bool := decide (b < 2 ^ n) && (List.range n).all fun j => !b.testBit j || hasL n lt b j
theorem isDown_iff {b : Nat} (P : PO n lt) : isDown n lt b = true ↔ b < 2 ^ n ∧ ∀ i j, lt i j = true → b.testBit j = true → b.testBit i = true := by
  unfold isDown hasL
  rw [Bool.and_eq_true, decide_eq_true_eq, List.all_eq_true]
  constructor
  · rintro ⟨h1, h2⟩
    refine ⟨h1, fun i j hij hj => ?_⟩
    have hu := P.up hij
    have h3 := h2 j (List.mem_range.mpr hu.2)
    rw [hj, Bool.not_true, Bool.false_or, List.all_eq_true] at h3
    have h4 := h3 i (List.mem_range.mpr (by omega))
    rw [hij] at h4
    simpa using h4
  · rintro ⟨h1, h2⟩
    refine ⟨h1, fun j hj => ?_⟩
    cases hb : b.testBit j with
    | false => rfl
    | true =>
      rw [Bool.not_true, Bool.false_or, List.all_eq_true]
      intro i _
      cases hij : lt i j with
      | false => rfl
      | true => simpa using h2 i j hij hb
theorem T9_eq {b n : Nat} (hb : b < 2 ^ n) (hn : n ≤ 9) : T9 b.testBit = (List.range n).filter b.testBit := by
  unfold T9
  have h : List.range 9 = List.range n ++ (List.range (9 - n)).map (n + ·) := by
    have : 9 = n + (9 - n) := by omega
    conv => lhs; rw [this]
    exact List.range_add
  rw [h, List.filter_append]
  suffices hs : List.filter b.testBit ((List.range (9 - n)).map (n + ·)) = [] by rw [hs, List.append_nil]
  refine List.filter_eq_nil_iff.mpr fun t ht => ?_
  obtain ⟨k, _, rfl⟩ := List.mem_map.mp ht
  intro z
  have := bit_lt hb z
  omega
theorem bit_of_eq9 (t : Nat) (ht : t < 10) : den_bit_of [nD t] = some (nD (2 ^ t)) := by
  by_cases h : t < 9
  · exact bit_of_eq t h
  · have : t = 9 := by omega
    subst this; rfl
theorem down_low (b : Int) (h : b < 0) : den_is_downset [ordD n lt, .int b] = some (.bl false) := by
  refine fnD_rt rfl ?_
  unfold b_is_downset
  refine seq_rt ((if_t ?_).trans ?_)
  · simp_arith [h]
  · walk_at "ev"
include P in
theorem down_high (b : Int) (h0 : 0 ≤ b) (h : ((2 ^ n : Nat) : Int) ≤ b) : den_is_downset [ordD n lt, .int b] = some (.bl false) := by
  refine fnD_rt rfl ?_
  unfold b_is_downset
  have g0 : ¬ b < 0 := by omega
  have h1 := size_eq (n := n) (lt := lt)
  have h2 := bit_of_eq9 n (by have := P.le; omega)
  unfold ordD at h1 ⊢
  refine seq_rt ((if_t ?_).trans ?_)
  · simp_arith [g0, h1, h2, h]
  · walk_at "ev"
include P in
theorem is_downset_eq (b : Nat) (hb : b < 2 ^ n) : den_is_downset [ordD n lt, nD b] = some (.bl (isDown n lt b)) := by
  refine fnD_rt rfl ?_
  unfold b_is_downset
  have h1 := size_eq (n := n) (lt := lt)
  have h2 := bit_of_eq9 n (by have := P.le; omega)
  have h3 := things_eq b
  rw [T9_eq hb P.le] at h3
  have g0 : ¬ (b : Int) < 0 := by omega
  have g1 : ¬ ((2 ^ n : Nat) : Int) ≤ b := by omega
  unfold ordD at h1 ⊢
  refine st_nx ((if_f ?_).trans rfl) ?_
  · simp_arith [g0, h1, h2, g1]
  · have hc : eComp (iSeq (eCall den_things_of (aCons (eV 1) aNil))) (tgN 2) tTrue (eCall den_has_lows (aCons (eV 0) (aCons (eV 1) (aCons (eV 2) aNil)))) [ordD n lt, nD b, .non] = some (.lst (((List.range n).filter b.testBit).map fun j => .bl (hasL n lt b j))) := by
      refine comp_eq (items := asD ((List.range n).filter b.testBit)) ?_ ?_ (by rw [List.length_map]; have h8 := flen b.testBit n; have h9 := P.le; omega)
      · simp_arith [h3]
      · refine comp_map _ (fun j => D.bl (hasL n lt b j)) _ fun j hj => ?_
        have hj := List.mem_range.mp (List.mem_filter.mp hj).1
        have h := has_lows_eq P b j hj
        exact ⟨[ordD n lt, nD b, nD j], rfl, rfl, by simp_arith [h]⟩
    unfold ordD at hc
    show ((eComp _ _ _ _ [_, nD b, D.non]).bind gAll).bind _ = _
    rw [hc, Option.bind_some, gAll_map]
    have : ((List.range n).filter b.testBit).all (fun j => hasL n lt b j) = isDown n lt b := by
      unfold isDown
      rw [List.all_filter, decide_eq_true hb, Bool.true_and]
    rw [this]; rfl
end

def undR (n : Nat) (lt : Nat → Nat → Bool) (j : Nat) : List Nat := (List.range n).filter fun i => lt i j
def undD (n : Nat) (lt : Nat → Nat → Bool) : List D := (List.range n).map fun j => .lst (asD (undR n lt j))
theorem undD_len (n : Nat) (lt : Nat → Nat → Bool) : (undD n lt).length = n := by simp [undD]
theorem und_at {n : Nat} {lt : Nat → Nat → Bool} (j : Nat) (hj : j < n) : atI (undD n lt) (j : Int) = some (.lst (asD (undR n lt j))) := atI_mapN (List.getElem?_range hj)
theorem undR_len (n : Nat) (lt : Nat → Nat → Bool) (j : Nat) : (undR n lt j).length ≤ n := flen _ _
theorem filt_pw (p : Nat → Bool) (n : Nat) : ((List.range n).filter p).Pairwise (· < ·) := List.Pairwise.filter _ List.pairwise_lt_range
theorem sset_nat {f r : List Nat} (hr : r.Pairwise (· < ·)) (hm : ∀ x, x ∈ f ↔ x ∈ r) (hl : f.length ≤ 4000) (h63 : ∀ x ∈ f, x < 63) : gSSet (.lst (asD f)) = some (.lst (asD r)) := by
  unfold gSSet
  dsimp only
  rw [intsOf_asD, Option.bind_some]
  have h1 : fewI (f.map fun (n : Nat) => (n : Int)) = true := by
    unfold fewI
    rw [Bool.or_eq_true, List.all_eq_true]
    refine .inr fun x hx => ?_
    obtain ⟨n, hn, rfl⟩ := List.mem_map.mp hx
    have := h63 n hn
    simp; omega
  rw [if_pos ⟨by rw [List.length_map]; exact hl, h1⟩]
  have e : sset (f.map fun (n : Nat) => (n : Int)) = r.map fun (n : Nat) => (n : Int) := by
    refine pw_ext (sset_pw _) ?_ fun z => ?_
    · exact List.pairwise_map.mpr (hr.imp fun {a b} h => by omega)
    · rw [sset_mem, List.mem_map, List.mem_map]
      constructor
      · rintro ⟨a, ha, rfl⟩; exact ⟨a, (hm a).mp ha, rfl⟩
      · rintro ⟨a, ha, rfl⟩; exact ⟨a, (hm a).mpr ha, rfl⟩
  rw [e]
  unfold asD
  rw [List.map_map]; rfl
theorem under_eq {n : Nat} {ps : List (Nat × Nat)} (h1 : 1 ≤ n) (h9 : n ≤ 9) (hp : PsOk n ps) (hl : ps.length ≤ 100) : den__law_under [nD n, .lst (asP ps)] = some (.lst (undD n (cl ps))) := by
  have P := po_cl h1 h9 hp
  refine fnD_rt (by show (true && (D.lfs (asP ps) && true)) = true; rw [lfs_asP]; rfl) ?_
  unfold b__law_under
  have hsm : small 62 (n : Int) := small_n (by omega)
  walk_at "st"
  refine st_nx (ρ' := [nD n, .lst (asP ps), .lst (undD n (cl ps)), .non, .non, .non, .non]) ((for_eq (items := (List.range n).map nD) ?_).trans ?_) ?_
  · simp_arith [hsm, rangeD_nat]
  · refine loop_inv (fun t => [nD n, .lst (asP ps), .lst ((List.range t).map fun j => .lst (asD (undR n (cl ps) j))), .non, .non, .non, .non]) n (by simp) rfl fun t ht d hd => ?_
    rw [range_item ht hd]
    refine ⟨_, [nD n, .lst (asP ps), .lst ((List.range (t + 1)).map fun j => .lst (asD (undR n (cl ps) j))), nD t, .lst (asD (ps.foldl (fun f p => if p.2 = t then f ++ (p.1 :: undR n (cl ps) p.1) else f) [])), .non, .non], rfl, .inl ?_, rfl⟩
    walk_at "st"
    have key : ∀ (qs : List (Nat × Nat)) (f0 : List Nat), (∀ p ∈ qs, p ∈ ps) → f0.length + 10 * qs.length ≤ 4000 → loopD (tgT [5, 6]) (sIf (t2b (e2 gEqS (eV 6) (eV 3))) (sExt 4 (e2 gCat (eLst (aCons (eV 5) aNil)) (e2 gIx (eV 2) (eV 5)))) sNil) [5, 6] (asP qs) [nD n, .lst (asP ps), .lst ((List.range t).map fun j => .lst (asD (undR n (cl ps) j))), nD t, .lst (asD f0), .non, .non] = some (.nx [nD n, .lst (asP ps), .lst ((List.range t).map fun j => .lst (asD (undR n (cl ps) j))), nD t, .lst (asD (qs.foldl (fun f p => if p.2 = t then f ++ (p.1 :: undR n (cl ps) p.1) else f) f0)), .non, .non]) := by
      intro qs
      induction qs with
      | nil => intro f0 _ _; rfl
      | cons p qs ih =>
        intro f0 hm hlen
        have hh := hp p (hm p List.mem_cons_self)
        rw [List.length_cons] at hlen
        have hul := undR_len n (cl ps) p.1
        show loopD _ _ _ (.tup [nD p.1, nD p.2] :: asP qs) _ = _
        unfold loopD
        by_cases hpt : p.2 = t
        · subst hpt
          have hg : atI ((List.range p.2).map fun j => D.lst (asD (undR n (cl ps) j))) (p.1 : Int) = some (.lst (asD (undR n (cl ps) p.1))) := atI_mapN (List.getElem?_range hh.1)
          have hs : (sIf (t2b (e2 gEqS (eV 6) (eV 3))) (sExt 4 (e2 gCat (eLst (aCons (eV 5) aNil)) (e2 gIx (eV 2) (eV 5)))) sNil) [nD n, .lst (asP ps), .lst ((List.range p.2).map fun j => .lst (asD (undR n (cl ps) j))), nD p.2, .lst (asD f0), nD p.1, nD p.2] = some (.nx [nD n, .lst (asP ps), .lst ((List.range p.2).map fun j => .lst (asD (undR n (cl ps) j))), nD p.2, .lst (asD (f0 ++ (p.1 :: undR n (cl ps) p.1))), nD p.1, nD p.2]) := by
            have g1 : 1 + (undR n (cl ps) p.1).length ≤ 1000000 := by omega
            have g2 : f0.length + (1 + (undR n (cl ps) p.1).length) ≤ 1000000 := by omega
            have g3 : f0.length + ((undR n (cl ps) p.1).length + 1) ≤ 1000000 := by omega
            simp_arith [hg, asD_len, g1, g2, g3, asD_app]
            rfl
          have := ih (f0 ++ (p.1 :: undR n (cl ps) p.1)) (fun q hq => hm q (List.mem_cons_of_mem _ hq)) (by simp; omega)
          simp only [tgT, setAll, List.set_cons_succ, List.set_cons_zero, Option.bind_some, hs, clrs]
          rw [this, List.foldl_cons, if_pos rfl]
        · have hi : ¬ ((p.2 : Int) = t) := by omega
          have hs : (sIf (t2b (e2 gEqS (eV 6) (eV 3))) (sExt 4 (e2 gCat (eLst (aCons (eV 5) aNil)) (e2 gIx (eV 2) (eV 5)))) sNil) [nD n, .lst (asP ps), .lst ((List.range t).map fun j => .lst (asD (undR n (cl ps) j))), nD t, .lst (asD f0), nD p.1, nD p.2] = some (.nx [nD n, .lst (asP ps), .lst ((List.range t).map fun j => .lst (asD (undR n (cl ps) j))), nD t, .lst (asD f0), nD p.1, nD p.2]) := by
            simp_arith [hi]
          have := ih f0 (fun q hq => hm q (List.mem_cons_of_mem _ hq)) (by omega)
          simp only [tgT, setAll, List.set_cons_succ, List.set_cons_zero, Option.bind_some, hs, clrs]
          rw [this, List.foldl_cons, if_neg hpt]
    refine st_nx ((for_eq (items := asP ps) ?_).trans (key ps [] (fun p h => h) (by simp; omega))) ?_
    · walk_at "ev"
    have hmem : ∀ (qs : List (Nat × Nat)) (f0 : List Nat) (x : Nat), x ∈ qs.foldl (fun f p => if p.2 = t then f ++ (p.1 :: undR n (cl ps) p.1) else f) f0 ↔ x ∈ f0 ∨ ∃ p ∈ qs, p.2 = t ∧ (x = p.1 ∨ x ∈ undR n (cl ps) p.1) := by
      intro qs
      induction qs with
      | nil => intro f0 x; simp
      | cons p qs ih =>
        intro f0 x
        rw [List.foldl_cons, ih]
        by_cases hpt : p.2 = t
        · rw [if_pos hpt, List.mem_append, List.mem_cons]
          constructor
          · rintro ((h | h) | ⟨q, hq, h⟩)
            · exact .inl h
            · exact .inr ⟨p, List.mem_cons_self, hpt, h⟩
            · exact .inr ⟨q, List.mem_cons_of_mem _ hq, h⟩
          · rintro (h | ⟨q, hq, h1, h2⟩)
            · exact .inl (.inl h)
            · rcases List.mem_cons.mp hq with e | hq
              · subst e; exact .inl (.inr h2)
              · exact .inr ⟨q, hq, h1, h2⟩
        · rw [if_neg hpt]
          constructor
          · rintro (h | ⟨q, hq, h⟩)
            · exact .inl h
            · exact .inr ⟨q, List.mem_cons_of_mem _ hq, h⟩
          · rintro (h | ⟨q, hq, h1, h2⟩)
            · exact .inl h
            · rcases List.mem_cons.mp hq with e | hq
              · subst e; exact absurd h1 hpt
              · exact .inr ⟨q, hq, h1, h2⟩
    have hlenF : ∀ (qs : List (Nat × Nat)) (f0 : List Nat), (qs.foldl (fun f p => if p.2 = t then f ++ (p.1 :: undR n (cl ps) p.1) else f) f0).length ≤ f0.length + 10 * qs.length := by
      intro qs
      induction qs with
      | nil => intro f0; simp
      | cons p qs ih =>
        intro f0
        have hul := undR_len n (cl ps) p.1
        rw [List.foldl_cons]
        refine Nat.le_trans (ih _) ?_
        by_cases hpt : p.2 = t
        · rw [if_pos hpt]; simp; omega
        · rw [if_neg hpt]; simp; omega
    have hset : gSSet (.lst (asD (ps.foldl (fun f p => if p.2 = t then f ++ (p.1 :: undR n (cl ps) p.1) else f) []))) = some (.lst (asD (undR n (cl ps) t))) := by
      have hx : ∀ x, x ∈ ps.foldl (fun f p => if p.2 = t then f ++ (p.1 :: undR n (cl ps) p.1) else f) [] ↔ x ∈ undR n (cl ps) t := fun x => by
        rw [hmem]
        unfold undR
        rw [List.mem_filter, List.mem_range, cl_iff, Clo.iff_last]
        constructor
        · rintro (h | ⟨p, hm, h1, h2⟩)
          · cases h
          · have hh := hp p hm
            rcases h2 with h2 | h2
            · subst h2; subst h1; exact ⟨by omega, p.1, hm, .inl rfl⟩
            · rw [List.mem_filter, List.mem_range, cl_iff] at h2
              subst h1
              exact ⟨h2.1, p.1, hm, .inr h2.2⟩
        · rintro ⟨h1, l, hm, h2⟩
          refine .inr ⟨(l, t), hm, rfl, ?_⟩
          rcases h2 with h2 | h2
          · exact .inl h2
          · exact .inr (List.mem_filter.mpr ⟨List.mem_range.mpr h1, cl_iff.mpr h2⟩)
      refine sset_nat (filt_pw _ n) hx (Nat.le_trans (hlenF ps []) (by simp; omega)) fun x hx' => ?_
      have := List.mem_range.mp (List.mem_filter.mp ((hx x).mp hx')).1
      omega
    have hl2 : ((List.range t).map fun j => D.lst (asD (undR n (cl ps) j))).length < 1000000 := by simp; omega
    simp_arith [hset, hl2, List.range_succ, List.map_append]
    rfl
  · walk_at "ev"
theorem law_bits_eq (l : List Nat) (h9 : ∀ t ∈ l, t < 9) : den__law_bits [.lst (asD l)] = some (nD (l.map (2 ^ ·)).sum) := by
  refine fnD_rt (by show (D.lfs (asD l) && true) = true; rw [lfs_asD]; rfl) ?_
  unfold b__law_bits
  walk_at "st"
  have key := (loop_fold (tg := tgN 2) (b := (sSeq (sSet 3 (eK (.int 1))) (sSeq (sFor (iRg1 (eV 2)) (tgN 4) (sSet 3 (e2 gMul (eV 3) (eK (.int 2)))) [4]) (sSet 1 (e2 gAdd (eV 1) (eV 3)))))) (cl := [2, 3, 4]) (enc := fun (b : Nat) => [.lst (asD l), nD b, .non, .non, .non]) (f := nD) (step := fun b t => b + 2 ^ t) (Pv := fun _ => True) l 0 trivial fun b t ht _ => ⟨trivial, [.lst (asD l), nD b, nD t, .non, .non], [.lst (asD l), nD (b + 2 ^ t), nD t, nD (2 ^ t), .non], rfl, .inl (by
    have hs : small 62 (t : Int) := small_n (by have := h9 t ht; omega)
    walk_at "st"
    refine st_nx (ρ' := [.lst (asD l), nD b, nD t, nD (2 ^ t), .non]) ((for_eq (items := (List.range t).map nD) ?_).trans ?_) ?_
    · simp_arith [hs, rangeD_nat]
    · refine loop_inv (fun i => [.lst (asD l), nD b, nD t, nD (2 ^ i), .non]) t (by simp) rfl fun i hi d hd => ?_
      rw [range_item hi hd]
      refine ⟨_, [.lst (asD l), nD b, nD t, nD (2 ^ (i + 1)), nD i], rfl, .inl ?_, rfl⟩
      have : ((2 ^ i : Nat) : Int) * 2 = ((2 ^ (i + 1) : Nat) : Int) := by rw [Nat.pow_succ]; omega
      simp_arith [this]
    · simp_arith [nD, Int.natCast_add]), rfl⟩).1
  refine st_nx ((for_eq (items := asD l) ?_).trans key) ?_
  · walk_at "ev"
  · have : ∀ (l : List Nat) (b : Nat), l.foldl (fun b t => b + 2 ^ t) b = b + (l.map (2 ^ ·)).sum := by
      intro l
      induction l with
      | nil => intro b; simp
      | cons a l ih => intro b; rw [List.foldl_cons, ih, List.map_cons, List.sum_cons]; omega
    rw [this l 0, Nat.zero_add]
    walk_at "ev"
theorem bits_filter {n : Nat} (h9 : n ≤ 9) (p : Nat → Bool) : den__law_bits [.lst (asD ((List.range n).filter p))] = some (nD (sumB p n)) :=
  law_bits_eq _ fun t ht => by have := List.mem_range.mp (List.mem_filter.mp ht).1; omega
section
variable {n : Nat} {lt : Nat → Nat → Bool} (P : PO n lt)
end

section
variable {n : Nat} {lt : Nat → Nat → Bool} (P : PO n lt)
end

section
variable {n : Nat} {lt : Nat → Nat → Bool} (P : PO n lt)
theorem gNotInD_nat (t : Nat) (l : List Nat) : gNotInD (.int t) (.lst (asD l)) = some (.bl (!decide (t ∈ l))) := by
  have h := gInD_nat t l
  unfold gInD at h
  unfold gNotInD
  dsimp only at h ⊢
  split at h
  · rename_i hc
    rw [if_pos hc]
    cases h2 : (asD l).any fun z => PyData.eqv (conv 6 z) (conv 6 (D.int (t : Int))) with
    | true => rw [h2] at h; cases h' : decide (t ∈ l) <;> simp_all
    | false => rw [h2] at h; cases h' : decide (t ∈ l) <;> simp_all
  · cases h
theorem mem_und {i j : Nat} (P : PO n lt) : i ∈ undR n lt j ↔ lt i j = true := by
  unfold undR
  rw [List.mem_filter, List.mem_range]
  exact ⟨fun h => h.2, fun h => ⟨by have := P.up h; omega, h⟩⟩
end

theorem while_ex {t : List D → Option Bool} {body : SF} {cl : List Nat} (I : Nat → List D → Prop) (Q : List D → Prop)
    (h : ∀ k ρ, I k ρ → (t ρ = some false ∧ Q ρ) ∨ (t ρ = some true ∧ ∃ ρ2, body ρ = some (.nx ρ2) ∧ ∃ k', k' < k ∧ I k' (clrs cl ρ2))) :
    ∀ (fuel m : Nat) (ρ : List D), m < fuel → I m ρ → ∃ ρ', whileD t body cl fuel ρ = some (.nx ρ') ∧ Q ρ'
  | 0, m, ρ, hm, _ => absurd hm (Nat.not_lt_zero _)
  | fuel + 1, m, ρ, hm, hI => by
    rcases h m ρ hI with ⟨h1, h2⟩ | ⟨h1, ρ2, h2, k', h3, h4⟩
    · refine ⟨ρ, ?_, h2⟩
      unfold whileD
      rw [h1]; rfl
    · obtain ⟨ρ', h5, h6⟩ := while_ex I Q h fuel k' (clrs cl ρ2) (by omega) h4
      refine ⟨ρ', ?_, h6⟩
      unfold whileD
      rw [h1, Option.bind_some, if_pos rfl, h2, Option.bind_some]
      exact h5
theorem while_eq {t : List D → Option Bool} {body : SF} {cl : List Nat} {n : Nat} {ρ : List D} {R : Option Out} (h : whileD t body cl n (clrs cl ρ) = R) : sWhile t body cl n ρ = R := h

section
variable {n : Nat} {lt : Nat → Nat → Bool} (P : PO n lt)
theorem needs_thing_eq (i : Nat) (hi : i < n) : den_Order_needs_thing [ordD n lt, nD i] = some .non := by
  unfold den_Order_needs_thing fnD
  rw [if_pos rfl]
  have q1 : ¬ (i : Int) < 0 := by omega
  have q2 : ¬ (n : Int) ≤ i := by omega
  have : b_Order_needs_thing [ordD n lt, nD i] = some (.nx [ordD n lt, nD i]) := by
    unfold b_Order_needs_thing ordD
    simp_arith [q1, q2]
  show (b_Order_needs_thing [ordD n lt, nD i]).bind _ = _
  rw [this]; rfl
include P in
theorem below_eq (i j : Nat) (hi : i < n) (hj : j < n) : den_Order_below [ordD n lt, nD i, nD j] = some (.bl (lt i j)) := by
  have h9 := P.le
  refine fnD_rt rfl ?_
  unfold b_Order_below
  have g1 := needs_thing_eq (lt := lt) i hi
  have g2 := needs_thing_eq (lt := lt) j hj
  have g3 := lows_at (lt := lt) j hj
  have g4 := bits_at i (by omega)
  have g5 := and_pow (lows n lt j) i
  rw [lows_test P] at g5
  have g6 : decide ((0 : Int) < ((lows n lt j &&& 2 ^ i : Nat) : Int)) = lt i j := by rw [← g5, decide_eq_decide]; omega
  unfold ordD at g1 g2 ⊢
  refine st_nx (ρ' := [.ins 0 [nD n, .lst (asD ((List.range n).map (lows n lt)))], nD i, nD j]) (by simp_arith [g1]) ?_
  refine st_nx (ρ' := [.ins 0 [nD n, .lst (asD ((List.range n).map (lows n lt)))], nD i, nD j]) (by simp_arith [g2]) ?_
  simp_arith [g3, g4, bitAnd_nat, g6]
end

section
variable {n : Nat} {lt : Nat → Nat → Bool} (P : PO n lt)
def dbit (n : Nat) (lt : Nat → Nat → Bool) (b i : Nat) : Bool := !b.testBit i && hasL n lt b i
end

section
variable {n : Nat} {lt : Nat → Nat → Bool} (P : PO n lt)
theorem b2 (p : Nat → Bool) {i n : Nat} (hi : i < n) : (sumB p n).testBit i = p i := by rw [sumB_test, decide_eq_true hi, Bool.true_and]
end

section
variable {n : Nat} {lt : Nat → Nat → Bool} (P : PO n lt)
end

theorem cut_to (l : List D) {k : Nat} (h : k ≤ l.length) : DL.cutD l none (some (k : Int)) = l.take k := by
  unfold DL.cutD
  rw [HT.sIx_none, HT.sIx_nat, Nat.min_eq_left h]; simp
theorem cut_from (l : List D) {k : Nat} (h : k ≤ l.length) : DL.cutD l (some (k : Int)) none = l.drop k := by
  unfold DL.cutD
  rw [HT.sIx_none, HT.sIx_nat, Nat.min_eq_left h]
  rw [List.take_of_length_le (by simp)]
theorem asD_take (l : List Nat) (k : Nat) : (asD l).take k = asD (l.take k) := by unfold asD; rw [List.map_take]
theorem asD_drop (l : List Nat) (k : Nat) : (asD l).drop k = asD (l.drop k) := by unfold asD; rw [List.map_drop]
def IsL (n : Nat) (lt : Nat → Nat → Bool) (L : List Nat) : Prop := L.Nodup ∧ (∀ x, x ∈ L ↔ x < n) ∧ L.Pairwise fun a b => lt b a = false
section
variable {n : Nat} {lt : Nat → Nat → Bool} (P : PO n lt)
theorem IsL.perm {L : List Nat} (h : IsL n lt L) : (List.range n).Perm L := (List.perm_ext_iff_of_nodup List.nodup_range h.1).mpr fun x => by rw [h.2.1, List.mem_range]
theorem IsL.len {L : List Nat} (h : IsL n lt L) : L.length = n := by have := h.perm.length_eq; simpa using this.symm
theorem IsL.swap {A B : List Nat} {x y : Nat} (h : IsL n lt (A ++ x :: y :: B)) (hxy : lt x y = false) : IsL n lt (A ++ y :: x :: B) := by
  have hp : (A ++ x :: y :: B).Perm (A ++ y :: x :: B) := (List.Perm.swap y x B).append_left A
  refine ⟨hp.nodup_iff.mp h.1, fun z => by rw [← h.2.1 z]; exact hp.symm.mem_iff, ?_⟩
  obtain ⟨_, _, h3⟩ := h
  rw [List.pairwise_append, List.pairwise_cons, List.pairwise_cons] at h3 ⊢
  obtain ⟨p1, ⟨p2, p3, p4⟩, p5⟩ := h3
  refine ⟨p1, ⟨fun z hz => ?_, fun z hz => p2 z (List.mem_cons_of_mem _ hz), p4⟩, fun a ha b hb => p5 a ha b ?_⟩
  · rcases List.mem_cons.mp hz with rfl | hz
    · exact hxy
    · exact p3 z hz
  · simp only [List.mem_cons] at hb ⊢
    rcases hb with hb | hb | hb
    · exact .inr (.inl hb)
    · exact .inl hb
    · exact .inr (.inr hb)
theorem line_sort {L : List Nat} (h : IsL n lt L) (h9 : n ≤ 9) : gSortT (.tup (asD L)) = some (.lst (asD (List.range n))) := by
  unfold gSortT
  dsimp only
  rw [intsOf_asD]
  have e : sortI (L.map fun (n : Nat) => (n : Int)) = (List.range n).map fun (n : Nat) => (n : Int) := by
    refine (sortI_uniq (h.perm.map _) ?_).symm
    exact List.pairwise_map.mpr (List.pairwise_lt_range.imp fun {a b} h => by omega)
  show (if _ then _ else _) = _
  rw [List.length_map, h.len, if_pos (by omega), e]
  unfold asD
  rw [List.map_map]; rfl
include P in
theorem is_line_eq {L : List Nat} (h : IsL n lt L) : den_is_line [ordD n lt, .tup (asD L)] = some (.bl true) := by
  have h9 := P.le
  have hl := h.len
  have hsm : small 62 (n : Int) := small_n (by omega)
  have q0 : (n : Int) ≤ 1000000 := by omega
  have q1 : gLrg1 (nD n) = some (.lst (asD (List.range n))) := by
    show (if small 62 (n : Int) ∧ (n : Int) ≤ 1000000 then some (D.lst (rangeD 0 (n : Int))) else none) = _
    rw [if_pos ⟨hsm, q0⟩, rangeD_nat]; rfl
  have q2 := line_sort h h9
  have q3 := gNeD_refl (dok_asD (List.range n))
  have q4 := size_eq (n := n) (lt := lt)
  refine fnD_rt (by show (true && (D.lfs (asD L) && true)) = true; rw [lfs_asD]; rfl) ?_
  unfold b_is_line
  show sSeq _ _ [ordD n lt, .tup (asD L), .non, .non, .non] = _
  refine st_nx (ρ' := [ordD n lt, .tup (asD L), .non, .non, .non]) ?_ ?_
  · unfold ordD at q4 ⊢
    simp_arith [q1, q2, q3, q4]
  have hit : iEnT (eV 1) [ordD n lt, .tup (asD L), .non, .non, .non] = some (enumD (asD L)) := rfl
  refine st_nx (ρ' := [ordD n lt, .tup (asD L), .non, .non, .non]) ((for_eq hit).trans ?_) ?_
  · refine loop_inv (fun _ => [ordD n lt, .tup (asD L), .non, .non, .non]) n (by simp [enumD, asD, hl]) rfl fun i hi x hx => ?_
    have hiL : i < L.length := by omega
    have hx' : x = .tup [.int (i : Nat), nD L[i]] := by
      unfold enumD asD at hx
      rw [List.getElem?_mapIdx, List.getElem?_map, List.getElem?_eq_getElem hiL] at hx
      cases hx; rfl
    subst hx'
    have hLe : L = L.take i ++ L[i] :: L.drop (i + 1) := by rw [← List.drop_eq_getElem_cons hiL, List.take_append_drop]
    have hy : L[i] < n := (h.2.1 _).mp (List.getElem_mem hiL)
    have hno : ∀ e ∈ L.take i, lt L[i] e = false ∧ e < n := fun e he => by
      refine ⟨?_, (h.2.1 _).mp (List.mem_of_mem_take he)⟩
      have h3 := h.2.2
      rw [hLe, List.pairwise_append] at h3
      have := h3.2.2 e he L[i] List.mem_cons_self
      exact this
    generalize L[i] = y at hno hy
    refine ⟨[ordD n lt, .tup (asD L), nD i, nD y, .non], [ordD n lt, .tup (asD L), nD i, nD y, .non], rfl, .inl ?_, rfl⟩
    refine (for_eq (items := asD (L.take i)) ?_).trans ?_
    · have c := cut_to (asD L) (k := i) (by rw [asD_len]; omega)
      rw [asD_take] at c
      simp_arith [c]
    · refine loop_same nD _ fun e he => ⟨[ordD n lt, .tup (asD L), nD i, nD y, nD e], [ordD n lt, .tup (asD L), nD i, nD y, nD e], rfl, .inl ?_, rfl⟩
      obtain ⟨g0, g1⟩ := hno e he
      have g := below_eq P y e hy g1
      rw [g0] at g
      unfold ordD at g ⊢
      simp_arith [g]
  · walk_at "ev"
include P in
theorem needs_line_eq {L : List Nat} (h : IsL n lt L) : den_needs_line [ordD n lt, .tup (asD L)] = some .non := by
  have h1 := is_line_eq P h
  unfold den_needs_line fnD
  rw [if_pos (by show (true && (D.lfs (asD L) && true)) = true; rw [lfs_asD]; rfl)]
  have h2 : b_needs_line [ordD n lt, .tup (asD L)] = some (.nx [ordD n lt, .tup (asD L)]) := by
    unfold b_needs_line
    simp_arith [h1]
  show (b_needs_line [ordD n lt, .tup (asD L)]).bind _ = _
  rw [h2]; rfl
end

theorem bAnd_eq {f g : List D → Option Bool} {ρ : List D} {a b : Bool} (h1 : f ρ = some a) (h2 : g ρ = some b) : bAnd f g ρ = some (a && b) := by
  unfold bAnd
  rw [h1]
  cases a
  · rfl
  · exact h2
theorem full_len {l : List Nat} {n : Nat} (hn : l.Nodup) (h : ∀ t, t < n → t ∈ l) : n ≤ l.length := by
  have hp : (List.range n).Perm (l.filter fun t => decide (t < n)) := (List.perm_ext_iff_of_nodup List.nodup_range (List.Pairwise.filter _ hn)).mpr fun x => by
    rw [List.mem_range, List.mem_filter, decide_eq_true_eq]
    exact ⟨fun q => ⟨h x q, q⟩, fun q => q.2⟩
  have h1 := hp.length_eq
  rw [List.length_range] at h1
  have h2 := List.length_filter_le (fun t => decide (t < n)) l
  omega
theorem least (l : List Nat) : ∀ m : Nat, (∀ t, t < m → t ∈ l) ∨ ∃ t, t < m ∧ t ∉ l ∧ ∀ y, y < t → y ∈ l
  | 0 => .inl fun t h => absurd h (Nat.not_lt_zero t)
  | m + 1 => by
    rcases least l m with h | ⟨t, h1, h2, h3⟩
    · by_cases hm : m ∈ l
      · exact .inl fun t ht => by
          by_cases e : t = m
          · subst e; exact hm
          · exact h t (by omega)
      · exact .inr ⟨m, by omega, hm, h⟩
    · exact .inr ⟨t, by omega, h2, h3⟩
theorem atI_modN {l : List Nat} (h : 0 < l.length) (c : Int) : ∃ x, x ∈ l ∧ atI (asD l) (c % (l.length : Int)) = some (nD x) := by
  have h1 := Int.emod_nonneg c (show (l.length : Int) ≠ 0 by omega)
  have h2 := Int.emod_lt_of_pos c (show (0 : Int) < l.length by omega)
  obtain ⟨x, hx⟩ := atI_ex (xs := l) h1 h2
  refine ⟨x, ?_, atI_map hx⟩
  unfold atI at hx
  cases hq : ixN l.length (c % (l.length : Int)) with
  | none => rw [hq] at hx; cases hx
  | some k => rw [hq] at hx; exact List.mem_of_getElem? hx
def Pre (n : Nat) (lt : Nat → Nat → Bool) (l : List Nat) : Prop := l.Nodup ∧ (∀ x ∈ l, x < n) ∧ (∀ x ∈ l, ∀ y, lt y x = true → y ∈ l) ∧ l.Pairwise fun a b => lt b a = false
def frp (n : Nat) (lt : Nat → Nat → Bool) (l : List Nat) (t : Nat) : Bool := !decide (t ∈ l) && (undR n lt t).all fun y => decide (y ∈ l)
section
variable {n : Nat} {lt : Nat → Nat → Bool} (P : PO n lt)
include P in
theorem frp_iff {l : List Nat} {t : Nat} : frp n lt l t = true ↔ t ∉ l ∧ ∀ y, lt y t = true → y ∈ l := by
  unfold frp
  rw [Bool.and_eq_true, Bool.not_eq_true', decide_eq_false_iff_not, List.all_eq_true]
  refine and_congr_right fun _ => ⟨fun h y hy => of_decide_eq_true (h y ((mem_und P).mpr hy)), fun h y hy => decide_eq_true (h y ((mem_und P).mp hy))⟩
include P in
theorem Pre.next {l : List Nat} {t : Nat} (h : Pre n lt l) (ht : t < n) (hf : frp n lt l t = true) : Pre n lt (l ++ [t]) := by
  obtain ⟨h1, h2, h3, h4⟩ := h
  obtain ⟨f1, f2⟩ := (frp_iff P).mp hf
  refine ⟨?_, fun x hx => ?_, fun x hx y hy => ?_, ?_⟩
  · rw [List.nodup_append]
    refine ⟨h1, by simp, fun a ha b hb => ?_⟩
    rw [List.mem_singleton] at hb
    intro e
    subst e; subst hb
    exact f1 ha
  · rcases List.mem_append.mp hx with q | q
    · exact h2 x q
    · rw [List.mem_singleton] at q; omega
  · refine List.mem_append.mpr (.inl ?_)
    rcases List.mem_append.mp hx with q | q
    · exact h3 x q y hy
    · rw [List.mem_singleton] at q; subst q; exact f2 y hy
  · rw [List.pairwise_append]
    refine ⟨h4, List.pairwise_singleton _ _, fun a ha b hb => ?_⟩
    rw [List.mem_singleton] at hb
    subst hb
    cases hq : lt b a with
    | false => rfl
    | true => exact absurd (h3 a ha b hq) f1
include P in
theorem Pre.some_free {l : List Nat} (h : Pre n lt l) (hl : l.length < n) : 0 < ((List.range n).filter (frp n lt l)).length := by
  rcases least l n with q | ⟨t, t1, t2, t3⟩
  · have := full_len h.1 q
    omega
  · refine List.length_pos_of_mem (a := t) (List.mem_filter.mpr ⟨List.mem_range.mpr t1, (frp_iff P).mpr ⟨t2, fun y hy => t3 y (P.up hy).1⟩⟩)
theorem Pre.line {l : List Nat} (h : Pre n lt l) (hl : l.length = n) : IsL n lt l := by
  refine ⟨h.1, fun x => ⟨h.2.1 x, fun hx => ?_⟩, h.2.2.2⟩
  have hp : l.Perm ((List.range n).filter fun t => decide (t ∈ l)) := (List.perm_ext_iff_of_nodup h.1 (List.Pairwise.filter _ List.nodup_range)).mpr fun x => by
    rw [List.mem_filter, List.mem_range, decide_eq_true_eq]
    exact ⟨fun q => ⟨h.2.1 x q, q⟩, fun q => q.2⟩
  have h1 := hp.length_eq
  rw [hl] at h1
  have h2 : (List.range n).filter (fun t => decide (t ∈ l)) = List.range n := List.filter_eq_self.mpr (List.length_filter_eq_length_iff.mp (by rw [← h1, List.length_range]))
  have h3 : x ∈ (List.range n).filter fun t => decide (t ∈ l) := by rw [h2]; exact List.mem_range.mpr hx
  exact of_decide_eq_true (List.mem_filter.mp h3).2
include P in
theorem law_line_ex (ns : List Int) (k : Nat) : ∃ L, IsL n lt L ∧ den__law_line [.lst (undD n lt), .scr (ns.map .int), nD k] = some (.tup (asD L)) := by
  have h9 := P.le
  obtain ⟨r0, hr0⟩ := raw_ex ns 0
  have hr0 : den__law_raw [.scr (ns.map .int), .int 0] = some (.int r0) := hr0
  obtain ⟨rk, hrk⟩ := raw_ex ns k
  obtain ⟨c3, hc3⟩ := cell_ex ns 3
  have hc3 : den__law_cell_at [.scr (ns.map .int), .int 3] = some (.int c3) := hc3
  have hcell : ∀ m : Nat, ∃ c, den__law_cell_at [.scr (ns.map .int), .int ((k : Int) + (m : Int))] = some (.int c) := fun m => by
    obtain ⟨c, hc⟩ := cell_ex ns (k + m)
    refine ⟨c, ?_⟩
    rw [show (k : Int) + (m : Int) = ((k + m : Nat) : Int) by omega]
    exact hc
  generalize D.scr (ns.map .int) = S at hr0 hrk hc3 hcell
  have hsm : small 62 (n : Int) := small_n (by omega)
  have hul := undD_len n lt
  have hw := while_ex (t := t2b (e2 gLt (e1 gLen (eV 3)) (e1 gLen (eV 0)))) (cl := [5, 6, 7]) (body := (sSeq (sSet 5 (eLst aNil))
 (sSeq (sFor (iRg1 (e1 gLen (eV 0))) (tgN 6) (sIf (bAnd (t2b (e2 gNotInD (eV 6) (eV 3))) (t2b (e1 gAll (eComp (iSeq (e2 gIx (eV 0) (eV 6))) (tgN 7) tTrue (e2 gInD (eV 7) (eV 3)))))) (sApp 5 (eV 6)) sNil) [6, 7])
 (sSeq (sIf (t2b (e2 gEqS (e2 gMod (eCall den__law_raw (aCons (eV 1) (aCons (eK (.int 0)) aNil))) (eK (.int 2))) (eK (.int 1)))) (sSet 4 (e2 gAdd (eCall den__law_cell_at (aCons (eV 1) (aCons (e2 gAdd (eV 2) (e1 gLen (eV 3))) aNil))) (e2 gMul (e2 gDiv (eCall den__law_cell_at (aCons (eV 1) (aCons (eK (.int 3)) aNil))) (eK (.int 11))) (e2 gAdd (e1 gLen (eV 3)) (eK (.int 1)))))) sNil)
 (sSeq (sApp 3 (e2 gIx (eV 5) (e2 gMod (eV 4) (e1 gLen (eV 5)))))
 (sSet 4 (e2 gDiv (eV 4) (e1 gLen (eV 5)))))))))
    (fun j ρ => ∃ l c, Pre n lt l ∧ l.length + j = n ∧ ρ = [.lst (undD n lt), S, nD k, .lst (asD l), .int c, .non, .non, .non])
    (fun ρ => ∃ l c, Pre n lt l ∧ l.length = n ∧ ρ = [.lst (undD n lt), S, nD k, .lst (asD l), .int c, .non, .non, .non])
    (fun j ρ ⟨l, c, hp, hj, hρ⟩ => by
      subst hρ
      by_cases hn : l.length = n
      · refine .inl ⟨?_, l, c, hp, hn, rfl⟩
        have q : ¬ (l.length : Int) < n := by omega
        simp_arith [asD_len, hul, q]
      · refine .inr ⟨?_, ?_⟩
        · have q : (l.length : Int) < n := by omega
          simp_arith [asD_len, hul, q]
        · have hlt : l.length < n := by omega
          have hpos := hp.some_free P hlt
          have hfl := flen (frp n lt l) n
          obtain ⟨cc, hcc⟩ := hcell l.length
          have hmid : ∀ c : Int, ∃ x c', x < n ∧ frp n lt l x = true ∧ (sSeq (sApp 3 (e2 gIx (eV 5) (e2 gMod (eV 4) (e1 gLen (eV 5))))) (sSet 4 (e2 gDiv (eV 4) (e1 gLen (eV 5))))) [.lst (undD n lt), S, nD k, .lst (asD l), .int c, .lst (asD ((List.range n).filter (frp n lt l))), .non, .non] = some (.nx [.lst (undD n lt), S, nD k, .lst (asD (l ++ [x])), .int c', .lst (asD ((List.range n).filter (frp n lt l))), .non, .non]) := fun c => by
            obtain ⟨x, hx, hat⟩ := atI_modN hpos c
            have hx2 := List.mem_filter.mp hx
            have q1 : (0 : Int) < (((List.range n).filter (frp n lt l)).length : Int) := by omega
            have q2 : l.length < 1000000 := by omega
            have q3 : small 9000 (((List.range n).filter (frp n lt l)).length : Int) := small_n (by omega)
            refine ⟨x, c / (((List.range n).filter (frp n lt l)).length : Int), List.mem_range.mp hx2.1, hx2.2, ?_⟩
            generalize (List.range n).filter (frp n lt l) = fr at *
            refine st_nx (ρ' := [.lst (undD n lt), S, nD k, .lst (asD (l ++ [x])), .int c, .lst (asD fr), .non, .non]) ?_ ?_
            · rw [asD_app, asD_one]
              simp_arith [asD_len, q1, q2, q3, hat]
            · simp_arith [asD_len, q1, q3]
          have hbody : ∃ c1 : Int, (sIf (t2b (e2 gEqS (e2 gMod (eCall den__law_raw (aCons (eV 1) (aCons (eK (.int 0)) aNil))) (eK (.int 2))) (eK (.int 1)))) (sSet 4 (e2 gAdd (eCall den__law_cell_at (aCons (eV 1) (aCons (e2 gAdd (eV 2) (e1 gLen (eV 3))) aNil))) (e2 gMul (e2 gDiv (eCall den__law_cell_at (aCons (eV 1) (aCons (eK (.int 3)) aNil))) (eK (.int 11))) (e2 gAdd (e1 gLen (eV 3)) (eK (.int 1)))))) sNil) [.lst (undD n lt), S, nD k, .lst (asD l), .int c, .lst (asD ((List.range n).filter (frp n lt l))), .non, .non] = some (.nx [.lst (undD n lt), S, nD k, .lst (asD l), .int c1, .lst (asD ((List.range n).filter (frp n lt l))), .non, .non]) := by
            have hmo : mulOk (c3 / 11) ((l.length : Int) + 1) := mulOk_r (by omega) (by omega)
            by_cases hodd : r0 % 2 = 1
            · exact ⟨cc + c3 / 11 * ((l.length : Int) + 1), by simp_arith [hr0, hodd, asD_len, hcc, hc3, hmo]⟩
            · exact ⟨c, by simp_arith [hr0, hodd]⟩
          obtain ⟨c1, hb1⟩ := hbody
          obtain ⟨x, c', hxn, hxf, hb2⟩ := hmid c1
          refine ⟨[.lst (undD n lt), S, nD k, .lst (asD (l ++ [x])), .int c', .lst (asD ((List.range n).filter (frp n lt l))), .non, .non], ?_, n - (l.length + 1), by omega, l ++ [x], c', hp.next P hxn hxf, by rw [List.length_append]; show l.length + 1 + _ = n; omega, rfl⟩
          refine st_nx (ρ' := [.lst (undD n lt), S, nD k, .lst (asD l), .int c, .lst [], .non, .non]) (by walk_at "ev") ?_
          refine st_nx (ρ' := [.lst (undD n lt), S, nD k, .lst (asD l), .int c, .lst (asD ((List.range n).filter (frp n lt l))), .non, .non]) ((for_eq (items := (List.range n).map nD) ?_).trans ?_) (st_nx hb1 hb2)
          · simp_arith [hul, hsm, rangeD_nat]
          · refine loop_inv (fun t => [.lst (undD n lt), S, nD k, .lst (asD l), .int c, .lst (asD ((List.range t).filter (frp n lt l))), .non, .non]) n (by simp) rfl fun t ht d hd => ?_
            rw [range_item ht hd]
            refine ⟨[.lst (undD n lt), S, nD k, .lst (asD l), .int c, .lst (asD ((List.range t).filter (frp n lt l))), nD t, .non], [.lst (undD n lt), S, nD k, .lst (asD l), .int c, .lst (asD ((List.range (t + 1)).filter (frp n lt l))), nD t, .non], rfl, .inl ?_, rfl⟩
            have g1 := und_at (lt := lt) t ht
            have g2 := gNotInD_nat t l
            have hul2 := undR_len n lt t
            have hc : eComp (iSeq (e2 gIx (eV 0) (eV 6))) (tgN 7) tTrue (e2 gInD (eV 7) (eV 3)) [.lst (undD n lt), S, nD k, .lst (asD l), .int c, .lst (asD ((List.range t).filter (frp n lt l))), nD t, .non] = some (.lst ((undR n lt t).map fun y => .bl (decide (y ∈ l)))) := by
              refine comp_eq (items := asD (undR n lt t)) ?_ ?_ (by rw [List.length_map]; omega)
              · simp_arith [g1]
              · refine comp_map nD (fun y => D.bl (decide (y ∈ l))) _ fun i hi => ⟨[.lst (undD n lt), S, nD k, .lst (asD l), .int c, .lst (asD ((List.range t).filter (frp n lt l))), nD t, nD i], rfl, rfl, ?_⟩
                have := gInD_nat i l
                simp_arith [this]
            have hg := gAll_map (fun y => decide (y ∈ l)) (undR n lt t)
            have hl : ((List.range t).filter (frp n lt l)).length < 1000000 := by have := flen (frp n lt l) t; omega
            have w1 : t2b (e2 gNotInD (eV 6) (eV 3)) [.lst (undD n lt), S, nD k, .lst (asD l), .int c, .lst (asD ((List.range t).filter (frp n lt l))), nD t, .non] = some (!decide (t ∈ l)) := by simp_arith [g2]
            have w2 : t2b (e1 gAll (eComp (iSeq (e2 gIx (eV 0) (eV 6))) (tgN 7) tTrue (e2 gInD (eV 7) (eV 3)))) [.lst (undD n lt), S, nD k, .lst (asD l), .int c, .lst (asD ((List.range t).filter (frp n lt l))), nD t, .non] = some ((undR n lt t).all fun y => decide (y ∈ l)) := by
              show (((eComp _ _ _ _ _).bind gAll).bind _) = _
              rw [hc, Option.bind_some, hg]; rfl
            have w : bAnd (t2b (e2 gNotInD (eV 6) (eV 3))) (t2b (e1 gAll (eComp (iSeq (e2 gIx (eV 0) (eV 6))) (tgN 7) tTrue (e2 gInD (eV 7) (eV 3))))) [.lst (undD n lt), S, nD k, .lst (asD l), .int c, .lst (asD ((List.range t).filter (frp n lt l))), nD t, .non] = some (frp n lt l t) := by
              exact bAnd_eq w1 w2
            rw [List.range_succ, List.filter_append, asD_app]
            cases hf : frp n lt l t with
            | true =>
              refine (if_t (by rw [w, hf])).trans ?_
              have e3 : asD ([t].filter (frp n lt l)) = [nD t] := by simp [hf, asD]
              rw [e3]
              simp_arith [asD_len, hl]
            | false =>
              refine (if_f (by rw [w, hf])).trans ?_
              have e3 : asD ([t].filter (frp n lt l)) = [] := by simp [hf, asD]
              rw [e3, List.append_nil]
              walk_at "ev")
  obtain ⟨ρ', e', l, c, hp, hn, hρ⟩ := hw 10000 n [.lst (undD n lt), S, nD k, .lst (asD []), .int rk, .non, .non, .non] (by omega) ⟨[], rk, ⟨List.nodup_nil, by simp, by simp, List.Pairwise.nil⟩, by simp, rfl⟩
  subst hρ
  refine ⟨l, hp.line hn, fnD_rt rfl ?_⟩
  unfold b__law_line
  refine st_nx (ρ' := [.lst (undD n lt), S, nD k, .lst (asD []), .non, .non, .non, .non]) rfl ?_
  refine st_nx (ρ' := [.lst (undD n lt), S, nD k, .lst (asD []), .int rk, .non, .non, .non]) (by simp_arith [hrk]) ?_
  refine st_nx (while_eq e') ?_
  walk_at "ev"
end

section
variable {n : Nat} {lt : Nat → Nat → Bool} (P : PO n lt)
end

section
variable {n : Nat} {lt : Nat → Nat → Bool} (P : PO n lt)
end

section
variable {n : Nat} {lt : Nat → Nat → Bool} (P : PO n lt)
end
section
variable {n : Nat} {lt : Nat → Nat → Bool} (P : PO n lt)
end

section
variable {n : Nat} {lt : Nat → Nat → Bool} (P : PO n lt)
include P in
theorem IsL.head {L : List Nat} (h : IsL n lt L) : ∃ x r, L = x :: r ∧ r.length + 1 = n := by
  have h1 := h.len
  have h2 := P.pos
  cases L with
  | nil => simp at h1; omega
  | cons x r => exact ⟨x, r, rfl, h1⟩
end

def rb (l : List Nat) : Nat := (l.map (2 ^ ·)).sum
theorem rb_eq {l : List Nat} {n : Nat} (hn : l.Nodup) (hl : ∀ t ∈ l, t < n) : rb l = sumB (fun t => decide (t ∈ l)) n := by
  have hp : l.Perm ((List.range n).filter fun t => decide (t ∈ l)) := (List.perm_ext_iff_of_nodup hn (List.Pairwise.filter _ List.nodup_range)).mpr fun x => by
    rw [List.mem_filter, List.mem_range, decide_eq_true_eq]
    exact ⟨fun q => ⟨hl x q, q⟩, fun q => q.2⟩
  exact (hp.map (2 ^ ·)).sum_nat
theorem rb_test {l : List Nat} {n : Nat} (hn : l.Nodup) (hl : ∀ t ∈ l, t < n) (i : Nat) : (rb l).testBit i = decide (i ∈ l) := by
  rw [rb_eq hn hl, sumB_test]
  by_cases h : i ∈ l
  · rw [decide_eq_true h, decide_eq_true (hl i h)]; rfl
  · rw [decide_eq_false h, Bool.and_false]
theorem law_bits3_eq (l : List Nat) (h9 : ∀ t ∈ l, t < 9) : den__law_bits_v3 [.tup (asD l)] = some (nD (rb l)) := by
  refine fnD_rt (by show (D.lfs (asD l) && true) = true; rw [lfs_asD]; rfl) ?_
  unfold b__law_bits_v3
  walk_at "st"
  have key := (loop_fold (tg := tgN 2) (b := (sSeq (sSet 3 (eK (.int 1))) (sSeq (sFor (iRg1 (eV 2)) (tgN 4) (sSet 3 (e2 gMul (eV 3) (eK (.int 2)))) [4]) (sSet 1 (e2 gAdd (eV 1) (eV 3)))))) (cl := [2, 3, 4]) (enc := fun (b : Nat) => [.tup (asD l), nD b, .non, .non, .non]) (f := nD) (step := fun b t => b + 2 ^ t) (Pv := fun _ => True) l 0 trivial fun b t ht _ => ⟨trivial, [.tup (asD l), nD b, nD t, .non, .non], [.tup (asD l), nD (b + 2 ^ t), nD t, nD (2 ^ t), .non], rfl, .inl (by
    have hs : small 62 (t : Int) := small_n (by have := h9 t ht; omega)
    walk_at "st"
    refine st_nx (ρ' := [.tup (asD l), nD b, nD t, nD (2 ^ t), .non]) ((for_eq (items := (List.range t).map nD) ?_).trans ?_) ?_
    · simp_arith [hs, rangeD_nat]
    · refine loop_inv (fun i => [.tup (asD l), nD b, nD t, nD (2 ^ i), .non]) t (by simp) rfl fun i hi d hd => ?_
      rw [range_item hi hd]
      refine ⟨_, [.tup (asD l), nD b, nD t, nD (2 ^ (i + 1)), nD i], rfl, .inl ?_, rfl⟩
      have : ((2 ^ i : Nat) : Int) * 2 = ((2 ^ (i + 1) : Nat) : Int) := by rw [Nat.pow_succ]; omega
      simp_arith [this]
    · simp_arith [nD, Int.natCast_add]), rfl⟩).1
  refine st_nx ((for_eq (items := asD l) ?_).trans key) ?_
  · walk_at "ev"
  · have : ∀ (l : List Nat) (b : Nat), l.foldl (fun b t => b + 2 ^ t) b = b + (l.map (2 ^ ·)).sum := by
      intro l
      induction l with
      | nil => intro b; simp
      | cons a l ih => intro b; rw [List.foldl_cons, ih, List.map_cons, List.sum_cons]; omega
    rw [this l 0, Nat.zero_add]
    walk_at "ev"; rfl
section
variable {n : Nat} {lt : Nat → Nat → Bool} (P : PO n lt)
include P in
theorem take_closed {L : List Nat} (h : IsL n lt L) (m : Nat) {i j : Nat} (hj : j ∈ L.take m) (hij : lt i j = true) : i ∈ L.take m := by
  have hi : i ∈ L := (h.2.1 i).mpr (by have := P.up hij; omega)
  have h3 := h.2.2
  rw [← List.take_append_drop m L] at hi h3
  rcases List.mem_append.mp hi with q | q
  · exact q
  · rw [List.pairwise_append] at h3
    have := h3.2.2 j hj i q
    rw [hij] at this; cases this
theorem IsL.takeN {L : List Nat} (h : IsL n lt L) (m : Nat) : (L.take m).Nodup ∧ ∀ t ∈ L.take m, t < n :=
  ⟨(List.take_sublist m L).nodup h.1, fun t ht => (h.2.1 t).mp (List.mem_of_mem_take ht)⟩
theorem rb_lt {l : List Nat} {n : Nat} (hn : l.Nodup) (hl : ∀ t ∈ l, t < n) : rb l < 2 ^ n := by
  rw [rb_eq hn hl]; exact sumB_lt _ n
include P in
theorem row_down {L : List Nat} (h : IsL n lt L) (m : Nat) : isDown n lt (rb (L.take m)) = true := by
  obtain ⟨h1, h2⟩ := h.takeN m
  refine (isDown_iff P).mpr ⟨rb_lt h1 h2, fun i j hij hj => ?_⟩
  rw [rb_test h1 h2, decide_eq_true_eq] at hj ⊢
  exact take_closed P h m hj hij
end

section
variable {n : Nat} {lt : Nat → Nat → Bool} (P : PO n lt) {U : Nat → List Nat} (hU : ∀ j, j < n → ∀ x, x ∈ U j ↔ lt x j = true) (hUn : ∀ j, (U j).Nodup)
end
theorem ints_dok (l : List Int) : dok 6 (.lst (l.map D.int)) = true := by
  show (l.map D.int).all (dok 5) = true
  refine List.all_eq_true.mpr fun d hd => ?_
  obtain ⟨p, _, rfl⟩ := List.mem_map.mp hd
  rfl
theorem eqvAll_int (m : Nat) : ∀ A B : List Int, PyData.eqvAll ((A.map D.int).map (conv (m + 1))) ((B.map D.int).map (conv (m + 1))) = decide (A = B)
  | [], [] => rfl
  | [], b :: B => by simp [PyData.eqvAll]
  | a :: A, [] => by simp [PyData.eqvAll]
  | a :: A, b :: B => by
    have ih := eqvAll_int m A B
    have e : ((a :: A).map D.int).map (conv (m + 1)) = .int a :: (A.map D.int).map (conv (m + 1)) := rfl
    have e2 : ((b :: B).map D.int).map (conv (m + 1)) = .int b :: (B.map D.int).map (conv (m + 1)) := rfl
    rw [e, e2]
    unfold PyData.eqvAll
    rw [ih]
    have : PyData.eqv (.int a) (.int b) = decide (a = b) := by
      unfold PyData.eqv
      rw [Bool.eq_iff_iff, beq_iff_eq, decide_eq_true_eq]
    rw [this, Bool.eq_iff_iff]
    simp
theorem gNeD_ints (A B : List Int) : gNeD (.lst (A.map D.int)) (.lst (B.map D.int)) = some (.bl (!decide (A = B))) := by
  unfold gNeD
  rw [if_pos ⟨ints_dok A, ints_dok B⟩]
  have : PyData.eqv (conv 6 (.lst (A.map D.int))) (conv 6 (.lst (B.map D.int))) = decide (A = B) := eqvAll_int 4 A B
  rw [this]
theorem intsOf_int (l : List Int) : intsOf (l.map D.int) = some l := intsOf_map l
theorem sortT_ints (W : List Int) (h : W.length < 64) : gSortT (.tup (W.map D.int)) = some (.lst ((sortI W).map D.int)) := by
  show (intsOf (W.map D.int)).bind _ = _
  rw [intsOf_int, Option.bind_some, if_pos h]
theorem asD_ints (l : List Nat) : asD l = (l.map fun (n : Nat) => (n : Int)).map D.int := by
  unfold asD; rw [List.map_map]; rfl
theorem sorted_perm {W : List Int} {n : Nat} (h : sortI W = (List.range n).map fun (n : Nat) => (n : Int)) : ∃ L : List Nat, W.map D.int = asD L ∧ L.Nodup ∧ ∀ x, x ∈ L ↔ x < n := by
  have hp : W.Perm ((List.range n).map fun (n : Nat) => (n : Int)) := h ▸ (sortI_perm W).symm
  have hw : W = (W.map Int.toNat).map fun (n : Nat) => (n : Int) := by
    rw [List.map_map]
    refine (List.map_id W).symm.trans (List.map_congr_left fun x hx => ?_)
    obtain ⟨k, _, rfl⟩ := List.mem_map.mp (hp.mem_iff.mp hx)
    rfl
  have hp2 : (W.map Int.toNat).Perm (List.range n) := by
    have := hp.map Int.toNat
    rw [List.map_map] at this
    have e : (Int.toNat ∘ fun (n : Nat) => (n : Int)) = id := by funext x; rfl
    rwa [e, List.map_id] at this
  refine ⟨W.map Int.toNat, ?_, hp2.symm.nodup List.nodup_range, fun x => by rw [hp2.mem_iff, List.mem_range]⟩
  rw [asD_ints, ← hw]
theorem lfs_intsX : ∀ l : List Int, D.lfs (l.map D.int) = true
  | [] => rfl
  | a :: l => by
    have := lfs_intsX l
    show (D.lf (.int a) && D.lfs (l.map D.int)) = true
    rw [this]; rfl

section
variable {n : Nat} {lt : Nat → Nat → Bool} (P : PO n lt) {U : Nat → List Nat} (hU : ∀ j, j < n → ∀ x, x ∈ U j ↔ lt x j = true) (hUn : ∀ j, (U j).Nodup)
def badA (lt : Nat → Nat → Bool) (L : List Nat) : Bool := (List.range L.length).any fun i => (L.take i).any fun e => lt (L.getD i 0) e
theorem getD_mem {L : List Nat} {i : Nat} (h : i < L.length) : L.getD i 0 ∈ L := by
  rw [List.getD_eq_getElem?_getD, List.getElem?_eq_getElem h]; exact List.getElem_mem h
theorem lrg_eq (h9 : n ≤ 9) : gLrg1 (nD n) = some (.lst (((List.range n).map fun (n : Nat) => (n : Int)).map D.int)) := by
  have hsm : small 62 (n : Int) := small_n (by omega)
  have q0 : (n : Int) ≤ 1000000 := by omega
  show (if small 62 (n : Int) ∧ (n : Int) ≤ 1000000 then some (D.lst (rangeD 0 (n : Int))) else none) = _
  rw [if_pos ⟨hsm, q0⟩, rangeD_nat, ← asD_ints]; rfl
include P in
theorem is_line_gen (W : List Int) (hW : W.length < 64) : ∃ b : Bool, den_is_line [ordD n lt, .tup (W.map D.int)] = some (.bl b) ∧ (sortI W ≠ ((List.range n).map fun (n : Nat) => (n : Int)) → b = false) ∧ ∀ L : List Nat, W.map D.int = asD L → L.Nodup → (∀ x, x ∈ L ↔ x < n) → sortI W = ((List.range n).map fun (n : Nat) => (n : Int)) → b = !badA lt L := by
  have h9 := P.le
  have q1 := lrg_eq h9
  have q2 := sortT_ints W hW
  have q3 := gNeD_ints (sortI W) ((List.range n).map fun (n : Nat) => (n : Int))
  have q4 := size_eq (n := n) (lt := lt)
  have hlf : (true && (D.lfs (W.map D.int) && true)) = true := by rw [lfs_intsX]; rfl
  by_cases hs : sortI W = ((List.range n).map fun (n : Nat) => (n : Int))
  · obtain ⟨L, hWL, hn, hm⟩ := sorted_perm hs
    refine ⟨!badA lt L, ?_, fun h => absurd hs h, fun L2 h1 _ _ _ => ?_⟩
    · have hl : L.length = n := by
        have : (List.range n).Perm L := (List.perm_ext_iff_of_nodup List.nodup_range hn).mpr fun x => by rw [hm, List.mem_range]
        have := this.length_eq; simpa using this.symm
      rw [decide_eq_true hs, Bool.not_true] at q3
      rw [hWL] at q2 hlf ⊢
      refine fnD_rt hlf ?_
      unfold b_is_line
      show sSeq _ _ [ordD n lt, .tup (asD L), .non, .non, .non] = _
      refine st_nx (ρ' := [ordD n lt, .tup (asD L), .non, .non, .non]) ?_ ?_
      · unfold ordD at q4 ⊢
        simp_arith [q1, q2, q3, q4]
      have hit : iEnT (eV 1) [ordD n lt, .tup (asD L), .non, .non, .non] = some (enumD (asD L)) := rfl
      have hlp : (sFor (iEnT (eV 1)) (tgT [2, 3]) (sFor (iTupD (eSl gSlT (eV 1) oNo (oYes (eV 2)))) (tgN 4) (sIf (t2b (eMeth 0 den_Order_below (eV 0) (aCons (eV 3) (aCons (eV 4) aNil)))) (sRet (eK (.bl false))) sNil) [4]) [2, 3, 4]) [ordD n lt, .tup (asD L), .non, .non, .non] = if badA lt L = true then some (.rt (.bl false)) else some (.nx [ordD n lt, .tup (asD L), .non, .non, .non]) := by
        have hen : enumD (asD L) = (List.range L.length).map fun i => .tup [.int (i : Nat), nD (L.getD i 0)] := by
          unfold enumD asD
          refine List.ext_getElem? fun i => ?_
          rw [List.getElem?_mapIdx, List.getElem?_map, List.getElem?_map]
          by_cases hi : i < L.length
          · simp only [List.getElem?_range hi, List.getElem?_eq_getElem hi, Option.map_some, List.getD_eq_getElem?_getD, Option.getD_some]
          · rw [List.getElem?_eq_none (by omega), List.getElem?_eq_none (by rw [List.length_range]; omega)]; rfl
        refine (for_eq hit).trans ?_
        rw [hen]
        refine loop_find (fun i => .tup [.int (i : Nat), nD (L.getD i 0)]) (fun i => (L.take i).any fun e => lt (L.getD i 0) e) (.bl false) _ fun i hi => ?_
        rw [List.mem_range] at hi
        have hy : L.getD i 0 < n := (hm _).mp (getD_mem hi)
        refine ⟨[ordD n lt, .tup (asD L), nD i, nD (L.getD i 0), .non], rfl, ?_⟩
        generalize L.getD i 0 = y at hy ⊢
        have hin : (sFor (iTupD (eSl gSlT (eV 1) oNo (oYes (eV 2)))) (tgN 4) (sIf (t2b (eMeth 0 den_Order_below (eV 0) (aCons (eV 3) (aCons (eV 4) aNil)))) (sRet (eK (.bl false))) sNil) [4]) [ordD n lt, .tup (asD L), nD i, nD y, .non] = if ((L.take i).any fun e => lt y e) = true then some (.rt (.bl false)) else some (.nx [ordD n lt, .tup (asD L), nD i, nD y, .non]) := by
          refine (for_eq (items := asD (L.take i)) ?_).trans ?_
          · have c := cut_to (asD L) (k := i) (by rw [asD_len]; omega)
            rw [asD_take] at c
            simp_arith [c]
          · refine loop_find nD (fun e => lt y e) (.bl false) _ fun e he => ⟨[ordD n lt, .tup (asD L), nD i, nD y, nD e], rfl, ?_⟩
            have g1 : e < n := (hm _).mp (List.mem_of_mem_take he)
            have g := below_eq P y e hy g1
            cases hb : lt y e with
            | true =>
              rw [hb] at g
              refine .inl ⟨rfl, ?_⟩
              unfold ordD at g ⊢
              simp_arith [g]
            | false =>
              rw [hb] at g
              refine .inr ⟨rfl, [ordD n lt, .tup (asD L), nD i, nD y, nD e], .inl ?_, rfl⟩
              unfold ordD at g ⊢
              simp_arith [g]
        by_cases hp : ((L.take i).any fun e => lt y e) = true
        · rw [if_pos hp] at hin
          exact .inl ⟨hp, hin⟩
        · rw [if_neg hp] at hin
          exact .inr ⟨by simpa using hp, _, .inl hin, rfl⟩
      cases hb : badA lt L with
      | true =>
        rw [hb, if_pos rfl] at hlp
        exact seq_rt hlp
      | false =>
        rw [hb, if_neg (by decide)] at hlp
        refine st_nx hlp ?_
        simp_arith [Bool.not_false]
    · have : L = L2 := by
        have e := hWL.symm.trans h1
        unfold asD at e
        exact (List.map_inj_right (fun a b h => by injection h with h; omega)).mp e
      rw [this]
  · refine ⟨false, ?_, fun _ => rfl, fun _ _ _ _ h => absurd h hs⟩
    rw [decide_eq_false hs, Bool.not_false] at q3
    refine fnD_rt hlf ?_
    unfold b_is_line
    show sSeq _ _ [ordD n lt, .tup (W.map D.int), .non, .non, .non] = _
    refine seq_rt ((if_t ?_).trans rfl)
    unfold ordD at q4 ⊢
    simp_arith [q1, q2, q3, q4]
end
section
variable {n : Nat} {lt : Nat → Nat → Bool} (P : PO n lt) {U : Nat → List Nat} (hU : ∀ j, j < n → ∀ x, x ∈ U j ↔ lt x j = true) (hUn : ∀ j, (U j).Nodup)
end

theorem fnX_nx {pks : List PKn} {m : Nat} {b : SF} {args ρ : List D} (hc : chks pks args = true) (h : b (args ++ List.replicate m .non) = some (.nx ρ)) : fnX pks m true b args = some (.rt .non) := by unfold fnX; rw [if_pos hc, h]; rfl
theorem fnX_ex {pks : List PKn} {m : Nat} {nx : Bool} {b : SF} {args ρ es : List D} {c : Nat} (hc : chks pks args = true) (h : b (args ++ List.replicate m .non) = some (.ex c es ρ)) : fnX pks m nx b args = some (.ex c es) := by unfold fnX; rw [if_pos hc, h]; rfl
theorem seq_ex {f g : SF} {ρ ρ' es : List D} {c : Nat} (h : f ρ = some (.ex c es ρ')) : sSeq f g ρ = some (.ex c es ρ') := by unfold sSeq; rw [h]; rfl
theorem drop_ex {f : XF} {ρ es : List D} {c : Nat} (h : f ρ = some (.ex c es)) : xDrop f ρ = some (.ex c es ρ) := by unfold xDrop; rw [h]; rfl
theorem drop_rt {f : XF} {ρ : List D} {d : D} (h : f ρ = some (.rt d)) : xDrop f ρ = some (.nx ρ) := by unfold xDrop; rw [h]; rfl
theorem ret_ex {f : XF} {ρ es : List D} {c : Nat} (h : f ρ = some (.ex c es)) : xRet f ρ = some (.ex c es ρ) := by unfold xRet; rw [h]; rfl
section
variable {n : Nat} {lt : Nat → Nat → Bool} (P : PO n lt)
end

section
variable {n : Nat} {lt : Nat → Nat → Bool} (P : PO n lt)
end

def NoDn (n : Nat) (lt : Nat → Nat → Bool) (x : Int) : Prop := x < 0 ∨ ((2 ^ n : Nat) : Int) ≤ x ∨ ∃ b : Nat, x = (b : Int) ∧ b < 2 ^ n ∧ isDown n lt b = false
theorem atI_modI {l : List Int} (h : 0 < l.length) (c : Int) : ∃ x, x ∈ l ∧ atI (l.map D.int) (c % (l.length : Int)) = some (.int x) := by
  have h1 := Int.emod_nonneg c (show (l.length : Int) ≠ 0 by omega)
  have h2 := Int.emod_lt_of_pos c (show (0 : Int) < (l.length : Int) by omega)
  obtain ⟨j, hj⟩ : ∃ j : Nat, c % (l.length : Int) = (j : Int) := ⟨(c % (l.length : Int)).toNat, by omega⟩
  rw [hj] at h1 h2 ⊢
  have hl : j < l.length := by omega
  exact ⟨l[j], List.getElem_mem hl, atI_mapN (List.getElem?_eq_getElem hl)⟩
section
variable {n : Nat} {lt : Nat → Nat → Bool} (P : PO n lt)
include P in
theorem down_bad {x : Int} (h : NoDn n lt x) : den_is_downset [ordD n lt, .int x] = some (.bl false) := by
  rcases h with h | h | ⟨b, rfl, h1, h2⟩
  · exact down_low x h
  · by_cases h0 : 0 ≤ x
    · exact down_high P x h0 h
    · exact down_low x (by omega)
  · have := is_downset_eq P b h1
    rw [h2] at this; exact this
include P in
theorem needs_down_bad {x : Int} (h : NoDn n lt x) : den_needs_downset_X [ordD n lt, .int x] = some (.ex 12 [.int x]) := by
  refine fnX_ex (ρ := [ordD n lt, .int x]) rfl ?_
  unfold b_needs_downset_X
  have hb := down_bad P h
  refine (if_t ?_).trans rfl
  simp_arith [hb]
include P in
theorem needs_down_good {b : Nat} (h : isDown n lt b = true) : den_needs_downset_X [ordD n lt, nD b] = some (.rt .non) := by
  refine fnX_nx (ρ := [ordD n lt, nD b]) rfl ?_
  unfold b_needs_downset_X
  have hb := is_downset_eq P b ((isDown_iff P).mp h).1
  rw [h] at hb
  refine (if_f ?_).trans rfl
  simp_arith [hb]
end

theorem e2v {g : D → D → Option D} {f1 f2 : EF} {ρ : List D} {x y : D} (h1 : f1 ρ = some x) (h2 : f2 ρ = some y) : e2 g f1 f2 ρ = g x y := by unfold e2; rw [h1, Option.bind_some, h2, Option.bind_some]
theorem consv {f : EF} {g : List D → Option (List D)} {ρ : List D} {x : D} {xs : List D} (h1 : f ρ = some x) (h2 : g ρ = some xs) : aCons f g ρ = some (x :: xs) := by unfold aCons; rw [h1, Option.bind_some, h2]; rfl
theorem lstv {g : List D → Option (List D)} {ρ : List D} {xs : List D} (h : g ρ = some xs) (hl : xs.length ≤ 1000) : eLst g ρ = some (.lst xs) := by
  unfold eLst
  rw [h]
  exact if_pos hl
theorem callv {φ : List D → Option D} {f : List D → Option (List D)} {ρ xs : List D} {R : Option D} (h : f ρ = some xs) (h2 : φ xs = R) : eCall φ f ρ = R := by unfold eCall; rw [h]; exact h2
theorem appv {i : Nat} {f : EF} {ρ ds : List D} {x : D} (hi : ρ[i]? = some (.lst ds)) (h : f ρ = some x) (hl : ds.length < 1000000) : sApp i f ρ = some (.nx (ρ.set i (.lst (ds ++ [x])))) := by
  unfold sApp
  rw [hi]
  dsimp only
  rw [h, Option.bind_some, if_pos hl]
theorem retv {f : EF} {ρ : List D} {x : D} (h : f ρ = some x) : sRet f ρ = some (.rt x) := by unfold sRet; rw [h]; rfl
theorem setv {i : Nat} {f : EF} {ρ : List D} {x : D} (h : f ρ = some x) : sSet i f ρ = some (.nx (ρ.set i x)) := by unfold sSet; rw [h]; rfl
theorem loop_nx1 {tg : D → List D → Option (List D)} {b : SF} {cl : List Nat} {x : D} {xs ρ ρ1 ρ2 : List D} {R : Option Out} (h1 : tg x ρ = some ρ1) (h2 : b ρ1 = some (.nx ρ2)) (h3 : loopD tg b cl xs (clrs cl ρ2) = R) : loopD tg b cl (x :: xs) ρ = R := by
  unfold loopD
  rw [h1, Option.bind_some, h2]
  exact h3
theorem idx_cast (t : Nat) : ∀ L : List Nat, (L.map fun (n : Nat) => (n : Int)).idxOf (t : Int) = L.idxOf t
  | [] => rfl
  | a :: L => by
    rw [List.map_cons, List.idxOf_cons, List.idxOf_cons, idx_cast t L]
    by_cases h : a = t
    · subst h; simp
    · have h2 : (a : Int) ≠ t := by omega
      have e1 : (a == t) = false := by simpa using h
      have e2 : ((a : Int) == (t : Int)) = false := by simpa using h2
      rw [e1, e2]
theorem tix_eq {L : List Nat} {t : Nat} (h : t ∈ L) : gTix (.tup (asD L)) (nD t) = some (nD (L.idxOf t)) := by
  show (intsOf (asD L)).bind _ = _
  rw [asD_ints, intsOf_int, Option.bind_some, if_pos (List.mem_map.mpr ⟨t, h, rfl⟩), idx_cast]
theorem asD_inj {A B : List Nat} (h : asD A = asD B) : A = B := by
  unfold asD at h
  exact (List.map_inj_right (fun a b h => by injection h with h; omega)).mp h
theorem at_asD (l : List Nat) : (asD l).all D.at = true := List.all_eq_true.mpr fun d hd => by
  obtain ⟨n, _, rfl⟩ := List.mem_map.mp hd
  rfl
theorem ez_asD {L : List Nat} {ρ : List D} : eZt 0 (.tup (asD L) :: ρ) = some (.tup (asD L)) := by
  show (if (asD L).all D.at = true then some (D.tup (asD L)) else none) = _
  rw [if_pos (at_asD L)]
theorem cut_last2 (c : List Nat) (hc : 1 ≤ c.length) : DL.cutD (asD c) none (some (-1)) = asD c.dropLast := by
  unfold DL.cutD
  rw [HT.sIx_none]
  have h : HT.sIx (asD c).length (asD c).length (some (-1)) = c.length - 1 := by
    have := HT.clip_eq (-1) (asD c).length (asD c).length
    rw [if_pos (by decide), asD_len] at this
    rw [asD_len]
    omega
  rw [h, List.drop_zero, Nat.sub_zero, asD_take, List.dropLast_eq_take]
theorem catT_eq {A B : List D} (h : A.length + B.length ≤ 1000000) : gCatT (.tup A) (.tup B) = some (.tup (A ++ B)) := if_pos h
def tupI (W : List Int) : D := .tup (W.map D.int)
theorem tupI_nat (A : List Nat) : D.tup (asD A) = tupI (A.map fun (n : Nat) => (n : Int)) := by unfold tupI; rw [asD_ints]
theorem atI_modW {l : List (List Int)} (h : 0 < l.length) (c : Int) : ∃ x, x ∈ l ∧ atI (l.map tupI) (c % (l.length : Int)) = some (tupI x) := by
  have h1 := Int.emod_nonneg c (show (l.length : Int) ≠ 0 by omega)
  have h2 := Int.emod_lt_of_pos c (show (0 : Int) < (l.length : Int) by omega)
  obtain ⟨j, hj⟩ : ∃ j : Nat, c % (l.length : Int) = (j : Int) := ⟨(c % (l.length : Int)).toNat, by omega⟩
  rw [hj] at h1 h2 ⊢
  have hl : j < l.length := by omega
  exact ⟨l[j], List.getElem_mem hl, atI_mapN (List.getElem?_eq_getElem hl)⟩
def BadW (n : Nat) (lt : Nat → Nat → Bool) (W : List Int) : Prop := W.length < 64 ∧ den_is_line [ordD n lt, .tup (W.map D.int)] = some (.bl false)
section
variable {n : Nat} {lt : Nat → Nat → Bool} (P : PO n lt)
include P in
theorem bad_gen {W : List Int} (h64 : W.length < 64) (h : ∀ A : List Nat, W.map D.int = asD A → A.Nodup → (∀ x, x ∈ A ↔ x < n) → badA lt A = true) : BadW n lt W := by
  refine ⟨h64, ?_⟩
  obtain ⟨b, h1, h2, h3⟩ := is_line_gen P W h64
  rw [h1]
  by_cases hs : sortI W = ((List.range n).map fun (n : Nat) => (n : Int))
  · obtain ⟨A, e1, e2, e3⟩ := sorted_perm hs
    rw [h3 A e1 e2 e3 hs, h A e1 e2 e3]; rfl
  · rw [h2 hs]
theorem all_len {A : List Nat} (h1 : A.Nodup) (h2 : ∀ x, x ∈ A ↔ x < n) : A.length = n := by
  have : (List.range n).Perm A := (List.perm_ext_iff_of_nodup List.nodup_range h1).mpr fun x => by rw [h2, List.mem_range]
  have := this.length_eq
  simpa using this.symm
include P in
theorem bad_nat {B : List Nat} (h64 : B.length < 64) (h : B.Nodup → (∀ x, x ∈ B ↔ x < n) → badA lt B = true) : BadW n lt (B.map fun (n : Nat) => (n : Int)) :=
  bad_gen P (by rw [List.length_map]; exact h64) fun A e h1 h2 => by
    rw [← asD_ints] at e
    have := asD_inj e
    subst this
    exact h h1 h2
include P in
theorem bad_first {L : List Nat} (hL : IsL n lt L) {t y : Nat} (ht : t < n) (hy : lt y t = true) : BadW n lt ((t :: (L.take (L.idxOf t) ++ L.drop (L.idxOf t + 1))).map fun (n : Nat) => (n : Int)) := by
  have h9 := P.le
  have hl := hL.len
  refine bad_nat P ?_ fun _ hm => ?_
  · simp only [List.length_cons, List.length_append, List.length_take, List.length_drop]; omega
  · have hyt := P.up hy
    have hmy := (hm y).mpr (by omega)
    generalize L.take (L.idxOf t) ++ L.drop (L.idxOf t + 1) = R at hmy hm ⊢
    have hyR : y ∈ R := (List.mem_cons.mp hmy).resolve_left (by omega)
    obtain ⟨i, hi, e⟩ := List.getElem_of_mem hyR
    unfold badA
    refine List.any_eq_true.mpr ⟨i + 1, List.mem_range.mpr (by rw [List.length_cons]; omega), List.any_eq_true.mpr ⟨t, by rw [List.take_succ_cons]; exact List.mem_cons_self, ?_⟩⟩
    rw [List.getD_eq_getElem?_getD, List.getElem?_cons_succ, List.getElem?_eq_getElem hi, e]
    exact hy
include P in
theorem no_line_ex {L : List Nat} (hL : IsL n lt L) (c : Int) : ∃ W, BadW n lt W ∧ den__law_no_line [.tup (asD L), .lst (undD n lt), .int c] = some (tupI W) := by
  have h9 := P.le
  have h1 := P.pos
  have hl := hL.len
  obtain ⟨a, M, hLe⟩ : ∃ a M, L = a :: M := by
    cases L with
    | nil => simp at hl; omega
    | cons a M => exact ⟨a, M, rfl⟩
  have hlM : M.length + 1 = n := by rw [hLe] at hl; simpa using hl
  let cst : List Nat → List Int := fun A => A.map fun (n : Nat) => (n : Int)
  let Ws0 : List (List Int) := [cst (L.drop 1), cst (L ++ [0]), cst (L.dropLast ++ [n]), -1 :: cst (L.drop 1)]
  let Ws1 : List (List Int) := if 1 < n then Ws0 ++ [cst (L.dropLast ++ L.take 1)] else Ws0
  let stp : List (List Int) → Nat → List (List Int) := fun Ws t => if 0 < (undR n lt t).length then Ws ++ [cst (t :: (L.take (L.idxOf t) ++ L.drop (L.idxOf t + 1)))] else Ws
  have b0 : ∀ W ∈ Ws0, BadW n lt W := by
    intro W hW
    simp only [Ws0, List.mem_cons, List.not_mem_nil, or_false] at hW
    rcases hW with rfl | rfl | rfl | rfl
    · refine bad_nat P (by rw [List.length_drop]; omega) fun g1 g2 => ?_
      have := all_len g1 g2
      rw [List.length_drop] at this; omega
    · refine bad_nat P (by rw [List.length_append, List.length_singleton]; omega) fun g1 g2 => ?_
      have := all_len g1 g2
      rw [List.length_append, List.length_singleton] at this; omega
    · refine bad_nat P (by rw [List.length_append, List.length_singleton, List.length_dropLast]; omega) fun g1 g2 => ?_
      have := (g2 n).mp (by simp); omega
    · refine bad_gen P (by rw [List.length_cons, List.length_map, List.length_drop]; omega) fun A e _ _ => ?_
      cases A with
      | nil => exact absurd e (by simp [asD])
      | cons x A =>
        have e : D.int (-1) :: _ = D.int (x : Int) :: _ := e
        injection e with e _
        injection e with e
        omega
  have b1 : ∀ W ∈ Ws1, BadW n lt W := by
    intro W hW
    by_cases h : 1 < n
    · simp only [Ws1, if_pos h] at hW
      rcases List.mem_append.mp hW with hW | hW
      · exact b0 W hW
      · rw [List.mem_singleton] at hW
        subst hW
        refine bad_nat P (by rw [List.length_append, List.length_dropLast, List.length_take]; omega) fun g1 _ => ?_
        rw [hLe] at g1
        cases M with
        | nil => simp at hlM; omega
        | cons b M => simp [List.dropLast] at g1
    · simp only [Ws1, if_neg h] at hW
      exact b0 W hW
  have l1 : Ws1.length ≤ 5 ∧ 1 ≤ Ws1.length := by
    by_cases h : 1 < n
    · simp only [Ws1, if_pos h]; simp [Ws0]
    · simp only [Ws1, if_neg h]; simp [Ws0]
  have hlen : (asD L).length = n := by rw [asD_len, hl]
  have v1 : eSl gSlT (eZt 0) (oYes (eK (.int 1))) oNo = fun ρ => (eZt 0 ρ).bind fun x => gSlT x (some 1) none := rfl
  have s1 : DL.cutD (asD L) (some 1) none = asD (L.drop 1) := by
    have := cut_from (asD L) (k := 1) (by omega)
    rw [asD_drop] at this; exact this
  have s2 : DL.cutD (asD L) none (some (-1)) = asD L.dropLast := cut_last2 L (by omega)
  have s3 : DL.cutD (asD L) none (some 1) = asD (L.take 1) := by
    have := cut_to (asD L) (k := 1) (by omega)
    rw [asD_take] at this; exact this
  have c2 : gCatT (.tup (asD L)) (.tup [.int 0]) = some (tupI (cst (L ++ [0]))) := by
    rw [catT_eq (by rw [hlen]; show n + 1 ≤ _; omega), ← tupI_nat]; unfold asD; rw [List.map_append]; rfl
  have c3 : gCatT (.tup (asD L.dropLast)) (.tup [nD n]) = some (tupI (cst (L.dropLast ++ [n]))) := by
    rw [catT_eq (by rw [asD_len, List.length_dropLast]; show _ + 1 ≤ _; omega), ← tupI_nat]; unfold asD; rw [List.map_append]; rfl
  have c4 : gCatT (.tup [.int (-1)]) (.tup (asD (L.drop 1))) = some (tupI (-1 :: cst (L.drop 1))) := by
    rw [catT_eq (by rw [asD_len, List.length_drop]; show 1 + _ ≤ _; omega), asD_ints]; rfl
  have c5 : gCatT (.tup (asD L.dropLast)) (.tup (asD (L.take 1))) = some (tupI (cst (L.dropLast ++ L.take 1))) := by
    rw [catT_eq (by rw [asD_len, asD_len, List.length_dropLast, List.length_take]; omega), ← tupI_nat]; unfold asD; rw [List.map_append]
  have c1 : D.tup (asD (L.drop 1)) = tupI (cst (L.drop 1)) := tupI_nat _
  have z0 : (0 : Int) - 1 = -1 := rfl
  have hfin : ∀ (Ws : List (List Int)), (∀ W ∈ Ws, BadW n lt W) → 1 ≤ Ws.length → ∃ W, BadW n lt W ∧ (sRet (e2 gIx (eV 4) (e2 gMod (eV 2) (e1 gLen (eV 4))))) [.tup (asD L), .lst (undD n lt), .int c, nD n, .lst (Ws.map tupI), .non, .non] = some (.rt (tupI W)) := by
    intro Ws hW hWl
    obtain ⟨W, g1, g2⟩ := atI_modW (l := Ws) (by omega) c
    refine ⟨W, hW W g1, ?_⟩
    have hne : ((Ws.map tupI).length : Int) ≠ 0 := by rw [List.length_map]; omega
    rw [← List.length_map (f := tupI)] at g2
    generalize Ws.map tupI = R at *
    have hm : gMod (.int c) (.int (R.length : Int)) = some (.int (c % (R.length : Int))) := by
      have h0 : (0 : Int) < (R.length : Int) := by omega
      simp_arith [h0]
    have : (e2 gIx (eV 4) (e2 gMod (eV 2) (e1 gLen (eV 4)))) [.tup (asD L), .lst (undD n lt), .int c, nD n, .lst R, .non, .non] = some (tupI W) := by
      have hm' : (e2 gMod (eV 2) (e1 gLen (eV 4))) [.tup (asD L), .lst (undD n lt), .int c, nD n, .lst R, .non, .non] = some (.int (c % (R.length : Int))) := hm
      exact (e2v (x := .lst R) rfl hm').trans g2
    exact retv this
  have hstp : ∀ (ts : List Nat) (Ws : List (List Int)), (∀ W ∈ Ws, BadW n lt W) → 1 ≤ Ws.length → Ws.length + ts.length ≤ 100 → (∀ t ∈ ts, t < n) →
      ∃ Ws' : List (List Int), (∀ W ∈ Ws', BadW n lt W) ∧ 1 ≤ Ws'.length ∧ loopD (tgN 5) (sIf (t2b (e2 gGt (e1 gLen (e2 gIx (eV 1) (eV 5))) (eK (.int 0)))) (sThen (sSeq (sSet 6 (e2 gTix (eZt 0) (eV 5)))
 (sApp 4 (e2 gCatT (e2 gCatT (eTup (aCons (eV 5) aNil)) (eSl gSlT (eZt 0) oNo (oYes (eV 6)))) (eSl gSlT (eZt 0) (oYes (e2 gAdd (eV 6) (eK (.int 1)))) oNo)))) [6]) (sThen sNil [6])) [5, 6] (asD ts) [.tup (asD L), .lst (undD n lt), .int c, nD n, .lst (Ws.map tupI), .non, .non] = some (.nx [.tup (asD L), .lst (undD n lt), .int c, nD n, .lst (Ws'.map tupI), .non, .non]) := by
    intro ts
    induction ts with
    | nil => intro Ws h1 h2 _ _; exact ⟨Ws, h1, h2, rfl⟩
    | cons t ts ih =>
      intro Ws g1 g2 g3 g4
      rw [List.length_cons] at g3
      have ht : t < n := g4 t List.mem_cons_self
      have hu := und_at (n := n) (lt := lt) t ht
      have go : ∀ Ws2 : List (List Int), (∀ W ∈ Ws2, BadW n lt W) → 1 ≤ Ws2.length → Ws2.length ≤ Ws.length + 1 → ∀ x, (sIf (t2b (e2 gGt (e1 gLen (e2 gIx (eV 1) (eV 5))) (eK (.int 0)))) (sThen (sSeq (sSet 6 (e2 gTix (eZt 0) (eV 5)))
 (sApp 4 (e2 gCatT (e2 gCatT (eTup (aCons (eV 5) aNil)) (eSl gSlT (eZt 0) oNo (oYes (eV 6)))) (eSl gSlT (eZt 0) (oYes (e2 gAdd (eV 6) (eK (.int 1)))) oNo)))) [6]) (sThen sNil [6])) [.tup (asD L), .lst (undD n lt), .int c, nD n, .lst (Ws.map tupI), nD t, .non] = some (.nx [.tup (asD L), .lst (undD n lt), .int c, nD n, .lst (Ws2.map tupI), nD t, x]) →
          ∃ Ws' : List (List Int), (∀ W ∈ Ws', BadW n lt W) ∧ 1 ≤ Ws'.length ∧ loopD (tgN 5) (sIf (t2b (e2 gGt (e1 gLen (e2 gIx (eV 1) (eV 5))) (eK (.int 0)))) (sThen (sSeq (sSet 6 (e2 gTix (eZt 0) (eV 5)))
 (sApp 4 (e2 gCatT (e2 gCatT (eTup (aCons (eV 5) aNil)) (eSl gSlT (eZt 0) oNo (oYes (eV 6)))) (eSl gSlT (eZt 0) (oYes (e2 gAdd (eV 6) (eK (.int 1)))) oNo)))) [6]) (sThen sNil [6])) [5, 6] (asD (t :: ts)) [.tup (asD L), .lst (undD n lt), .int c, nD n, .lst (Ws.map tupI), .non, .non] = some (.nx [.tup (asD L), .lst (undD n lt), .int c, nD n, .lst (Ws'.map tupI), .non, .non]) := by
        intro Ws2 k1 k2 k3 x hx
        obtain ⟨Ws', m1, m2, m3⟩ := ih Ws2 k1 k2 (by omega) fun t' h => g4 t' (List.mem_cons_of_mem _ h)
        refine ⟨Ws', m1, m2, ?_⟩
        exact loop_nx1 rfl hx m3
      have tst : t2b (e2 gGt (e1 gLen (e2 gIx (eV 1) (eV 5))) (eK (.int 0))) [.tup (asD L), .lst (undD n lt), .int c, nD n, .lst (Ws.map tupI), nD t, .non] = some (decide (0 < (undR n lt t).length)) := by
        have hu' : gIx (.lst (undD n lt)) (nD t) = some (.lst (asD (undR n lt t))) := hu
        have : gLen (.lst (asD (undR n lt t))) = some (nD (undR n lt t).length) := by show some (D.int ((asD (undR n lt t)).length : Nat)) = _; rw [asD_len]
        show ((gIx (.lst (undD n lt)) (nD t)).bind gLen |>.bind fun y => gGt y (.int 0)).bind _ = _
        rw [hu', Option.bind_some, this, Option.bind_some]
        show some (decide ((0 : Int) < ((undR n lt t).length : Int))) = _
        congr 1
        exact decide_eq_decide.mpr (by omega)
      by_cases hp : 0 < (undR n lt t).length
      · rw [decide_eq_true hp] at tst
        obtain ⟨y, hy⟩ : ∃ y, y ∈ undR n lt t := List.exists_mem_of_length_pos hp
        have hyt : lt y t = true := (List.mem_filter.mp hy).2
        have htL : t ∈ L := (hL.2.1 t).mpr ht
        have hj := List.idxOf_lt_length_of_mem htL
        have hbad := bad_first P hL ht hyt
        have htx := tix_eq htL
        generalize hjj : L.idxOf t = j at *
        have d1 : DL.cutD (asD L) none (some (j : Int)) = asD (L.take j) := by
          have := cut_to (asD L) (k := j) (by omega)
          rw [asD_take] at this; exact this
        have d2 : DL.cutD (asD L) (some ((j : Int) + 1)) none = asD (L.drop (j + 1)) := by
          have := cut_from (asD L) (k := j + 1) (by omega)
          rw [asD_drop] at this
          have e : ((j + 1 : Nat) : Int) = (j : Int) + 1 := by omega
          rw [e] at this; exact this
        have e1' : gCatT (.tup [nD t]) (.tup (asD (L.take j))) = some (.tup (asD (t :: L.take j))) := by
          rw [catT_eq (by rw [asD_len, List.length_take]; show 1 + _ ≤ _; omega)]; rfl
        have e2' : gCatT (.tup (asD (t :: L.take j))) (.tup (asD (L.drop (j + 1)))) = some (tupI (cst (t :: (L.take j ++ L.drop (j + 1))))) := by
          rw [catT_eq (by rw [asD_len, asD_len, List.length_cons, List.length_take, List.length_drop]; omega), ← tupI_nat]; unfold asD; rw [← List.map_append]; rfl
        have hz : ∀ (ρ : List D), eZt 0 (.tup (asD L) :: ρ) = some (.tup (asD L)) := fun ρ => ez_asD
        refine go (Ws ++ [cst (t :: (L.take j ++ L.drop (j + 1)))]) (fun W hW => ?_) (by rw [List.length_append]; omega) (by rw [List.length_append, List.length_singleton]; omega) .non ((if_t tst).trans ?_)
        · rcases List.mem_append.mp hW with hW | hW
          · exact g1 W hW
          · rw [List.mem_singleton] at hW
            subst hW
            exact hbad
        · have hml : (Ws.map tupI).length < 1000000 := by rw [List.length_map]; omega
          have hz6 : ∀ (ρ : List D), eZt 0 (.tup (asD L) :: ρ) = some (.tup (asD L)) := hz
          rw [List.map_append]
          generalize Ws.map tupI = R at *
          have b1 : (sSet 6 (e2 gTix (eZt 0) (eV 5))) [.tup (asD L), .lst (undD n lt), .int c, nD n, .lst R, nD t, .non] = some (.nx [.tup (asD L), .lst (undD n lt), .int c, nD n, .lst R, nD t, nD j]) := by
            exact setv ((e2v (hz6 _) rfl).trans htx)
          have b2 : (e2 gCatT (e2 gCatT (eTup (aCons (eV 5) aNil)) (eSl gSlT (eZt 0) oNo (oYes (eV 6)))) (eSl gSlT (eZt 0) (oYes (e2 gAdd (eV 6) (eK (.int 1)))) oNo)) [.tup (asD L), .lst (undD n lt), .int c, nD n, .lst R, nD t, nD j] = some (tupI (cst (t :: (L.take j ++ L.drop (j + 1))))) := by
            have w1 : (eSl gSlT (eZt 0) oNo (oYes (eV 6))) [.tup (asD L), .lst (undD n lt), .int c, nD n, .lst R, nD t, nD j] = some (.tup (asD (L.take j))) := by
              rw [← d1]
              simp_arith [hz6]
            have w2 : (eSl gSlT (eZt 0) (oYes (e2 gAdd (eV 6) (eK (.int 1)))) oNo) [.tup (asD L), .lst (undD n lt), .int c, nD n, .lst R, nD t, nD j] = some (.tup (asD (L.drop (j + 1)))) := by
              rw [← d2]
              simp_arith [hz6]
            have w3 : (e2 gCatT (eTup (aCons (eV 5) aNil)) (eSl gSlT (eZt 0) oNo (oYes (eV 6)))) [.tup (asD L), .lst (undD n lt), .int c, nD n, .lst R, nD t, nD j] = some (.tup (asD (t :: L.take j))) := by
              exact (e2v rfl w1).trans e1'
            exact (e2v w3 w2).trans e2'
          show (sThen _ _) _ = _
          unfold sThen
          have b3 : (sSeq (sSet 6 (e2 gTix (eZt 0) (eV 5))) (sApp 4 (e2 gCatT (e2 gCatT (eTup (aCons (eV 5) aNil)) (eSl gSlT (eZt 0) oNo (oYes (eV 6)))) (eSl gSlT (eZt 0) (oYes (e2 gAdd (eV 6) (eK (.int 1)))) oNo)))) [.tup (asD L), .lst (undD n lt), .int c, nD n, .lst R, nD t, .non] = some (.nx [.tup (asD L), .lst (undD n lt), .int c, nD n, .lst (R ++ [tupI (cst (t :: (L.take j ++ L.drop (j + 1))))]), nD t, nD j]) := by
            refine st_nx b1 ?_
            unfold sApp
            rw [b2]
            simp_arith [hml]
          rw [b3]; rfl
      · rw [decide_eq_false hp] at tst
        exact go Ws g1 g2 (by omega) .non ((if_f tst).trans rfl)
  obtain ⟨Ws', m1, m2, m3⟩ := hstp (List.range n) Ws1 b1 l1.2 (by rw [List.length_range]; omega) fun t h => List.mem_range.mp h
  obtain ⟨W, w1, w2⟩ := hfin Ws' m1 m2
  refine ⟨W, w1, ?_⟩
  refine fnD_rt rfl ?_
  unfold b__law_no_line
  show sSeq _ _ [.tup (asD L), .lst (undD n lt), .int c, .non, .non, .non, .non] = _
  have hz : ∀ (ρ : List D), eZt 0 (.tup (asD L) :: ρ) = some (.tup (asD L)) := fun ρ => ez_asD
  refine st_nx (ρ' := [.tup (asD L), .lst (undD n lt), .int c, nD n, .non, .non, .non]) ?_ ?_
  · simp_arith [hz, hlen]
  refine st_nx (ρ' := [.tup (asD L), .lst (undD n lt), .int c, nD n, .lst (Ws0.map tupI), .non, .non]) ?_ ?_
  · have : Ws0.map tupI = [.tup (asD (L.drop 1)), tupI (cst (L ++ [0])), tupI (cst (L.dropLast ++ [n])), tupI (-1 :: cst (L.drop 1))] := by rw [c1]; rfl
    rw [this]
    have t1 : (eSl gSlT (eZt 0) (oYes (eK (.int 1))) oNo) [.tup (asD L), .lst (undD n lt), .int c, nD n, .non, .non, .non] = some (.tup (asD (L.drop 1))) := by
      simp_arith [hz, s1]
    have t2 : (e2 gCatT (eZt 0) (eTup (aCons (eK (.int 0)) aNil))) [.tup (asD L), .lst (undD n lt), .int c, nD n, .non, .non, .non] = some (tupI (cst (L ++ [0]))) := by
      exact (e2v (hz _) rfl).trans c2
    have t3 : (e2 gCatT (eSl gSlT (eZt 0) oNo (oYes (e1 gNeg (eK (.int 1))))) (eTup (aCons (eV 3) aNil))) [.tup (asD L), .lst (undD n lt), .int c, nD n, .non, .non, .non] = some (tupI (cst (L.dropLast ++ [n]))) := by
      have : (eSl gSlT (eZt 0) oNo (oYes (e1 gNeg (eK (.int 1))))) [.tup (asD L), .lst (undD n lt), .int c, nD n, .non, .non, .non] = some (.tup (asD L.dropLast)) := by
        rw [← s2]
        simp_arith [hz]
      exact (e2v this rfl).trans c3
    have t4 : (e2 gCatT (eTup (aCons (e2 gSbI (eK (.int 0)) (eK (.int 1))) aNil)) (eSl gSlT (eZt 0) (oYes (eK (.int 1))) oNo)) [.tup (asD L), .lst (undD n lt), .int c, nD n, .non, .non, .non] = some (tupI (-1 :: cst (L.drop 1))) := by
      have w : (eTup (aCons (e2 gSbI (eK (.int 0)) (eK (.int 1))) aNil)) [.tup (asD L), .lst (undD n lt), .int c, nD n, .non, .non, .non] = some (.tup [.int (-1)]) := by walk_at "ev"
      exact (e2v w t1).trans c4
    exact setv (lstv (consv t1 (consv t2 (consv t3 (consv t4 rfl)))) (show 4 ≤ 1000 by decide))
  refine st_nx (ρ' := [.tup (asD L), .lst (undD n lt), .int c, nD n, .lst (Ws1.map tupI), .non, .non]) ?_ ?_
  · by_cases h : 1 < n
    · have e : Ws1.map tupI = Ws0.map tupI ++ [tupI (cst (L.dropLast ++ L.take 1))] := by simp only [Ws1, if_pos h, List.map_append]; rfl
      rw [e]
      have hml : (Ws0.map tupI).length < 1000000 := by show 4 < 1000000; decide
      generalize Ws0.map tupI = R at *
      refine (if_t ?_).trans ?_
      · show some (decide ((1 : Int) < (n : Int))) = _
        rw [decide_eq_true (by omega)]
      · have w : (e2 gCatT (eSl gSlT (eZt 0) oNo (oYes (e1 gNeg (eK (.int 1))))) (eSl gSlT (eZt 0) oNo (oYes (eK (.int 1))))) [.tup (asD L), .lst (undD n lt), .int c, nD n, .lst R, .non, .non] = some (tupI (cst (L.dropLast ++ L.take 1))) := by
          have w1 : (eSl gSlT (eZt 0) oNo (oYes (e1 gNeg (eK (.int 1))))) [.tup (asD L), .lst (undD n lt), .int c, nD n, .lst R, .non, .non] = some (.tup (asD L.dropLast)) := by
            rw [← s2]
            simp_arith [hz]
          have w2 : (eSl gSlT (eZt 0) oNo (oYes (eK (.int 1)))) [.tup (asD L), .lst (undD n lt), .int c, nD n, .lst R, .non, .non] = some (.tup (asD (L.take 1))) := by
            rw [← s3]
            simp_arith [hz]
          exact (e2v w1 w2).trans c5
        unfold sApp
        rw [w]
        simp_arith [hml]
    · have e : Ws1 = Ws0 := by simp only [Ws1, if_neg h]
      rw [e]
      refine (if_f ?_).trans rfl
      show some (decide ((1 : Int) < (n : Int))) = _
      rw [decide_eq_false (by omega)]
  refine st_nx ((for_eq (items := asD (List.range n)) ?_).trans m3) w2
  have hsm : small 62 (n : Int) := small_n (by omega)
  have hr := rangeD_nat n
  generalize Ws1.map tupI = R at *
  simp_arith [hsm, hr]; rfl
end

theorem sumB_full : ∀ n : Nat, sumB (fun _ => true) n + 1 = 2 ^ n
  | 0 => rfl
  | n + 1 => by
    have := sumB_full n
    rw [sumB_succ, if_pos rfl, Nat.pow_succ]; omega
section
variable {n : Nat} {lt : Nat → Nat → Bool} (P : PO n lt)
include P in
theorem badset {t : Nat} (ht : t < n) (h : 0 < (undR n lt t).length) : ∃ b : Nat, NoDn n lt (b : Int) ∧ den__law_bits [.lst (asD (t :: (undR n lt t).drop 1))] = some (nD b) := by
  have h9 := P.le
  have pw : (undR n lt t).Pairwise (· < ·) := filt_pw _ _
  have mem : ∀ x, x ∈ undR n lt t ↔ x < n ∧ lt x t = true := fun x => by unfold undR; rw [List.mem_filter, List.mem_range]
  cases hU : undR n lt t with
  | nil => rw [hU] at h; cases h
  | cons u R =>
    rw [hU] at pw mem
    rw [List.drop_succ_cons, List.drop_zero]
    rw [List.pairwise_cons] at pw
    have hu := (mem u).mp List.mem_cons_self
    have hut := (P.up hu.2).1
    have hR : ∀ x ∈ R, x < t ∧ x < n := fun x hx => by
      have := (mem x).mp (List.mem_cons_of_mem _ hx)
      exact ⟨(P.up this.2).1, this.1⟩
    have htR : t ∉ R := fun hx => by have := (hR t hx).1; omega
    have huR : u ∉ R := fun hx => by have := pw.1 u hx; omega
    let p : Nat → Bool := fun x => decide (x = t) || decide (x ∈ R)
    have hp : (t :: R).Perm ((List.range n).filter p) := (List.perm_ext_iff_of_nodup (List.nodup_cons.mpr ⟨htR, pw.2.imp fun h => by omega⟩) (List.nodup_range.sublist List.filter_sublist)).mpr fun x => by
      rw [List.mem_filter, List.mem_range, List.mem_cons]
      simp only [p, Bool.or_eq_true, decide_eq_true_eq]
      constructor
      · rintro (rfl | hx)
        · exact ⟨ht, .inl rfl⟩
        · exact ⟨(hR x hx).2, .inr hx⟩
      · exact fun hx => hx.2
    have hs := (hp.map (2 ^ ·)).sum_nat
    refine ⟨sumB p n, .inr (.inr ⟨_, rfl, sumB_lt p n, ?_⟩), ?_⟩
    · cases hd : isDown n lt (sumB p n) with
      | false => rfl
      | true =>
        have := ((isDown_iff P).mp hd).2 u t hu.2 (by rw [sumB_test]; simp [p, ht])
        rw [sumB_test] at this
        simp [p, huR] at this
        omega
    · rw [law_bits_eq (t :: R) fun x hx => by
        rcases List.mem_cons.mp hx with rfl | hx
        · omega
        · have := (hR x hx).2; omega, hs]
      rfl
include P in
theorem no_downset_ex (c : Int) : ∃ x, NoDn n lt x ∧ den__law_no_downset [.lst (undD n lt), .int c] = some (.int x) := by
  have h9 := P.le
  have hU : (undD n lt).length = n := undD_len n lt
  have hb : den__law_bits [.lst (asD (List.range n))] = some (nD (sumB (fun _ => true) n)) := by
    have := bits_filter h9 (fun _ => true)
    have e : (List.range n).filter (fun _ => true) = List.range n := List.filter_eq_self.mpr fun _ _ => rfl
    rwa [e] at this
  have hfull := sumB_full n
  generalize hF : sumB (fun _ => true) n = F at hb hfull
  have hFs : F < 512 := by
    have : 2 ^ n ≤ 2 ^ 9 := Nat.pow_le_pow_right (by decide) h9
    have : (2 : Nat) ^ 9 = 512 := rfl
    omega
  have k1 := Int.emod_nonneg (c / 4) (show (1000 : Int) ≠ 0 by decide)
  have k2 := Int.emod_nonneg c (show (100000000000000000000 : Int) ≠ 0 by decide)
  let Ws0 : List Int := [-1 - c / 4 % 1000, (F : Int) + 1 + c / 4 % 1000, -1 - c % 100000000000000000000]
  have b0 : ∀ x ∈ Ws0, NoDn n lt x := by
    intro x hx
    simp only [Ws0, List.mem_cons, List.not_mem_nil, or_false] at hx
    rcases hx with rfl | rfl | rfl
    · exact .inl (by omega)
    · exact .inr (.inl (by rw [← hfull]; omega))
    · exact .inl (by omega)
  have hstp : ∀ (ts : List Nat) (Ws : List Int), (∀ x ∈ Ws, NoDn n lt x) → 1 ≤ Ws.length → Ws.length + ts.length ≤ 100 → (∀ t ∈ ts, t < n) →
      ∃ Ws' : List Int, (∀ x ∈ Ws', NoDn n lt x) ∧ 1 ≤ Ws'.length ∧ loopD (tgN 5) (sIf (t2b (e2 gGt (e1 gLen (e2 gIx (eV 0) (eV 5))) (eK (.int 0)))) (sApp 4 (eCall den__law_bits (aCons (e2 gCat (eLst (aCons (eV 5) aNil)) (eSl gSlL (e2 gIx (eV 0) (eV 5)) (oYes (eK (.int 1))) oNo)) aNil))) sNil) [5] (asD ts) [.lst (undD n lt), .int c, nD n, nD F, .lst (Ws.map D.int), .non] = some (.nx [.lst (undD n lt), .int c, nD n, nD F, .lst (Ws'.map D.int), .non]) := by
    intro ts
    induction ts with
    | nil => intro Ws h1 h2 _ _; exact ⟨Ws, h1, h2, rfl⟩
    | cons t ts ih =>
      intro Ws g1 g2 g3 g4
      rw [List.length_cons] at g3
      have ht : t < n := g4 t List.mem_cons_self
      have hu := und_at (n := n) (lt := lt) t ht
      have go : ∀ Ws2 : List Int, (∀ x ∈ Ws2, NoDn n lt x) → 1 ≤ Ws2.length → Ws2.length ≤ Ws.length + 1 → (sIf (t2b (e2 gGt (e1 gLen (e2 gIx (eV 0) (eV 5))) (eK (.int 0)))) (sApp 4 (eCall den__law_bits (aCons (e2 gCat (eLst (aCons (eV 5) aNil)) (eSl gSlL (e2 gIx (eV 0) (eV 5)) (oYes (eK (.int 1))) oNo)) aNil))) sNil) [.lst (undD n lt), .int c, nD n, nD F, .lst (Ws.map D.int), nD t] = some (.nx [.lst (undD n lt), .int c, nD n, nD F, .lst (Ws2.map D.int), nD t]) →
          ∃ Ws' : List Int, (∀ x ∈ Ws', NoDn n lt x) ∧ 1 ≤ Ws'.length ∧ loopD (tgN 5) (sIf (t2b (e2 gGt (e1 gLen (e2 gIx (eV 0) (eV 5))) (eK (.int 0)))) (sApp 4 (eCall den__law_bits (aCons (e2 gCat (eLst (aCons (eV 5) aNil)) (eSl gSlL (e2 gIx (eV 0) (eV 5)) (oYes (eK (.int 1))) oNo)) aNil))) sNil) [5] (asD (t :: ts)) [.lst (undD n lt), .int c, nD n, nD F, .lst (Ws.map D.int), .non] = some (.nx [.lst (undD n lt), .int c, nD n, nD F, .lst (Ws'.map D.int), .non]) := by
        intro Ws2 q1 q2 q3 hx
        obtain ⟨Ws', m1, m2, m3⟩ := ih Ws2 q1 q2 (by omega) fun t' h => g4 t' (List.mem_cons_of_mem _ h)
        refine ⟨Ws', m1, m2, ?_⟩
        exact loop_nx1 rfl hx m3
      have hu' : gIx (.lst (undD n lt)) (nD t) = some (.lst (asD (undR n lt t))) := hu
      have tst : t2b (e2 gGt (e1 gLen (e2 gIx (eV 0) (eV 5))) (eK (.int 0))) [.lst (undD n lt), .int c, nD n, nD F, .lst (Ws.map D.int), nD t] = some (decide (0 < (undR n lt t).length)) := by
        have : gLen (.lst (asD (undR n lt t))) = some (nD (undR n lt t).length) := by show some (D.int ((asD (undR n lt t)).length : Nat)) = _; rw [asD_len]
        show ((gIx (.lst (undD n lt)) (nD t)).bind gLen |>.bind fun y => gGt y (.int 0)).bind _ = _
        rw [hu', Option.bind_some, this, Option.bind_some]
        show some (decide ((0 : Int) < ((undR n lt t).length : Int))) = _
        congr 1
        exact decide_eq_decide.mpr (by omega)
      by_cases hp : 0 < (undR n lt t).length
      · rw [decide_eq_true hp] at tst
        obtain ⟨b, hb1, hb2⟩ := badset P ht hp
        have hl := undR_len n lt t
        have cu : DL.cutD (asD (undR n lt t)) (some 1) none = asD ((undR n lt t).drop 1) := by
          have := cut_from (asD (undR n lt t)) (k := 1) (by rw [asD_len]; omega)
          rw [asD_drop] at this; exact this
        refine go (Ws ++ [(b : Int)]) (fun x hx => ?_) (by rw [List.length_append]; omega) (by rw [List.length_append, List.length_singleton]; omega) ((if_t tst).trans ?_)
        · rcases List.mem_append.mp hx with hx | hx
          · exact g1 x hx
          · rw [List.mem_singleton] at hx
            subst hx
            exact hb1
        · have hml : (Ws.map D.int).length < 1000000 := by rw [List.length_map]; omega
          rw [List.map_append]
          generalize Ws.map D.int = R at *
          have w1 : (e2 gCat (eLst (aCons (eV 5) aNil)) (eSl gSlL (e2 gIx (eV 0) (eV 5)) (oYes (eK (.int 1))) oNo)) [.lst (undD n lt), .int c, nD n, nD F, .lst R, nD t] = some (.lst (asD (t :: (undR n lt t).drop 1))) := by
            have w2 : (eSl gSlL (e2 gIx (eV 0) (eV 5)) (oYes (eK (.int 1))) oNo) [.lst (undD n lt), .int c, nD n, nD F, .lst R, nD t] = some (.lst (asD ((undR n lt t).drop 1))) := by
              rw [← cu]
              simp_arith [hu]
            have w3 : gCat (.lst [nD t]) (.lst (asD ((undR n lt t).drop 1))) = some (.lst (asD (t :: (undR n lt t).drop 1))) := by
              show (if [nD t].length + (asD ((undR n lt t).drop 1)).length ≤ 1000000 then _ else _) = _
              rw [if_pos (by rw [asD_len, List.length_drop]; show 1 + _ ≤ _; omega)]; rfl
            unfold e2
            refine (congrArg (fun o => Option.bind o _) (show (eLst (aCons (eV 5) aNil)) [.lst (undD n lt), .int c, nD n, nD F, .lst R, nD t] = some (.lst [nD t]) from rfl)).trans ?_
            refine (congrArg (fun o => Option.bind o _) w2).trans ?_
            exact w3
          exact appv rfl (callv (consv w1 rfl) hb2) hml
      · rw [decide_eq_false hp] at tst
        exact go Ws g1 g2 (by omega) ((if_f tst).trans rfl)
  obtain ⟨Ws', m1, m2, m3⟩ := hstp (List.range n) Ws0 b0 (by simp [Ws0]) (by rw [List.length_range]; show 3 + n ≤ 100; omega) fun t h => List.mem_range.mp h
  obtain ⟨x, w1, w2⟩ := atI_modI (l := Ws') (by omega) c
  refine ⟨x, m1 x w1, ?_⟩
  refine fnD_rt rfl ?_
  unfold b__law_no_downset
  show sSeq _ _ [.lst (undD n lt), .int c, .non, .non, .non, .non] = _
  refine st_nx (ρ' := [.lst (undD n lt), .int c, nD n, .non, .non, .non]) ?_ ?_
  · simp_arith [hU]
  have hsm : small 62 (n : Int) := small_n (by omega)
  have hle : (n : Int) ≤ 1000000 := by omega
  have hr : rangeD 0 (n : Int) = asD (List.range n) := rangeD_nat n
  refine st_nx (ρ' := [.lst (undD n lt), .int c, nD n, nD F, .non, .non]) ?_ ?_
  · simp_arith [gLrg1, hsm, hle, hr, hb]
  refine st_nx (ρ' := [.lst (undD n lt), .int c, nD n, nD F, .lst (Ws0.map D.int), .non]) ?_ ?_
  · walk_at "ev"; rfl
  refine st_nx ((for_eq (items := asD (List.range n)) ?_).trans m3) ?_
  · generalize Ws0.map D.int = R at *
    simp_arith [hsm, hr]
  have hne : ((Ws'.map D.int).length : Int) ≠ 0 := by rw [List.length_map]; omega
  rw [← List.length_map (f := D.int)] at w2
  generalize Ws'.map D.int = R at *
  have h0 : (0 : Int) < (R.length : Int) := by omega
  simp_arith [h0, w2]
end

theorem mkD_nx {pks : List PKn} {m : Nat} {js : List Nat} {b : SF} {a : D} {as ρ' : List D} {ds : List D} (hc : chks pks as = true) (h : b ((a :: as) ++ List.replicate m .non) = some (.nx ρ')) (h2 : (js.mapM fun j => ρ'[j]?) = some ds) : mkD pks m js b (a :: as) = some (.tup ds) := by
  unfold mkD
  rw [List.tail_cons, if_pos hc, h]
  show ((js.mapM fun j => ρ'[j]?).map D.tup) = _
  rw [h2]; rfl
section
variable {n : Nat} {lt : Nat → Nat → Bool} (P : PO n lt)
end

section
variable {n : Nat} {lt : Nat → Nat → Bool} (P : PO n lt)
end

section
variable {n : Nat} {lt : Nat → Nat → Bool} (P : PO n lt)
def dl (n : Nat) (lt : Nat → Nat → Bool) (b : Nat) : List Nat := (List.range n).filter (dbit n lt b)
def EqF (n : Nat) (lt : Nat → Nat → Bool) (f : Nat → Nat) (b : Nat) : Prop := f b = if dl n lt b = [] then 1 else ((dl n lt b).map fun t => f (b + 2 ^ t)).sum
end

section
variable {n : Nat} {lt : Nat → Nat → Bool} (P : PO n lt)
variable (f : Nat → Nat)
def pick (b : Nat) : List Nat → Nat → Option (Nat × Nat)
  | [], _ => none
  | t :: ts, left => if left < f (b + 2 ^ t) then some (t, left) else pick b ts (left - f (b + 2 ^ t))
variable (hf : ∀ b, isDown n lt b = true → EqF n lt f b)
end

section
variable {n : Nat} {lt : Nat → Nat → Bool} (P : PO n lt)
structure Ends (n : Nat) (lt : Nat → Nat → Bool) (f : Nat → Nat) (E : D) : Prop where
  den : den_ends [ordD n lt] = some E
  eq : ∀ b, isDown n lt b = true → EqF n lt f b
  get : ∀ b, isDown n lt b = true → gDGet E (nD b) = some (nD (f b))
variable {f : Nat → Nat} {E : D} (hE : Ends n lt f E)
end

section
variable {n : Nat} {lt : Nat → Nat → Bool} (P : PO n lt) {f : Nat → Nat} {E : D} (hE : Ends n lt f E)
end

section
variable {n : Nat} {lt : Nat → Nat → Bool} (P : PO n lt) (f : Nat → Nat) (hf : ∀ b, isDown n lt b = true → EqF n lt f b)
end

section
variable {n : Nat} {lt : Nat → Nat → Bool} (P : PO n lt) (f : Nat → Nat) (hf : ∀ b, isDown n lt b = true → EqF n lt f b)
end

section
variable {n : Nat} {lt : Nat → Nat → Bool} (P : PO n lt) {f : Nat → Nat} {E : D} (hE : Ends n lt f E)
end
section
variable {n : Nat} {lt : Nat → Nat → Bool} (P : PO n lt) {f : Nat → Nat} {E : D} (hE : Ends n lt f E)
variable {U : Nat → List Nat} (hU : ∀ j, j < n → ∀ x, x ∈ U j ↔ lt x j = true) (hUn : ∀ j, (U j).Nodup)
end
section
variable {n : Nat} {lt : Nat → Nat → Bool}
end

def SLe (f g : SF) : Prop := ∀ ρ o, f ρ = some o → g ρ = some o
theorem SLe.refl (f : SF) : SLe f f := fun _ _ h => h
theorem SLe.nev (f : SF) : SLe sNev f := fun _ _ h => nomatch h
theorem SLe.seq {f f' g g' : SF} (h : SLe f f') (h2 : SLe g g') : SLe (sSeq f g) (sSeq f' g') := fun ρ o e => by
  unfold sSeq at e ⊢
  cases h1 : f ρ with
  | none => rw [h1] at e; cases e
  | some x =>
    rw [h1] at e
    rw [h ρ x h1]
    cases x with
    | nx ρ' => exact h2 _ _ e
    | bk _ => exact e
    | ct _ => exact e
    | rt _ => exact e
    | ex _ _ _ => exact e
theorem SLe.ite {t : List D → Option Bool} {f f' g g' : SF} (h : SLe f f') (h2 : SLe g g') : SLe (sIf t f g) (sIf t f' g') := fun ρ o e => by
  unfold sIf at e ⊢
  cases h1 : t ρ with
  | none => rw [h1] at e; cases e
  | some x =>
    rw [h1] at e
    cases x with
    | true => exact h _ _ e
    | false => exact h2 _ _ e
theorem SLe.thn {f g : SF} {cl : List Nat} (h : SLe f g) : SLe (sThen f cl) (sThen g cl) := fun ρ o e => by
  unfold sThen at e ⊢
  cases h1 : f ρ with
  | none => rw [h1] at e; cases e
  | some x => rw [h1] at e; rw [h ρ x h1]; exact e
def XLe (φ : List D → Option D) (ψ : List D → Option Res) : Prop := ∀ as d, φ as = some d → ψ as = some (.rt d)
theorem XLe.drop {φ : List D → Option D} {ψ : List D → Option Res} {fs : List D → Option (List D)} (h : XLe φ ψ) : SLe (sDrop (eCall φ fs)) (xDrop (xCall ψ fs)) := fun ρ o e => by
  unfold sDrop eCall at e
  unfold xDrop xCall
  cases h1 : fs ρ with
  | none => rw [h1] at e; cases e
  | some as =>
    rw [h1] at e
    simp only [Option.bind_some] at e ⊢
    cases h2 : φ as with
    | none => rw [h2] at e; cases e
    | some d => rw [h2] at e; rw [h as d h2]; exact e
theorem XLe.ret {φ : List D → Option D} {ψ : List D → Option Res} {fs : List D → Option (List D)} (h : XLe φ ψ) : SLe (sRet (eCall φ fs)) (xRet (xCall ψ fs)) := fun ρ o e => by
  unfold sRet eCall at e
  unfold xRet xCall
  cases h1 : fs ρ with
  | none => rw [h1] at e; cases e
  | some as =>
    rw [h1] at e
    simp only [Option.bind_some] at e ⊢
    cases h2 : φ as with
    | none => rw [h2] at e; cases e
    | some d => rw [h2] at e; rw [h as d h2]; exact e
theorem XLe.set {i : Nat} {φ : List D → Option D} {ψ : List D → Option Res} {fs : List D → Option (List D)} (h : XLe φ ψ) : SLe (sSet i (eCall φ fs)) (xSet i (xCall ψ fs)) := fun ρ o e => by
  unfold sSet eCall at e
  unfold xSet xCall
  cases h1 : fs ρ with
  | none => rw [h1] at e; cases e
  | some as =>
    rw [h1] at e
    simp only [Option.bind_some] at e ⊢
    cases h2 : φ as with
    | none => rw [h2] at e; cases e
    | some d => rw [h2] at e; rw [h as d h2]; exact e
theorem XLe.fn {pks : List PKn} {m : Nat} {nx : Bool} {b bX : SF} (h : SLe b bX) : XLe (fnD pks m nx b) (fnX pks m nx bX) := fun as d e => by
  unfold fnD at e
  unfold fnX
  split at e
  · rename_i hc
    rw [if_pos hc]
    cases h1 : b (as ++ List.replicate m .non) with
    | none => rw [h1] at e; cases e
    | some o =>
      rw [h1] at e
      rw [h _ o h1]
      simp only [Option.bind_some] at e ⊢
      cases o with
      | rt d' => cases e; rfl
      | nx ρ =>
        have e : (if nx = true then some D.non else none) = some d := e
        show (if nx = true then some (Res.rt .non) else none) = _
        split at e
        · rename_i hnx; cases e; rw [if_pos hnx]
        · cases e
      | bk _ => cases e
      | ct _ => cases e
      | ex _ _ _ => cases e
  · cases e
def ILe (φ : List D → Option (List D)) (ψ : List D → Option ResI) : Prop := ∀ as d, φ as = some d → ψ as = some (.ok d)
theorem ILe.fn {c : Nat} {pks : List PKn} {m : Nat} {b bX : SF} (h : SLe b bX) : ILe (initD c pks m b) (initX c pks m bX) := fun as d e => by
  unfold initD at e
  unfold initX
  split at e
  · rename_i hc
    rw [if_pos hc]
    cases h1 : b (.ins c [] :: (as ++ List.replicate m .non)) with
    | none => rw [h1] at e; cases e
    | some o =>
      rw [h1] at e
      rw [h _ o h1]
      simp only [Option.bind_some] at e ⊢
      cases o with
      | nx ρ =>
        have e : (match ρ[0]? with | some (D.ins _ ds) => some ds | _ => none) = some d := e
        show (match ρ[0]? with | some (D.ins _ ds) => some (ResI.ok ds) | _ => none) = _
        split at e
        · cases e; rfl
        · cases e
      | rt _ => cases e
      | bk _ => cases e
      | ct _ => cases e
      | ex _ _ _ => cases e
  · cases e

theorem xle_needs_line : XLe den_needs_line den_needs_line_X := XLe.fn (SLe.ite (SLe.nev _) (SLe.refl _))
section
variable {n : Nat} {lt : Nat → Nat → Bool} (P : PO n lt) {f : Nat → Nat} {E : D} (hE : Ends n lt f E)
end

namespace R38
theorem loop_exn {tg : D → List D → Option (List D)} {b : SF} {cl : List Nat} {x : D} {xs ρ ρ1 ρ' es : List D} {c : Nat} (h1 : tg x ρ = some ρ1) (h2 : b ρ1 = some (.ex c es ρ')) : loopD tg b cl (x :: xs) ρ = some (.ex c es ρ') := by
  unfold loopD
  rw [h1, Option.bind_some, h2]; rfl
theorem bOfd {f g : List D → Option Bool} {ρ : List D} {a b : Bool} (h1 : f ρ = some a) (h2 : g ρ = some b) : bOr f g ρ = some (a || b) := by
  unfold bOr; rw [h1, Option.bind_some]; cases a
  · rw [if_neg Bool.false_ne_true]; exact h2
  · rfl
section
variable {n : Nat} {lt : Nat → Nat → Bool}
def thB : SF := sIf (bOr (t2b (e2 gLt (eV 2) (eK (.int 0)))) (t2b (e2 gGe (eV 2) (eMeth 0 den_Order_size (eV 0) aNil)))) (sRaise 10 (aCons (eV 2) aNil)) sNil
def plB : SF := sIf (bOr (t2b (e2 gLt (eV 2) (eK (.int 0)))) (t2b (e2 gGt (eV 2) (e2 gSbI (eMeth 0 den_Order_size (eV 0) aNil) (eK (.int 2)))))) (sRaise 13 (aCons (eV 2) aNil)) sNil
theorem thC (L : D) (x : Int) : bOr (t2b (e2 gLt (eV 2) (eK (.int 0)))) (t2b (e2 gGe (eV 2) (eMeth 0 den_Order_size (eV 0) aNil))) [ordD n lt, L, .int x] = some (decide (x < 0) || decide ((n : Int) ≤ x)) := by
  have hz := size_eq (n := n) (lt := lt)
  refine bOfd rfl ?_
  unfold ordD at hz ⊢
  simp_arith [hz]
theorem plC (L : D) (x : Int) : bOr (t2b (e2 gLt (eV 2) (eK (.int 0)))) (t2b (e2 gGt (eV 2) (e2 gSbI (eMeth 0 den_Order_size (eV 0) aNil) (eK (.int 2))))) [ordD n lt, L, .int x] = some (decide (x < 0) || decide ((n : Int) - 2 < x)) := by
  have hz := size_eq (n := n) (lt := lt)
  refine bOfd rfl ?_
  unfold ordD at hz ⊢
  simp_arith [hz]
def BadT (n : Nat) (x : Int) : Prop := x < 0 ∨ (n : Int) ≤ x
def BadP (n : Nat) (x : Int) : Prop := x < 0 ∨ (n : Int) - 2 < x
theorem or_t {a b : Prop} [Decidable a] [Decidable b] (h : a ∨ b) : (decide a || decide b) = true := by simpa using h
theorem or_f {a b : Prop} [Decidable a] [Decidable b] (h : ¬ (a ∨ b)) : (decide a || decide b) = false := by
  rw [Bool.or_eq_false_iff]; exact ⟨decide_eq_false fun z => h (.inl z), decide_eq_false fun z => h (.inr z)⟩
theorem th_go {L : D} {bad : Int} (hb : BadT n bad) (post : List Int) : ∀ (pre : List Int) (z : D), (∀ x ∈ pre, ¬ BadT n x) → loopD (tgN 2) thB [2] ((pre ++ bad :: post).map D.int) [ordD n lt, L, z] = some (.ex 10 [.int bad] [ordD n lt, L, .int bad])
  | [], z, _ => by
    refine loop_exn (ρ1 := [ordD n lt, L, .int bad]) rfl ?_
    unfold thB
    refine (if_t ?_).trans rfl
    rw [thC, or_t hb]
  | x :: pre, z, h => by
    refine loop_nx1 (ρ1 := [ordD n lt, L, .int x]) (ρ2 := [ordD n lt, L, .int x]) rfl ?_ (th_go hb post pre _ fun y hy => h y (List.mem_cons_of_mem _ hy))
    unfold thB
    refine (if_f ?_).trans rfl
    rw [thC, or_f (h x List.mem_cons_self)]
theorem pl_go {L : D} {bad : Int} (hb : BadP n bad) (post : List Int) : ∀ (pre : List Int) (z : D), (∀ x ∈ pre, ¬ BadP n x) → loopD (tgN 2) plB [2] ((pre ++ bad :: post).map D.int) [ordD n lt, L, z] = some (.ex 13 [.int bad] [ordD n lt, L, .int bad])
  | [], z, _ => by
    refine loop_exn (ρ1 := [ordD n lt, L, .int bad]) rfl ?_
    unfold plB
    refine (if_t ?_).trans rfl
    rw [plC, or_t hb]
  | x :: pre, z, h => by
    refine loop_nx1 (ρ1 := [ordD n lt, L, .int x]) (ρ2 := [ordD n lt, L, .int x]) rfl ?_ (pl_go hb post pre _ fun y hy => h y (List.mem_cons_of_mem _ hy))
    unfold plB
    refine (if_f ?_).trans rfl
    rw [plC, or_f (h x List.mem_cons_self)]
theorem chk2 (W : List Int) : chks [PKn.U, PKn.fA] [ordD n lt, .lst (W.map D.int)] = true := by
  show (true && (D.lfs (W.map D.int) && true)) = true
  rw [lfs_intsX]; rfl
theorem things_bad {bad : Int} (hb : BadT n bad) {pre post : List Int} (hp : ∀ x ∈ pre, ¬ BadT n x) : den_needs_things_X [ordD n lt, .lst ((pre ++ bad :: post).map D.int)] = some (.ex 10 [.int bad]) := by
  refine fnX_ex (chk2 _) (ρ := [ordD n lt, .lst ((pre ++ bad :: post).map D.int), .int bad]) ?_
  unfold b_needs_things_X
  show sFor _ _ _ _ [ordD n lt, .lst ((pre ++ bad :: post).map D.int), .non] = _
  refine (for_eq (items := (pre ++ bad :: post).map D.int) ?_).trans (th_go hb post pre .non hp)
  rfl
theorem places_bad {bad : Int} (hb : BadP n bad) {pre post : List Int} (hp : ∀ x ∈ pre, ¬ BadP n x) : den_needs_places_X [ordD n lt, .lst ((pre ++ bad :: post).map D.int)] = some (.ex 13 [.int bad]) := by
  refine fnX_ex (chk2 _) (ρ := [ordD n lt, .lst ((pre ++ bad :: post).map D.int), .int bad]) ?_
  unfold b_needs_places_X
  show sFor _ _ _ _ [ordD n lt, .lst ((pre ++ bad :: post).map D.int), .non] = _
  refine (for_eq (items := (pre ++ bad :: post).map D.int) ?_).trans (pl_go hb post pre .non hp)
  rfl
theorem chk3 {V : D} (hv : V.lf = true) (W : List Int) : chks [PKn.U, PKn.A, PKn.fA] [ordD n lt, V, .lst (W.map D.int)] = true := by
  show (true && (V.lf && (D.lfs (W.map D.int) && true))) = true
  rw [hv, lfs_intsX]; rfl
theorem walked_ex {V : D} {W : List Int} {c : Nat} {es : List D} (hv : V.lf = true) (h1 : den_needs_downset_X [ordD n lt, V] = some (.rt .non)) (h2 : den_needs_things_X [ordD n lt, .lst (W.map D.int)] = some (.ex c es)) : den_walked_X [ordD n lt, V, .lst (W.map D.int)] = some (.ex c es) := by
  refine fnX_ex (chk3 hv W) (ρ := [ordD n lt, V, .lst (W.map D.int), .non]) ?_
  unfold b_walked_X
  exact st_nx (drop_rt (d := .non) h1) (seq_ex (drop_ex h2))
theorem walked_no {V : D} {W : List Int} {c : Nat} {es : List D} (hv : V.lf = true) (h1 : den_needs_downset_X [ordD n lt, V] = some (.ex c es)) : den_walked_X [ordD n lt, V, .lst (W.map D.int)] = some (.ex c es) := by
  refine fnX_ex (chk3 hv W) (ρ := [ordD n lt, V, .lst (W.map D.int), .non]) ?_
  unfold b_walked_X
  exact seq_ex (drop_ex h1)
theorem led_ex {V : D} {W : List Int} {c : Nat} {es : List D} (hv : V.lf = true) (h1 : den_needs_line_X [ordD n lt, V] = some (.rt .non)) (h2 : den_needs_places_X [ordD n lt, .lst (W.map D.int)] = some (.ex c es)) : den_led_X [ordD n lt, V, .lst (W.map D.int)] = some (.ex c es) := by
  refine fnX_ex (chk3 hv W) (ρ := [ordD n lt, V, .lst (W.map D.int), .non]) ?_
  unfold b_led_X
  exact st_nx (drop_rt (d := .non) h1) (seq_ex (drop_ex h2))
theorem led_no {V : D} {W : List Int} {c : Nat} {es : List D} (hv : V.lf = true) (h1 : den_needs_line_X [ordD n lt, V] = some (.ex c es)) : den_led_X [ordD n lt, V, .lst (W.map D.int)] = some (.ex c es) := by
  refine fnX_ex (chk3 hv W) (ρ := [ordD n lt, V, .lst (W.map D.int), .non]) ?_
  unfold b_led_X
  exact seq_ex (drop_ex h1)
theorem chkA {V : D} (hv : V.lf = true) (x : Int) : chks [PKn.U, PKn.A, PKn.A] [ordD n lt, V, .int x] = true := by
  show (true && (V.lf && (true && true))) = true
  rw [hv]; rfl
theorem toggled_ex {V : D} {x : Int} {c : Nat} {es : List D} (hv : V.lf = true) (h : den_walked_X [ordD n lt, V, .lst ([x].map D.int)] = some (.ex c es)) : den_toggled_X [ordD n lt, V, .int x] = some (.ex c es) := by
  refine fnX_ex (chkA hv x) (ρ := [ordD n lt, V, .int x]) ?_
  unfold b_toggled_X
  exact ret_ex h
theorem swapped_ex {V : D} {x : Int} {c : Nat} {es : List D} (hv : V.lf = true) (h : den_led_X [ordD n lt, V, .lst ([x].map D.int)] = some (.ex c es)) : den_swapped_X [ordD n lt, V, .int x] = some (.ex c es) := by
  refine fnX_ex (chkA hv x) (ρ := [ordD n lt, V, .int x]) ?_
  unfold b_swapped_X
  exact ret_ex h
theorem walker_ex {W : List Int} {c : Nat} {es : List D} (h : den_needs_things_X [ordD n lt, .lst (W.map D.int)] = some (.ex c es)) : den_walker_X [ordD n lt, .lst (W.map D.int)] = some (.ex c es) := by
  refine fnX_ex (chk2 _) (ρ := [ordD n lt, .lst (W.map D.int), .non, .non]) ?_
  unfold b_walker_X
  exact seq_ex (drop_ex h)
theorem leader_ex {W : List Int} {c : Nat} {es : List D} (h : den_needs_places_X [ordD n lt, .lst (W.map D.int)] = some (.ex c es)) : den_leader_X [ordD n lt, .lst (W.map D.int)] = some (.ex c es) := by
  refine fnX_ex (chk2 _) (ρ := [ordD n lt, .lst (W.map D.int), .non, .non]) ?_
  unfold b_leader_X
  exact seq_ex (drop_ex h)
theorem walk_ex {V : D} {W : List Int} {c : Nat} {es : List D} (hv : V.lf = true) (h : den_walked_X [ordD n lt, V, .lst (W.map D.int)] = some (.ex c es)) : den_walker_walk_X [V, ordD n lt, .lst (W.map D.int)] = some (.ex c es) := by
  refine fnX_ex (by show (V.lf && (true && (D.lfs (W.map D.int) && true))) = true; rw [hv, lfs_intsX]; rfl) (ρ := [V, ordD n lt, .lst (W.map D.int)]) ?_
  unfold b_walker_walk_X
  exact ret_ex h
theorem lead_ex {V : D} {W : List Int} {c : Nat} {es : List D} (hv : V.lf = true) (h : den_led_X [ordD n lt, V, .lst (W.map D.int)] = some (.ex c es)) : den_leader_lead_X [V, ordD n lt, .lst (W.map D.int)] = some (.ex c es) := by
  refine fnX_ex (by show (V.lf && (true && (D.lfs (W.map D.int) && true))) = true; rw [hv, lfs_intsX]; rfl) (ρ := [V, ordD n lt, .lst (W.map D.int)]) ?_
  unfold b_leader_lead_X
  exact ret_ex h
theorem things_ok {w : List Nat} (hw : ∀ t ∈ w, t < n) : den_needs_things [ordD n lt, .lst (asD w)] = some .non := by
  have hz := size_eq (n := n) (lt := lt)
  unfold den_needs_things fnD
  rw [if_pos (by show (true && (D.lfs (asD w) && true)) = true; rw [lfs_asD]; rfl)]
  have : b_needs_things [ordD n lt, .lst (asD w), .non] = some (.nx [ordD n lt, .lst (asD w), .non]) := by
    unfold b_needs_things
    refine (for_eq (items := asD w) ?_).trans ?_
    · walk_at "ev"
    · refine loop_same nD w fun t ht => ⟨[ordD n lt, .lst (asD w), nD t], [ordD n lt, .lst (asD w), nD t], rfl, .inl ?_, rfl⟩
      have := hw t ht
      have q1 : ¬ (t : Int) < 0 := by omega
      have q2 : ¬ (n : Int) ≤ t := by omega
      unfold ordD at hz ⊢
      simp_arith [hz, q1, q2]
  show (b_needs_things [ordD n lt, .lst (asD w), .non]).bind _ = _
  rw [this]; rfl
theorem places_ok {w : List Nat} (hw : ∀ t ∈ w, t + 1 < n) : den_needs_places [ordD n lt, .lst (asD w)] = some .non := by
  have hz := size_eq (n := n) (lt := lt)
  unfold den_needs_places fnD
  rw [if_pos (by show (true && (D.lfs (asD w) && true)) = true; rw [lfs_asD]; rfl)]
  have : b_needs_places [ordD n lt, .lst (asD w), .non] = some (.nx [ordD n lt, .lst (asD w), .non]) := by
    unfold b_needs_places
    refine (for_eq (items := asD w) ?_).trans ?_
    · walk_at "ev"
    · refine loop_same nD w fun t ht => ⟨[ordD n lt, .lst (asD w), nD t], [ordD n lt, .lst (asD w), nD t], rfl, .inl ?_, rfl⟩
      have := hw t ht
      have q1 : ¬ (t : Int) < 0 := by omega
      have q2 : ¬ (n : Int) - 2 < t := by omega
      unfold ordD at hz ⊢
      simp_arith [hz, q1, q2]
  show (b_needs_places [ordD n lt, .lst (asD w), .non]).bind _ = _
  rw [this]; rfl
theorem walker_eq {w : List Nat} (hw : ∀ t ∈ w, t < n) : den_walker [ordD n lt, .lst (asD w)] = some (.tup [ordD n lt, .lst (asD w)]) := by
  have g := things_ok (lt := lt) hw
  refine mkD_nx (ρ' := [ordD n lt, .lst (asD w), .lst (asD w), .non]) (by show (D.lfs (asD w) && true) = true; rw [lfs_asD]; rfl) ?_ rfl
  unfold b_walker
  show sSeq _ _ [ordD n lt, .lst (asD w), .non, .non] = _
  refine st_nx (ρ' := [ordD n lt, .lst (asD w), .non, .non]) (by simp_arith [g]) ?_
  walk_at "ev"
theorem leader_eq {w : List Nat} (hw : ∀ t ∈ w, t + 1 < n) : den_leader [ordD n lt, .lst (asD w)] = some (.tup [ordD n lt, .lst (asD w)]) := by
  have g := places_ok (lt := lt) hw
  refine mkD_nx (ρ' := [ordD n lt, .lst (asD w), .lst (asD w), .non]) (by show (D.lfs (asD w) && true) = true; rw [lfs_asD]; rfl) ?_ rfl
  unfold b_leader
  show sSeq _ _ [ordD n lt, .lst (asD w), .non, .non] = _
  refine st_nx (ρ' := [ordD n lt, .lst (asD w), .non, .non]) (by simp_arith [g]) ?_
  walk_at "ev"
end
def say (k : Str) (x : Int) : D := .tup [.str k, .int x]
theorem said12 (x : Int) : den__law_said_v5 (.ex 12 [.int x]) = some (say "downset" x) := by unfold say; kernel_rfl
theorem said10 (x : Int) : den__law_said_v5 (.ex 10 [.int x]) = some (say "thing" x) := by unfold say; kernel_rfl
theorem said15 : den__law_said_v5 (.ex 15 []) = some (say "line" 0) := by unfold say; kernel_rfl
theorem said13 (x : Int) : den__law_said_v5 (.ex 13 [.int x]) = some (say "place" x) := by unfold say; kernel_rfl
end R38

section
variable {n : Nat} {lt : Nat → Nat → Bool} (P : PO n lt)
end
section
variable {n : Nat} {lt : Nat → Nat → Bool} (P : PO n lt)
end

section
variable {n : Nat} {lt : Nat → Nat → Bool} (P : PO n lt)
end

section
variable {n : Nat} {lt : Nat → Nat → Bool} (P : PO n lt)
end

section
variable {n : Nat} {lt : Nat → Nat → Bool}
end
section
variable {n : Nat} {lt : Nat → Nat → Bool} (P : PO n lt)
end

namespace R38
theorem lamv {φ : Res → Option D} {f : XF} {ρ : List D} {r : Res} {R : Option D} (h : f ρ = some r) (h2 : φ r = R) : eLam φ f ρ = R := by unfold eLam; rw [h]; exact h2
theorem xcallv {φ : List D → Option Res} {fs : List D → Option (List D)} {ρ ds : List D} {R : Option Res} (h : fs ρ = some ds) (h2 : φ ds = R) : xCall φ fs ρ = R := by unfold xCall; rw [h]; exact h2
theorem clov {i : Nat} {φ : List D → Option D} {fa fb : EF} {ρ : List D} {x y d : D} (h1 : fa ρ = some x) (h2 : fb ρ = some y) (h3 : φ [x, y] = some d) : sClo i φ fa fb ρ = some (.nx (ρ.set i d)) := by
  unfold sClo; rw [h1, Option.bind_some, h2, Option.bind_some, h3]; rfl
theorem xclov {i : Nat} {φ : List D → Option Res} {fs : List D → Option (List D)} {ρ ds wds : List D} {R : Option Res} (h : fs ρ = some ds) (hi : ρ[i]? = some (.tup wds)) (h2 : φ (ds ++ wds) = R) : xClo i φ fs ρ = R := by
  unfold xClo; rw [h, Option.bind_some, hi]; exact h2
section
variable {n : Nat} {lt : Nat → Nat → Bool} (P : PO n lt)
theorem nl_bad {W : List Int} (h : BadW n lt W) : den_needs_line_X [ordD n lt, tupI W] = some (.ex 15 []) := by
  have hlf : (true && (D.lfs (W.map D.int) && true)) = true := by rw [lfs_intsX]; rfl
  refine fnX_ex (ρ := [ordD n lt, tupI W]) hlf ?_
  unfold b_needs_line_X
  have h2 : den_is_line [ordD n lt, tupI W] = some (.bl false) := h.2
  refine (if_t ?_).trans rfl
  generalize tupI W = V at *
  generalize ordD n lt = O at *
  simp_arith [h2]
def wrE (i j : Nat) (e : EF) : EF := e2 gIx (eLst (aCons e (aCons (e2 gSbI (eK (.int 0)) (eK (.int 1))) (aCons (e2 gAdd (eV i) (e2 gMod (eV j) (e2 gPow (eK (.int 10)) (eK (.int 20))))) (aCons (e2 gSbI (e2 gSbI (eK (.int 0)) (eK (.int 1))) (e2 gMod (eV j) (e2 gPow (eK (.int 10)) (eK (.int 20))))) aNil))))) (e2 gMod (e2 gDiv (eV j) (eK (.int 3))) (eK (.int 4)))
theorem wr_go {i j : Nat} {e : EF} {ρ : List D} {m a c : Int} (hi : ρ[i]? = some (.int m)) (hj : ρ[j]? = some (.int c)) (he : e ρ = some (.int a)) : ∃ w, w ∈ [a, -1, m + c % 100000000000000000000, -1 - c % 100000000000000000000] ∧ wrE i j e ρ = some (.int w) := by
  obtain ⟨w, hw, ha⟩ := atI_modI (l := [a, -1, m + c % 100000000000000000000, -1 - c % 100000000000000000000]) (by simp) (c / 3)
  refine ⟨w, hw, ?_⟩
  unfold wrE
  have hvi : eV i ρ = some (.int m) := hi
  have hvj : eV j ρ = some (.int c) := hj
  have hm : (e2 gMod (eV j) (e2 gPow (eK (.int 10)) (eK (.int 20)))) ρ = some (.int (c % 100000000000000000000)) := (e2v hvj (y := .int 100000000000000000000) (by kernel_rfl)).trans rfl
  refine (e2v (x := .lst ([a, -1, m + c % 100000000000000000000, -1 - c % 100000000000000000000].map D.int)) (y := .int (c / 3 % 4)) ?_ ?_).trans ha
  · exact lstv (consv he (consv rfl (consv ((e2v hvi hm).trans rfl) (consv ((e2v (x := .int (-1)) rfl hm).trans rfl) rfl)))) (by simp)
  · exact (e2v ((e2v hvj (y := .int 3) rfl).trans rfl) (y := .int 4) rfl).trans rfl
theorem mod_nat {n : Nat} (hn : 1 ≤ n) (c : Int) : ∃ p : Nat, p < n ∧ c % (n : Int) = (p : Int) := by
  have h1 := Int.emod_nonneg c (show (n : Int) ≠ 0 by omega)
  have h2 := Int.emod_lt_of_pos c (show (0 : Int) < (n : Int) by omega)
  exact ⟨(c % (n : Int)).toNat, by omega, by omega⟩
theorem gMod_n {n : Nat} (hn : 1 ≤ n) (c : Int) : gMod (.int c) (nD n) = some (.int (c % (n : Int))) := by
  show (if (0 : Int) < (n : Int) then some (D.int (c % (n : Int))) else none) = _
  rw [if_pos (by omega)]
include P in
theorem of_downsets {b : Nat} {x : Int} (hn1 : 1 ≤ n) (hb : isDown n lt b = true) (hx : NoDn n lt x) (c : Int) : den__law_of_downsets [ordD n lt, nD b, .int x, nD n, .int c] = some (.bl true) := by
  have k2 := Int.emod_nonneg c (show (100000000000000000000 : Int) ≠ 0 by decide)
  obtain ⟨w, hw, hwr⟩ := wr_go (i := 3) (j := 4) (e := eV 3) (ρ := [ordD n lt, nD b, .int x, nD n, .int c, .non, .non, .non, .non, .non]) (m := n) (a := n) (c := c) rfl rfl rfl
  have hB : BadT n w := by
    unfold BadT
    simp only [List.mem_cons, List.not_mem_nil, or_false] at hw
    rcases hw with rfl | rfl | rfl | rfl <;> omega
  obtain ⟨p, hp, hpe⟩ := mod_nat hn1 (c / 50)
  have pOk : ∀ y ∈ [(p : Int)], ¬ BadT n y := fun y hy => by rw [List.mem_singleton] at hy; subst hy; unfold BadT; omega
  have hxl : (D.int x).lf = true := rfl
  have hbl : (nD b).lf = true := rfl
  have d1 := needs_down_bad P hx
  have d2 := needs_down_good P hb
  have t1 := things_bad (lt := lt) hB (pre := []) (post := []) (fun _ h => by cases h)
  have t2 := things_bad (lt := lt) hB (pre := [(p : Int)]) (post := [(n : Int) + 1]) pOk
  have a1 := toggled_ex (x := w) hxl (walked_no hxl d1)
  have a2 := walked_no (W := [(p : Int)] ++ w :: [(n : Int) + 1]) hxl d1
  have a3 := toggled_ex (x := w) hbl (walked_ex hbl d2 t1)
  have a4 := walked_ex hbl d2 t2
  have a5 := walker_ex t2
  have a6 := walker_eq (n := n) (lt := lt) (w := [p]) (fun t ht => by rw [List.mem_singleton] at ht; omega)
  have a7 := walk_ex hxl (walked_no (W := [(p : Int)]) hxl d1)
  have sx := said12 x
  have sw := said10 w
  have hr : gEqD (.lst [say "downset" x, say "downset" x, say "thing" w, say "thing" w, say "thing" w, say "downset" x]) (.lst [say "downset" x, say "downset" x, say "thing" w, say "thing" w, say "thing" w, say "downset" x]) = some (.bl true) := gEqD_refl (by unfold say; kernel_rfl)
  have hword : ∀ z : D, (eLst (aCons (e2 gMod (e2 gDiv (eV 4) (eK (.int 50))) (eV 3)) (aCons (eV 5) (aCons (e2 gAdd (eV 3) (eK (.int 1))) aNil)))) [ordD n lt, nD b, .int x, nD n, .int c, .int w, .non, .non, .non, z] = some (.lst [nD p, .int w, .int ((n : Int) + 1)]) := fun z => by
    refine lstv (consv ?_ (consv rfl (consv rfl rfl))) (by simp)
    refine (e2v (x := .int (c / 50)) (y := nD n) rfl rfl).trans ?_
    rw [gMod_n hn1, hpe]
  have hdue : ∀ w1 w2 : D, (eLst (aCons (eTup (aCons (eK (.str "downset")) (aCons (eV 2) aNil))) (aCons (eTup (aCons (eK (.str "downset")) (aCons (eV 2) aNil))) (aCons (eTup (aCons (eK (.str "thing")) (aCons (eV 5) aNil))) (aCons (eTup (aCons (eK (.str "thing")) (aCons (eV 5) aNil))) (aCons (eTup (aCons (eK (.str "thing")) (aCons (eV 5) aNil))) (aCons (eTup (aCons (eK (.str "downset")) (aCons (eV 2) aNil))) aNil))))))) [ordD n lt, nD b, .int x, nD n, .int c, .int w, w1, .non, .non, w2] = some (.lst [say "downset" x, say "downset" x, say "thing" w, say "thing" w, say "thing" w, say "downset" x]) := fun w1 w2 => rfl
  refine fnD_rt rfl ?_
  unfold b__law_of_downsets
  show sSeq _ _ [ordD n lt, nD b, .int x, nD n, .int c, .non, .non, .non, .non, .non] = _
  generalize ordD n lt = O at *
  refine st_nx (ρ' := [O, nD b, .int x, nD n, .int c, .int w, .non, .non, .non, .non]) (setv hwr) ?_
  refine st_nx (ρ' := [O, nD b, .int x, nD n, .int c, .int w, .lst [nD p, .int w, .int ((n : Int) + 1)], .non, .non, .non]) (setv (hword .non)) ?_
  generalize say "downset" x = A at *
  generalize say "thing" w = B at *
  refine st_nx (ρ' := [O, nD b, .int x, nD n, .int c, .int w, .lst [nD p, .int w, .int ((n : Int) + 1)], .lst [A, A, B, B, B, A], .non, .non]) (setv (hdue _ _)) ?_
  refine st_nx (ρ' := [O, nD b, .int x, nD n, .int c, .int w, .lst [nD p, .int w, .int ((n : Int) + 1)], .lst [A, A, B, B, B, A], .lst [A], .non]) (setv (lstv (consv (lamv (xcallv rfl a1) sx) rfl) (by simp))) ?_
  refine st_nx (ρ' := [O, nD b, .int x, nD n, .int c, .int w, .lst [nD p, .int w, .int ((n : Int) + 1)], .lst [A, A, B, B, B, A], .lst [A, A], .non]) (appv (ds := [A]) rfl (lamv (xcallv rfl a2) sx) (by simp)) ?_
  refine st_nx (ρ' := [O, nD b, .int x, nD n, .int c, .int w, .lst [nD p, .int w, .int ((n : Int) + 1)], .lst [A, A, B, B, B, A], .lst [A, A, B], .non]) (appv (ds := [A, A]) rfl (lamv (xcallv rfl a3) sw) (by simp)) ?_
  refine st_nx (ρ' := [O, nD b, .int x, nD n, .int c, .int w, .lst [nD p, .int w, .int ((n : Int) + 1)], .lst [A, A, B, B, B, A], .lst [A, A, B, B], .non]) (appv (ds := [A, A, B]) rfl (lamv (xcallv rfl a4) sw) (by simp)) ?_
  refine st_nx (ρ' := [O, nD b, .int x, nD n, .int c, .int w, .lst [nD p, .int w, .int ((n : Int) + 1)], .lst [A, A, B, B, B, A], .lst [A, A, B, B, B], .non]) (appv (ds := [A, A, B, B]) rfl (lamv (xcallv rfl a5) sw) (by simp)) ?_
  refine st_nx (ρ' := [O, nD b, .int x, nD n, .int c, .int w, .lst [nD p, .int w, .int ((n : Int) + 1)], .lst [A, A, B, B, B, A], .lst [A, A, B, B, B], .tup [O, .lst [nD p]]]) (clov rfl (y := .lst [nD p]) rfl a6) ?_
  refine st_nx (ρ' := [O, nD b, .int x, nD n, .int c, .int w, .lst [nD p, .int w, .int ((n : Int) + 1)], .lst [A, A, B, B, B, A], .lst [A, A, B, B, B, A], .tup [O, .lst [nD p]]]) (appv (ds := [A, A, B, B, B]) rfl (lamv (xclov rfl rfl a7) sx) (by simp)) ?_
  exact retv ((e2v rfl rfl).trans hr)
theorem chkL {L : List Nat} {W : List Int} (c : Int) : chks [PKn.U, PKn.A, PKn.A, PKn.A] [ordD n lt, .tup (asD L), tupI W, .int c] = true := by
  show (true && (D.lfs (asD L) && (D.lfs (W.map D.int) && (true && true)))) = true
  rw [lfs_asD, lfs_intsX]; rfl
theorem word_go {O TL TW : D} {c w : Int} (hn1 : 1 ≤ n) : ∃ pre : List Nat, (∀ t ∈ pre, t + 1 < n) ∧ pre.length ≤ 1 ∧ (sIf (t2b (e2 gGt (eV 4) (eK (.int 1)))) (sSet 6 (e2 gCat (eLst (aCons (e2 gMod (e2 gDiv (eV 3) (eK (.int 50))) (e2 gSbI (eV 4) (eK (.int 1)))) aNil)) (eV 6))) sNil) [O, TL, TW, .int c, nD n, .int w, .lst [.int w, .int ((n : Int) + 3)], .non, .non, .non] =
      some (.nx [O, TL, TW, .int c, nD n, .int w, .lst (((pre.map fun (t : Nat) => (t : Int)) ++ w :: [(n : Int) + 3]).map D.int), .non, .non, .non]) := by
  by_cases h1 : 1 < n
  · obtain ⟨p, hp, hpe⟩ := mod_nat (n := n - 1) (by omega) (c / 50)
    have hn' : ((n : Int) - 1) = ((n - 1 : Nat) : Int) := by omega
    refine ⟨[p], (fun t ht => by rw [List.mem_singleton] at ht; omega), (by simp), ?_⟩
    refine (if_t ?_).trans ?_
    · show some (decide ((1 : Int) < (n : Int))) = _
      rw [decide_eq_true (by omega)]
    · have h6 : (eLst (aCons (e2 gMod (e2 gDiv (eV 3) (eK (.int 50))) (e2 gSbI (eV 4) (eK (.int 1)))) aNil)) [O, TL, TW, .int c, nD n, .int w, .lst [.int w, .int ((n : Int) + 3)], .non, .non, .non] = some (.lst [nD p]) := by
        refine lstv (consv ?_ rfl) (by simp)
        have h7 : (e2 gSbI (eV 4) (eK (.int 1))) [O, TL, TW, .int c, nD n, .int w, .lst [.int w, .int ((n : Int) + 3)], .non, .non, .non] = some (nD (n - 1)) := by
          show some (D.int ((n : Int) - 1)) = _
          rw [hn']
        refine (e2v (x := .int (c / 50)) (y := nD (n - 1)) rfl h7).trans ?_
        rw [gMod_n (by omega), hpe]
      have h8 : (e2 gCat (eLst (aCons (e2 gMod (e2 gDiv (eV 3) (eK (.int 50))) (e2 gSbI (eV 4) (eK (.int 1)))) aNil)) (eV 6)) [O, TL, TW, .int c, nD n, .int w, .lst [.int w, .int ((n : Int) + 3)], .non, .non, .non] = some (.lst [nD p, .int w, .int ((n : Int) + 3)]) := by
        refine (e2v h6 (y := .lst [.int w, .int ((n : Int) + 3)]) rfl).trans ?_
        show (if [nD p].length + [D.int w, D.int ((n : Int) + 3)].length ≤ 1000000 then some (D.lst ([nD p] ++ [D.int w, D.int ((n : Int) + 3)])) else none) = _
        rw [if_pos (by simp)]; rfl
      exact (setv h8).trans rfl
  · refine ⟨[], (fun t ht => by cases ht), (by simp), (if_f ?_).trans rfl⟩
    show some (decide ((1 : Int) < (n : Int))) = _
    rw [decide_eq_false (by omega)]
include P in
theorem of_lines {L : List Nat} {W : List Int} (hn1 : 1 ≤ n) (hL : IsL n lt L) (hW : BadW n lt W) (c : Int) : den__law_of_lines_v2 [ordD n lt, .tup (asD L), tupI W, .int c] = some (.bl true) := by
  have k2 := Int.emod_nonneg c (show (100000000000000000000 : Int) ≠ 0 by decide)
  obtain ⟨w, hw, hwr⟩ := wr_go (i := 4) (j := 3) (e := e2 gSbI (eV 4) (eK (.int 1))) (ρ := [ordD n lt, .tup (asD L), tupI W, .int c, nD n, .non, .non, .non, .non, .non]) (m := n) (a := (n : Int) - 1) (c := c) rfl rfl rfl
  have hB : BadP n w := by
    unfold BadP
    simp only [List.mem_cons, List.not_mem_nil, or_false] at hw
    rcases hw with rfl | rfl | rfl | rfl <;> omega
  obtain ⟨pre, hpre, hlen, hword⟩ := word_go (O := ordD n lt) (TL := .tup (asD L)) (TW := tupI W) (c := c) (w := w) hn1
  have pOk : ∀ y ∈ pre.map (fun (t : Nat) => (t : Int)), ¬ BadP n y := fun y hy => by
    obtain ⟨t, ht, rfl⟩ := List.mem_map.mp hy
    have := hpre t ht
    unfold BadP; omega
  have ee1 : (pre.map (fun (t : Nat) => (t : Int))).map D.int = asD pre := by
    match pre, hlen with
    | [], _ => rfl
    | [p], _ => rfl
  have hsl : ∀ a b : D, (eSl gSlL (eV 6) oNo (oYes (e1 gNeg (eK (.int 2))))) [ordD n lt, .tup (asD L), tupI W, .int c, nD n, .int w, .lst (((pre.map fun (t : Nat) => (t : Int)) ++ w :: [(n : Int) + 3]).map D.int), a, b, .non] = some (.lst (asD pre)) := fun a b => by
    match pre, hlen with
    | [], _ => rfl
    | [p], _ => rfl
  have hWl : (tupI W).lf = true := by show D.lfs (W.map D.int) = true; exact lfs_intsX W
  have hLl : (D.tup (asD L)).lf = true := by show D.lfs (asD L) = true; exact lfs_asD L
  have d1 := nl_bad hW
  have d2 : den_needs_line_X [ordD n lt, .tup (asD L)] = some (.rt .non) := xle_needs_line _ _ (needs_line_eq P hL)
  have t1 := places_bad (lt := lt) hB (pre := []) (post := []) (fun _ h => by cases h)
  have t2 := places_bad (lt := lt) hB (pre := pre.map (fun (t : Nat) => (t : Int))) (post := [(n : Int) + 3]) pOk
  have a1 := swapped_ex (x := w) hWl (led_no hWl d1)
  have a2 := led_no (W := pre.map (fun (t : Nat) => (t : Int)) ++ w :: [(n : Int) + 3]) hWl d1
  have a3 := swapped_ex (x := w) hLl (led_ex hLl d2 t1)
  have a4 := led_ex hLl d2 t2
  have a5 := leader_ex t2
  have a6 := leader_eq (n := n) (lt := lt) hpre
  have a7 := lead_ex hWl (led_no (W := pre.map (fun (t : Nat) => (t : Int))) hWl d1)
  rw [ee1] at a7
  have sx := said15
  have sw := said13 w
  have hr : gEqD (.lst [say "line" 0, say "line" 0, say "place" w, say "place" w, say "place" w, say "line" 0]) (.lst [say "line" 0, say "line" 0, say "place" w, say "place" w, say "place" w, say "line" 0]) = some (.bl true) := gEqD_refl (by unfold say; kernel_rfl)
  have hdue : ∀ O TL TW w1 w2 : D, (eLst (aCons (eTup (aCons (eK (.str "line")) (aCons (eK (.int 0)) aNil))) (aCons (eTup (aCons (eK (.str "line")) (aCons (eK (.int 0)) aNil))) (aCons (eTup (aCons (eK (.str "place")) (aCons (eV 5) aNil))) (aCons (eTup (aCons (eK (.str "place")) (aCons (eV 5) aNil))) (aCons (eTup (aCons (eK (.str "place")) (aCons (eV 5) aNil))) (aCons (eTup (aCons (eK (.str "line")) (aCons (eK (.int 0)) aNil))) aNil))))))) [O, TL, TW, .int c, nD n, .int w, w1, .non, .non, w2] = some (.lst [say "line" 0, say "line" 0, say "place" w, say "place" w, say "place" w, say "line" 0]) := fun O TL TW w1 w2 => rfl
  have hlenD : gLen (.tup (asD L)) = some (nD n) := by
    show some (D.int ((asD L).length : Nat)) = _
    rw [asD_len, hL.len]
  refine fnD_rt (chkL c) ?_
  unfold b__law_of_lines_v2
  show sSeq _ _ [ordD n lt, .tup (asD L), tupI W, .int c, .non, .non, .non, .non, .non, .non] = _
  generalize ordD n lt = O at *
  generalize D.tup (asD L) = TL at *
  generalize tupI W = TW at *
  generalize D.lst (((pre.map fun (t : Nat) => (t : Int)) ++ w :: [(n : Int) + 3]).map D.int) = WD at *
  generalize D.lst (asD pre) = PD at *
  refine st_nx (ρ' := [O, TL, TW, .int c, nD n, .non, .non, .non, .non, .non]) (setv hlenD) ?_
  refine st_nx (ρ' := [O, TL, TW, .int c, nD n, .int w, .non, .non, .non, .non]) (setv hwr) ?_
  refine st_nx (ρ' := [O, TL, TW, .int c, nD n, .int w, .lst [.int w, .int ((n : Int) + 3)], .non, .non, .non]) (setv (lstv (consv rfl (consv rfl rfl)) (by simp))) ?_
  refine st_nx (ρ' := [O, TL, TW, .int c, nD n, .int w, WD, .non, .non, .non]) hword ?_
  generalize say "line" 0 = A at *
  generalize say "place" w = B at *
  refine st_nx (ρ' := [O, TL, TW, .int c, nD n, .int w, WD, .lst [A, A, B, B, B, A], .non, .non]) (setv (hdue _ _ _ _ _)) ?_
  refine st_nx (ρ' := [O, TL, TW, .int c, nD n, .int w, WD, .lst [A, A, B, B, B, A], .lst [A], .non]) (setv (lstv (consv (lamv (xcallv rfl a1) sx) rfl) (by simp))) ?_
  refine st_nx (ρ' := [O, TL, TW, .int c, nD n, .int w, WD, .lst [A, A, B, B, B, A], .lst [A, A], .non]) (appv (ds := [A]) rfl (lamv (xcallv rfl a2) sx) (by simp)) ?_
  refine st_nx (ρ' := [O, TL, TW, .int c, nD n, .int w, WD, .lst [A, A, B, B, B, A], .lst [A, A, B], .non]) (appv (ds := [A, A]) rfl (lamv (xcallv rfl a3) sw) (by simp)) ?_
  refine st_nx (ρ' := [O, TL, TW, .int c, nD n, .int w, WD, .lst [A, A, B, B, B, A], .lst [A, A, B, B], .non]) (appv (ds := [A, A, B]) rfl (lamv (xcallv rfl a4) sw) (by simp)) ?_
  refine st_nx (ρ' := [O, TL, TW, .int c, nD n, .int w, WD, .lst [A, A, B, B, B, A], .lst [A, A, B, B, B], .non]) (appv (ds := [A, A, B, B]) rfl (lamv (xcallv rfl a5) sw) (by simp)) ?_
  refine st_nx (ρ' := [O, TL, TW, .int c, nD n, .int w, WD, .lst [A, A, B, B, B, A], .lst [A, A, B, B, B], .tup [O, PD]]) (clov rfl (y := PD) (hsl _ _) a6) ?_
  refine st_nx (ρ' := [O, TL, TW, .int c, nD n, .int w, WD, .lst [A, A, B, B, B, A], .lst [A, A, B, B, B, A], .tup [O, PD]]) (appv (ds := [A, A, B, B, B]) rfl (lamv (xclov rfl rfl a7) sx) (by simp)) ?_
  exact retv ((e2v rfl rfl).trans hr)
end
end R38

def topS (i : Nat) : Stmt := PySem.Challenge.pw_toggleclock_k38_toggles_refused.main.body.getD i (.Pass ⟨0, 0, 0, 0⟩)
def fn_Order : List Str := ["kept_many", "kept_lows"]
theorem fl_Order : fn_Order.length ≤ 100 := by decide +kernel
theorem fd_Order : fn_Order.Nodup := by decide +kernel
def fn_NoLine : List Str := []
def fn_NoPlace : List Str := ["place"]
theorem fd_NoPlace : fn_NoPlace.Nodup := by decide +kernel
def fn_NoDownset : List Str := ["bits"]
theorem fd_NoDownset : fn_NoDownset.Nodup := by decide +kernel
def fn_NoThing : List Str := ["thing"]
theorem fd_NoThing : fn_NoThing.Nodup := by decide +kernel
theorem no_Order_size : ("size" : Str) ∉ fn_Order := by decide +kernel
theorem no_Order_lows_of : ("lows_of" : Str) ∉ fn_Order := by decide +kernel
theorem no_Order_needs_thing : ("needs_thing" : Str) ∉ fn_Order := by decide +kernel
theorem no_Order_below : ("below" : Str) ∉ fn_Order := by decide +kernel
abbrev nst_walker : Stmt := (defBody (topS 38)).getD 2 (.Pass ⟨0, 0, 0, 0⟩)
abbrev nst_leader : Stmt := (defBody (topS 41)).getD 2 (.Pass ⟨0, 0, 0, 0⟩)
def tb (a_Order : Addr) (a_NoLine : Addr) (a_NoPlace : Addr) (a_NoDownset : Addr) (a_NoThing : Addr) (P_walker : Addr) (P__law_of_downsets : Addr) (P_leader : Addr) (P__law_of_lines : Addr) : Tb := ⟨fun c => match c with
  | 0 => (a_Order, fn_Order)
  | 15 => (a_NoLine, fn_NoLine)
  | 13 => (a_NoPlace, fn_NoPlace)
  | 12 => (a_NoDownset, fn_NoDownset)
  | 10 => (a_NoThing, fn_NoThing)
  | _ => (0, []), [(P_walker, ("walker" : Str) ++ ".<locals>." ++ "walk"), (P__law_of_downsets, ("_law_of_downsets" : Str) ++ ".<locals>." ++ "<lambda>"), (P_leader, ("leader" : Str) ++ ".<locals>." ++ "lead"), (P__law_of_lines, ("_law_of_lines" : Str) ++ ".<locals>." ++ "<lambda>")], fun k => match k with | 0 => ⟨nst_walker, "walk", ("walker" : Str) ++ ".<locals>." ++ "walk", ["order", "things"]⟩ | 1 => ⟨nst_leader, "lead", ("leader" : Str) ++ ".<locals>." ++ "lead", ["order", "places"]⟩ | _ => ⟨.Pass ⟨0, 0, 0, 0⟩, "", "", []⟩, true, fun _ => cusDeed⟩
abbrev nm__law_raw : List Str := ["_law_script", "_law_k"]
theorem sc__law_raw : FnScope nm__law_raw ["_law_script", "_law_k"] (defScope (topS 44)) := ⟨rfl, rfl, rfl, by decide +kernel, rfl, by decide +kernel, by decide +kernel⟩
abbrev nm__law_any : List Str := ["_law_script", "_law_most", "_law_many", "_law_cell", "_law_pairs", "_law_high", "_law_low"]
theorem sc__law_any : FnScope nm__law_any ["_law_script", "_law_most"] (defScope (topS 46)) := ⟨rfl, rfl, rfl, by decide +kernel, rfl, by decide +kernel, by decide +kernel⟩
abbrev nm__law_cell_at : List Str := ["_law_script", "_law_k", "_law_cell", "_law_low"]
theorem sc__law_cell_at : FnScope nm__law_cell_at ["_law_script", "_law_k"] (defScope (topS 43)) := ⟨rfl, rfl, rfl, by decide +kernel, rfl, by decide +kernel, by decide +kernel⟩
abbrev nm__law_field : List Str := ["_law_first", "_law_most", "_law_rows", "_law_columns", "_law_pairs", "_law_thing"]
theorem sc__law_field : FnScope nm__law_field ["_law_first", "_law_most"] (defScope (topS 47)) := ⟨rfl, rfl, rfl, by decide +kernel, rfl, by decide +kernel, by decide +kernel⟩
abbrev nm__law_drawn : List Str := ["_law_script", "_law_most", "_law_first", "_law_many", "_law_way", "_law_pairs", "_law_k", "_law_cell", "_law_low", "_law_thing"]
theorem sc__law_drawn : FnScope nm__law_drawn ["_law_script", "_law_most"] (defScope (topS 48)) := ⟨rfl, rfl, rfl, by decide +kernel, rfl, by decide +kernel, by decide +kernel⟩
abbrev nm__law_under : List Str := ["_law_many", "_law_pairs", "_law_under_here", "_law_high", "_law_found", "_law_low", "_law_top"]
theorem sc__law_under : FnScope nm__law_under ["_law_many", "_law_pairs"] (defScope (topS 49)) := ⟨rfl, rfl, rfl, by decide +kernel, rfl, by decide +kernel, by decide +kernel⟩
abbrev nm_bit_of : List Str := ["thing"]
theorem sc_bit_of : FnScope nm_bit_of ["thing"] (defScope (topS 18)) := ⟨rfl, rfl, rfl, by decide +kernel, rfl, by decide +kernel, by decide +kernel⟩
abbrev nm_Order_init : List Str := ["self", "many", "pairs", "thing", "low", "high", "lows"]
theorem sc_Order_init : FnScope nm_Order_init ["self", "many", "pairs"] (defScope (inClass (topS 19) 0)) := ⟨rfl, rfl, rfl, by decide +kernel, rfl, by decide +kernel, by decide +kernel⟩
abbrev nm__law_line : List Str := ["_law_under_here", "_law_script", "_law_at", "_law_line_here", "_law_cell", "_law_free_here", "_law_thing", "_law_low"]
theorem sc__law_line : FnScope nm__law_line ["_law_under_here", "_law_script", "_law_at"] (defScope (topS 51)) := ⟨rfl, rfl, rfl, by decide +kernel, rfl, by decide +kernel, by decide +kernel⟩
abbrev nm__law_bits : List Str := ["_law_things", "_law_total", "_law_thing", "_law_bit", "_law_k"]
theorem sc__law_bits : FnScope nm__law_bits ["_law_things"] (defScope (topS 50)) := ⟨rfl, rfl, rfl, by decide +kernel, rfl, by decide +kernel, by decide +kernel⟩
abbrev nm__law_no_downset : List Str := ["_law_under_here", "_law_cell", "_law_many", "_law_whole", "_law_some", "_law_thing"]
theorem sc__law_no_downset : FnScope nm__law_no_downset ["_law_under_here", "_law_cell"] (defScope (topS 55)) := ⟨rfl, rfl, rfl, by decide +kernel, rfl, by decide +kernel, by decide +kernel⟩
abbrev nm__law_free : List Str := ["_law_script", "_law_k"]
theorem sc__law_free : FnScope nm__law_free ["_law_script", "_law_k"] (defScope (topS 45)) := ⟨rfl, rfl, rfl, by decide +kernel, rfl, by decide +kernel, by decide +kernel⟩
abbrev nm__law_others : List Str := ["_law_e"]
theorem sc__law_others : FnScope nm__law_others ["_law_e"] (defScope (topS 52)) := ⟨rfl, rfl, rfl, by decide +kernel, rfl, by decide +kernel, by decide +kernel⟩
abbrev nm__law_kinds : List Str := ["_law_e", "_law_kinds_here", "_law_kind"]
theorem sc__law_kinds : FnScope nm__law_kinds ["_law_e"] (defScope (topS 53)) := ⟨rfl, rfl, rfl, by decide +kernel, rfl, by decide +kernel, by decide +kernel⟩
abbrev nm__law_said : List Str := ["_law_deed", "_law_told", "_law_e"]
theorem sc__law_said : FnScope nm__law_said ["_law_deed"] (defScope (topS 54)) := ⟨rfl, rfl, rfl, by decide +kernel, rfl, by decide +kernel, by decide +kernel⟩
abbrev nm_Order_size : List Str := ["self"]
theorem sc_Order_size : FnScope nm_Order_size ["self"] (defScope (inClass (topS 19) 1)) := ⟨rfl, rfl, rfl, by decide +kernel, rfl, by decide +kernel, by decide +kernel⟩
abbrev nm_things_of : List Str := ["bits", "thing"]
theorem sc_things_of : FnScope nm_things_of ["bits"] (defScope (topS 21)) := ⟨rfl, rfl, rfl, by decide +kernel, rfl, by decide +kernel, by decide +kernel⟩
abbrev nm_Order_lows_of : List Str := ["self", "thing"]
theorem sc_Order_lows_of : FnScope nm_Order_lows_of ["self", "thing"] (defScope (inClass (topS 19) 3)) := ⟨rfl, rfl, rfl, by decide +kernel, rfl, by decide +kernel, by decide +kernel⟩
abbrev nm_has_lows : List Str := ["order", "bits", "thing", "lows"]
theorem sc_has_lows : FnScope nm_has_lows ["order", "bits", "thing"] (defScope (topS 23)) := ⟨rfl, rfl, rfl, by decide +kernel, rfl, by decide +kernel, by decide +kernel⟩
abbrev nm_is_downset : List Str := ["order", "bits", "thing"]
theorem sc_is_downset : FnScope nm_is_downset ["order", "bits"] (defScope (topS 24)) := ⟨rfl, rfl, rfl, by decide +kernel, rfl, by decide +kernel, by decide +kernel⟩
abbrev nm_needs_downset_X : List Str := ["order", "bits"]
theorem sc_needs_downset_X : FnScope nm_needs_downset_X ["order", "bits"] (defScope (topS 25)) := ⟨rfl, rfl, rfl, by decide +kernel, rfl, by decide +kernel, by decide +kernel⟩
abbrev nm_needs_things_X : List Str := ["order", "word", "thing"]
theorem sc_needs_things_X : FnScope nm_needs_things_X ["order", "word"] (defScope (topS 32)) := ⟨rfl, rfl, rfl, by decide +kernel, rfl, by decide +kernel, by decide +kernel⟩
abbrev nm_set_of : List Str := ["things", "bits", "thing"]
theorem sc_set_of : FnScope nm_set_of ["things"] (defScope (topS 22)) := ⟨rfl, rfl, rfl, by decide +kernel, rfl, by decide +kernel, by decide +kernel⟩
abbrev nm_needs_downset : List Str := ["order", "bits"]
theorem sc_needs_downset : FnScope nm_needs_downset ["order", "bits"] (defScope (topS 25)) := ⟨rfl, rfl, rfl, by decide +kernel, rfl, by decide +kernel, by decide +kernel⟩
abbrev nm_brim : List Str := ["order", "bits", "under", "thing"]
theorem sc_brim : FnScope nm_brim ["order", "bits"] (defScope (topS 26)) := ⟨rfl, rfl, rfl, by decide +kernel, rfl, by decide +kernel, by decide +kernel⟩
abbrev nm_doors : List Str := ["order", "bits", "found", "thing"]
theorem sc_doors : FnScope nm_doors ["order", "bits"] (defScope (topS 27)) := ⟨rfl, rfl, rfl, by decide +kernel, rfl, by decide +kernel, by decide +kernel⟩
abbrev nm_put_or_taken : List Str := ["order", "bits", "thing", "bit"]
theorem sc_put_or_taken : FnScope nm_put_or_taken ["order", "bits", "thing"] (defScope (topS 34)) := ⟨rfl, rfl, rfl, by decide +kernel, rfl, by decide +kernel, by decide +kernel⟩
abbrev nm_walked_X : List Str := ["order", "bits", "word", "thing"]
theorem sc_walked_X : FnScope nm_walked_X ["order", "bits", "word"] (defScope (topS 37)) := ⟨rfl, rfl, rfl, by decide +kernel, rfl, by decide +kernel, by decide +kernel⟩
abbrev nm_toggled_X : List Str := ["order", "bits", "thing"]
theorem sc_toggled_X : FnScope nm_toggled_X ["order", "bits", "thing"] (defScope (topS 36)) := ⟨rfl, rfl, rfl, by decide +kernel, rfl, by decide +kernel, by decide +kernel⟩
abbrev nm_walker_X : List Str := ["order", "word", "things", "walk"]
theorem sc_walker_X : FnScope nm_walker_X ["order", "word"] (defScope (topS 38)) := ⟨rfl, rfl, rfl, by decide +kernel, rfl, by decide +kernel, by decide +kernel⟩
abbrev nm_needs_things : List Str := ["order", "word", "thing"]
theorem sc_needs_things : FnScope nm_needs_things ["order", "word"] (defScope (topS 32)) := ⟨rfl, rfl, rfl, by decide +kernel, rfl, by decide +kernel, by decide +kernel⟩
abbrev nm_walker : List Str := ["order", "word", "things", "walk"]
theorem sc_walker : FnScope nm_walker ["order", "word"] (defScope (topS 38)) := ⟨rfl, rfl, rfl, by decide +kernel, rfl, by decide +kernel, by decide +kernel⟩
abbrev nm_walker_walk_X : List Str := ["bits", "order", "things"]
theorem sc_walker_walk_X : NdefX.NScope nm_walker_walk_X ["bits"] ["order", "things"] (C8.fnScope nst_walker) := NdefX.nscope_by (by decide +kernel)
abbrev nm__law_of_downsets : List Str := ["_law_order", "_law_bits_here", "_law_bad", "_law_many", "_law_cell", "_law_wrong", "_law_word", "_law_due", "_law_found", "_law_walk"]
theorem sc__law_of_downsets : FnScope nm__law_of_downsets ["_law_order", "_law_bits_here", "_law_bad", "_law_many", "_law_cell"] (defScope (topS 57)) := ⟨rfl, rfl, rfl, by decide +kernel, rfl, by decide +kernel, by decide +kernel⟩
abbrev nm__law_bits_v2 : List Str := ["_law_things", "_law_total", "_law_thing", "_law_bit", "_law_k"]
theorem sc__law_bits_v2 : FnScope nm__law_bits_v2 ["_law_things"] (defScope (topS 50)) := ⟨rfl, rfl, rfl, by decide +kernel, rfl, by decide +kernel, by decide +kernel⟩
abbrev nm_Order_needs_thing : List Str := ["self", "thing"]
theorem sc_Order_needs_thing : FnScope nm_Order_needs_thing ["self", "thing"] (defScope (inClass (topS 19) 2)) := ⟨rfl, rfl, rfl, by decide +kernel, rfl, by decide +kernel, by decide +kernel⟩
abbrev nm_Order_below : List Str := ["self", "one", "other"]
theorem sc_Order_below : FnScope nm_Order_below ["self", "one", "other"] (defScope (inClass (topS 19) 4)) := ⟨rfl, rfl, rfl, by decide +kernel, rfl, by decide +kernel, by decide +kernel⟩
abbrev nm_is_line : List Str := ["order", "line", "at", "thing", "earlier"]
theorem sc_is_line : FnScope nm_is_line ["order", "line"] (defScope (topS 29)) := ⟨rfl, rfl, rfl, by decide +kernel, rfl, by decide +kernel, by decide +kernel⟩
abbrev nm_needs_line_X : List Str := ["order", "line"]
theorem sc_needs_line_X : FnScope nm_needs_line_X ["order", "line"] (defScope (topS 30)) := ⟨rfl, rfl, rfl, by decide +kernel, rfl, by decide +kernel, by decide +kernel⟩
abbrev nm_needs_places_X : List Str := ["order", "word", "place"]
theorem sc_needs_places_X : FnScope nm_needs_places_X ["order", "word"] (defScope (topS 33)) := ⟨rfl, rfl, rfl, by decide +kernel, rfl, by decide +kernel, by decide +kernel⟩
abbrev nm_exchanged : List Str := ["order", "line", "place", "one", "other"]
theorem sc_exchanged : FnScope nm_exchanged ["order", "line", "place"] (defScope (topS 35)) := ⟨rfl, rfl, rfl, by decide +kernel, rfl, by decide +kernel, by decide +kernel⟩
abbrev nm_led_X : List Str := ["order", "line", "word", "place"]
theorem sc_led_X : FnScope nm_led_X ["order", "line", "word"] (defScope (topS 40)) := ⟨rfl, rfl, rfl, by decide +kernel, rfl, by decide +kernel, by decide +kernel⟩
abbrev nm_swapped_X : List Str := ["order", "line", "place"]
theorem sc_swapped_X : FnScope nm_swapped_X ["order", "line", "place"] (defScope (topS 39)) := ⟨rfl, rfl, rfl, by decide +kernel, rfl, by decide +kernel, by decide +kernel⟩
abbrev nm_leader_X : List Str := ["order", "word", "places", "lead"]
theorem sc_leader_X : FnScope nm_leader_X ["order", "word"] (defScope (topS 41)) := ⟨rfl, rfl, rfl, by decide +kernel, rfl, by decide +kernel, by decide +kernel⟩
abbrev nm_needs_places : List Str := ["order", "word", "place"]
theorem sc_needs_places : FnScope nm_needs_places ["order", "word"] (defScope (topS 33)) := ⟨rfl, rfl, rfl, by decide +kernel, rfl, by decide +kernel, by decide +kernel⟩
abbrev nm_leader : List Str := ["order", "word", "places", "lead"]
theorem sc_leader : FnScope nm_leader ["order", "word"] (defScope (topS 41)) := ⟨rfl, rfl, rfl, by decide +kernel, rfl, by decide +kernel, by decide +kernel⟩
abbrev nm_leader_lead_X : List Str := ["line", "order", "places"]
theorem sc_leader_lead_X : NdefX.NScope nm_leader_lead_X ["line"] ["order", "places"] (C8.fnScope nst_leader) := NdefX.nscope_by (by decide +kernel)
abbrev nm__law_of_lines : List Str := ["_law_order", "_law_line_here", "_law_bad", "_law_cell", "_law_many", "_law_wrong", "_law_word", "_law_due", "_law_found", "_law_lead"]
theorem sc__law_of_lines : FnScope nm__law_of_lines ["_law_order", "_law_line_here", "_law_bad", "_law_cell"] (defScope (topS 58)) := ⟨rfl, rfl, rfl, by decide +kernel, rfl, by decide +kernel, by decide +kernel⟩
abbrev nm__law_no_line : List Str := ["_law_line_here", "_law_under_here", "_law_cell", "_law_many", "_law_some", "_law_thing", "_law_at"]
theorem sc__law_no_line : FnScope nm__law_no_line ["_law_line_here", "_law_under_here", "_law_cell"] (defScope (topS 56)) := ⟨rfl, rfl, rfl, by decide +kernel, rfl, by decide +kernel, by decide +kernel⟩
abbrev nm_law : List Str := ["_law_script", "_law_under_here", "_law_order", "_law_line_here", "_law_bad", "_law_many", "_law_pairs"]
theorem sc_law : FnScope nm_law ["_law_script"] (defScope (topS 59)) := ⟨rfl, rfl, rfl, by decide +kernel, rfl, by decide +kernel, by decide +kernel⟩
def b_law : SF := (sSeq (sTg (tgT [5, 6]) (eCall den__law_drawn_v2 (aCons (eV 0) (aCons (eK (.int 9)) aNil))))
 (sSeq (sSet 1 (eCall den__law_under (aCons (eV 5) (aCons (eV 6) aNil))))
 (sSeq (sSet 2 (eMake 0 den_Order_init (aCons (eV 5) (aCons (e1 gList (eV 6)) aNil))))
 (sSeq (sSet 3 (eCall den__law_line (aCons (eV 1) (aCons (eV 0) (aCons (eK (.int 26)) aNil)))))
 (sSeq (sSet 4 (eCall den__law_no_downset (aCons (eV 1) (aCons (eCall den__law_free (aCons (eV 0) (aCons (eK (.int 2)) aNil))) aNil))))
 (sSeq (sIf (bNot (t2b (eCall den__law_of_downsets (aCons (eV 2) (aCons (eCall den__law_bits_v3 (aCons (eSl gSlT (eZt 3) oNo (oYes (eK (.int 1)))) aNil)) (aCons (eV 4) (aCons (eV 5) (aCons (eCall den__law_free (aCons (eV 0) (aCons (eK (.int 3)) aNil))) aNil)))))))) (sRet (eK (.bl false))) sNil)
 (sRet (eCall den__law_of_lines_v2 (aCons (eV 2) (aCons (eZt 3) (aCons (eCall den__law_no_line (aCons (eZt 3) (aCons (eV 1) (aCons (eCall den__law_free (aCons (eV 0) (aCons (eK (.int 4)) aNil))) aNil)))) (aCons (eCall den__law_free (aCons (eV 0) (aCons (eK (.int 5)) aNil))) aNil))))))))))))
def den_law : List D → Option D := fnD [.U] 6 false b_law
theorem law_true : ∀ ns : List Int, ns.length ≤ 63 → den_law [.scr (ns.map .int)] = some (.bl true) := by
  intro ns _
  obtain ⟨n, ps, hn1, hn9, ok, hlen, hd⟩ := drawn2_ex ns
  have P := po_cl hn1 hn9 ok
  have hi := init_eq hn1 hn9 ok
  have hu := under_eq hn1 hn9 ok hlen
  obtain ⟨L, hL, hln⟩ := law_line_ex P ns 26
  have hln : den__law_line [.lst (undD n (cl ps)), .scr (ns.map .int), .int 26] = some (.tup (asD L)) := hln
  obtain ⟨c2, hc2⟩ := free_ex ns 2
  have hc2 : den__law_free [.scr (ns.map .int), .int 2] = some (.int c2) := hc2
  obtain ⟨x, hx, hbad⟩ := no_downset_ex P c2
  obtain ⟨c3, hc3⟩ := free_ex ns 3
  have hc3 : den__law_free [.scr (ns.map .int), .int 3] = some (.int c3) := hc3
  obtain ⟨c4, hc4⟩ := free_ex ns 4
  have hc4 : den__law_free [.scr (ns.map .int), .int 4] = some (.int c4) := hc4
  obtain ⟨c5, hc5⟩ := free_ex ns 5
  have hc5 : den__law_free [.scr (ns.map .int), .int 5] = some (.int c5) := hc5
  obtain ⟨W, hW, hw⟩ := no_line_ex P hL c4
  have hbits := law_bits3_eq (L.take 1) fun t ht => by have := (hL.2.1 t).mp (List.mem_of_mem_take ht); omega
  have gd := R38.of_downsets P hn1 (row_down P hL 1) hx c3
  have gl := R38.of_lines P hn1 hL hW c5
  have s3 : DL.cutD (asD L) none (some 1) = asD (L.take 1) := by
    have := cut_to (asD L) (k := 1) (by rw [asD_len, hL.len]; omega)
    rw [asD_take] at this; exact this
  have hez : ∀ (a b c : D) (ρ : List D), eZt 3 (a :: b :: c :: .tup (asD L) :: ρ) = some (.tup (asD L)) := fun a b c ρ => by
    show (if (asD L).all D.at = true then some (D.tup (asD L)) else none) = _
    rw [if_pos (at_asD L)]
  have hsl : ∀ (a b c : D) (ρ : List D), (eSl gSlT (eZt 3) oNo (oYes (eK (.int 1)))) (a :: b :: c :: .tup (asD L) :: ρ) = some (.tup (asD (L.take 1))) := fun a b c ρ => by
    rw [← s3]
    simp_arith [hez]
  refine fnD_rt rfl ?_
  unfold b_law
  generalize D.scr (ns.map .int) = S at *
  refine st_nx (ρ' := [S, .non, .non, .non, .non, nD n, .lst (asP ps)]) ?_ ?_
  · simp_arith [hd, tgT, setAll]
  refine st_nx (ρ' := [S, .lst (undD n (cl ps)), .non, .non, .non, nD n, .lst (asP ps)]) ?_ ?_
  · simp_arith [hu]
  refine st_nx (ρ' := [S, .lst (undD n (cl ps)), ordD n (cl ps), .non, .non, nD n, .lst (asP ps)]) ?_ ?_
  · simp_arith [hi, Option.map_some]; rfl
  refine st_nx (ρ' := [S, .lst (undD n (cl ps)), ordD n (cl ps), .tup (asD L), .non, nD n, .lst (asP ps)]) ?_ ?_
  · simp_arith [hln]
  refine st_nx (ρ' := [S, .lst (undD n (cl ps)), ordD n (cl ps), .tup (asD L), .int x, nD n, .lst (asP ps)]) ?_ ?_
  · simp_arith [hc2, hbad]
  have hsl := hsl S (.lst (undD n (cl ps))) (ordD n (cl ps)) [.int x, nD n, .lst (asP ps)]
  have hez := hez S (.lst (undD n (cl ps))) (ordD n (cl ps)) [.int x, nD n, .lst (asP ps)]
  clear hd hi hu hln hbad hc2 s3
  generalize nD (rb (L.take 1)) = G0 at *
  generalize D.tup (asD (L.take 1)) = TL1 at *
  generalize D.tup (asD L) = TL at *
  generalize tupI W = TW at *
  generalize D.lst (undD n (cl ps)) = U at *
  generalize ordD n (cl ps) = O at *
  generalize D.lst (asP ps) = PS at *
  have hf3 : (eCall den__law_free (aCons (eV 0) (aCons (eK (.int 3)) aNil))) [S, U, O, TL, .int x, nD n, PS] = some (.int c3) := callv rfl hc3
  have hf4 : (eCall den__law_free (aCons (eV 0) (aCons (eK (.int 4)) aNil))) [S, U, O, TL, .int x, nD n, PS] = some (.int c4) := callv rfl hc4
  have hf5 : (eCall den__law_free (aCons (eV 0) (aCons (eK (.int 5)) aNil))) [S, U, O, TL, .int x, nD n, PS] = some (.int c5) := callv rfl hc5
  have hbt : (eCall den__law_bits_v3 (aCons (eSl gSlT (eZt 3) oNo (oYes (eK (.int 1)))) aNil)) [S, U, O, TL, .int x, nD n, PS] = some G0 := callv (consv hsl rfl) hbits
  have hnl : (eCall den__law_no_line (aCons (eZt 3) (aCons (eV 1) (aCons (eCall den__law_free (aCons (eV 0) (aCons (eK (.int 4)) aNil))) aNil)))) [S, U, O, TL, .int x, nD n, PS] = some TW := callv (consv hez (consv rfl (consv hf4 rfl))) hw
  have g1 : (eCall den__law_of_downsets (aCons (eV 2) (aCons (eCall den__law_bits_v3 (aCons (eSl gSlT (eZt 3) oNo (oYes (eK (.int 1)))) aNil)) (aCons (eV 4) (aCons (eV 5) (aCons (eCall den__law_free (aCons (eV 0) (aCons (eK (.int 3)) aNil))) aNil)))))) [S, U, O, TL, .int x, nD n, PS] = some (.bl true) := callv (consv rfl (consv hbt (consv rfl (consv rfl (consv hf3 rfl))))) gd
  have g2 : (eCall den__law_of_lines_v2 (aCons (eV 2) (aCons (eZt 3) (aCons (eCall den__law_no_line (aCons (eZt 3) (aCons (eV 1) (aCons (eCall den__law_free (aCons (eV 0) (aCons (eK (.int 4)) aNil))) aNil)))) (aCons (eCall den__law_free (aCons (eV 0) (aCons (eK (.int 5)) aNil))) aNil))))) [S, U, O, TL, .int x, nD n, PS] = some (.bl true) := callv (consv rfl (consv hez (consv hnl (consv hf5 rfl)))) gl
  refine st_nx (ρ' := [S, U, O, TL, .int x, nD n, PS]) ((if_f ?_).trans rfl) (retv g2)
  unfold bNot t2b
  rw [g1]; rfl

section
variable {P : Program} {w : World} {K : PySem.W.Frag} {mg : Str → Option Value} {base : Heap} {a_Order a_NoLine a_NoPlace a_NoDownset a_NoThing a_NoText a_NoRow a_NoPair a_NoNumber a_NoField a_NoCount a_TooMany a_NothingDone a_ToggleError : Addr} {ca_walker P_walker : Addr} {ca__law_of_downsets P__law_of_downsets : Addr} {ca_leader P_leader : Addr} {ca__law_of_lines P__law_of_lines : Addr}
theorem ok__law_raw (F : FtF K mg "_law_raw" "_law_raw" (topS 44) ["_law_script", "_law_k"]) (z_len : mg "len" = none) : OkF P w K mg base (tb a_Order a_NoLine a_NoPlace a_NoDownset a_NoThing P_walker P__law_of_downsets P_leader P__law_of_lines) 1 "_law_raw" ["_law_script", "_law_k"] den__law_raw (.q .A) :=
 mk_okf (k := 0) (Γn := [.fz .U, .fz .A]) F sc__law_raw rfl rfl (fun _ => ⟨_, rfl⟩) fun f cdv A outer s H E hr =>
 (dss_cons (Γ1 := [.fz .U, .fz .A]) (ds_if (Γn := [.fz .U, .fz .A]) (dt_cmp op_lt (de_v 1 (q := .A) rfl (pv 1)) (de_len (q := .A) (by rfl) z_len (de_v 0 (q := .U) rfl (pv 0))) (nomark _) (cs_lt rfl)) (dss_one (Γ1 := [.fz .U, .fz .A]) (ds_ret (q := .A) (de_A (q := .A) (de_ix (de_v 0 (q := .U) rfl (pv 0)) (de_v 1 (q := .A) rfl (pv 1))))) rfl) (dss_nil rfl))
 (dss_one (Γ1 := [.fz .U, .fz .A]) (ds_ret (q := .A) (de_int (q := .A))) rfl))
theorem ok__law_any (F : FtF K mg "_law_any" "_law_any" (topS 46) ["_law_script", "_law_most"]) (o__law_raw : OkF P w K mg base (tb a_Order a_NoLine a_NoPlace a_NoDownset a_NoThing P_walker P__law_of_downsets P_leader P__law_of_lines) 1 "_law_raw" ["_law_script", "_law_k"] den__law_raw (.q .A)) (z_range : mg "range" = none) : OkF P w K mg base (tb a_Order a_NoLine a_NoPlace a_NoDownset a_NoThing P_walker P__law_of_downsets P_leader P__law_of_lines) 2 "_law_any" ["_law_script", "_law_most"] den__law_any (.q .L) :=
 mk_okf (k := 1) (Γn := [.fz .U, .fz .A, .no, .no, .no, .no, .no]) F sc__law_any rfl rfl (fun _ => ⟨_, rfl⟩) fun f cdv A outer s H E hr =>
 (dss_cons (Γ1 := [.fz .U, .fz .A, .fz .A, .no, .no, .no, .no]) (ds_set (i := 2) (q := .A) sc__law_any.nd rfl (by first | exact Or.inl rfl | exact Or.inr rfl) (de_add (q := .A) (de_int (q := .A)) (de_mod (q := .A) (de_div (q := .A) (de_call o__law_raw hr (by rfl) (da_cons (de_v 0 (q := .U) rfl (pv 0)) (da_cons (de_int (q := .A)) da_nil)) (aCons_len (aCons_len aNil_len))) (de_int (q := .A))) (de_v 1 (q := .A) rfl (pv 1)))))
 (dss_cons (Γ1 := [.fz .U, .fz .A, .fz .A, .fz .A, .no, .no, .no]) (ds_set (i := 3) (q := .A) sc__law_any.nd rfl (by first | exact Or.inl rfl | exact Or.inr rfl) (de_call o__law_raw hr (by rfl) (da_cons (de_v 0 (q := .U) rfl (pv 0)) (da_cons (de_int (q := .A)) da_nil)) (aCons_len (aCons_len aNil_len))))
 (dss_cons (Γ1 := [.fz .U, .fz .A, .fz .A, .fz .A, .ow .A, .no, .no]) (ds_seto (i := 4) (q := .A) sc__law_any.nd rfl (by first | exact Or.inl rfl | exact Or.inr rfl) (de_lst (q := .A) dq_nil))
 (dss_cons (Γ1 := [.fz .U, .fz .A, .fz .A, .fz .A, .ow .A, .no, .no]) (ds_for (cl := [5, 6]) (Γ1 := [.fz .U, .fz .A, .fz .A, .fz .A, .ow .A, .fz .A, .no]) PassesOwn.never rfl (di_range1 (q := .A) (by rfl) z_range (de_v 2 (q := .A) rfl (pv 2))) (pg_name (i := 5) sc__law_any.nd rfl (by first | exact Or.inl rfl | exact Or.inr rfl)) (tgs_n (q := .A) (by decide)) (dss_one (Γ1 := [.fz .U, .fz .A, .fz .A, .fz .A, .ow .A, .fz .A, .no]) (ds_for (cl := [6]) (Γ1 := [.fz .U, .fz .A, .fz .A, .fz .A, .ow .A, .fz .A, .fz .A]) PassesOwn.never rfl (di_range1 (q := .A) (by rfl) z_range (de_v 5 (q := .A) rfl (pv 5))) (pg_name (i := 6) sc__law_any.nd rfl (by first | exact Or.inl rfl | exact Or.inr rfl)) (tgs_n (q := .A) (by decide)) (dss_cons (Γ1 := [.fz .U, .fz .A, .fz .A, .fz .A, .ow .A, .fz .A, .fz .A]) (ds_if (Γn := [.fz .U, .fz .A, .fz .A, .fz .A, .ow .A, .fz .A, .fz .A]) (dt_cmp op_eq (de_mod (q := .A) (de_v 3 (q := .A) rfl (pv 3)) (de_int (q := .A))) (de_int (q := .A)) (nomark _) (cs_eqS rfl)) (dss_one (Γ1 := [.fz .U, .fz .A, .fz .A, .fz .A, .ow .A, .fz .A, .fz .A]) (ds_append 4 (q := .A) rfl (pe_bm PySem.F.plainAttrs_list PySem.F.slot_list_append PySem.F.type_list_append mt_append (pv 4) (pa_cons (de_tup (q := .A) (dq_cons (q := .A) (de_v 6 (q := .A) rfl (pv 6)) (dq_cons (q := .A) (de_v 5 (q := .A) rfl (pv 5)) dq_nil))) pa_nil))) rfl) (dss_nil rfl))
 (dss_one (Γ1 := [.fz .U, .fz .A, .fz .A, .fz .A, .ow .A, .fz .A, .fz .A]) (ds_set (i := 3) (q := .A) sc__law_any.nd rfl (by first | exact Or.inl rfl | exact Or.inr rfl) (de_div (q := .A) (de_v 3 (q := .A) rfl (pv 3)) (de_int (q := .A)))) rfl)) (by decide)) rfl) (by decide))
 (dss_one (Γ1 := [.fz .U, .fz .A, .no, .no, .no, .no, .no]) (ds_wk (Γ1 := [.fz .U, .fz .A, .fz .A, .fz .A, .fz .L, .no, .no]) rfl (ds_ret (q := .L) (de_tup (q := .L) (dq_cons (q := .L) (de_q (q := .L) (de_v 2 (q := .A) rfl (pv 2))) (dq_cons (q := .L) (de_v 4 (q := .L) rfl (pv 4)) dq_nil))))) rfl)))))
theorem ok__law_cell_at (F : FtF K mg "_law_cell_at" "_law_cell_at" (topS 43) ["_law_script", "_law_k"]) (z_len : mg "len" = none) : OkF P w K mg base (tb a_Order a_NoLine a_NoPlace a_NoDownset a_NoThing P_walker P__law_of_downsets P_leader P__law_of_lines) 1 "_law_cell_at" ["_law_script", "_law_k"] den__law_cell_at (.q .A) :=
 mk_okf (k := 0) (Γn := [.fz .U, .fz .A, .no, .no]) F sc__law_cell_at rfl rfl (fun _ => ⟨_, rfl⟩) fun f cdv A outer s H E hr =>
 (dss_cons (Γ1 := [.fz .U, .fz .A, .fz .A, .no]) (ds_set (i := 2) (q := .A) sc__law_cell_at.nd rfl (by first | exact Or.inl rfl | exact Or.inr rfl) (de_int (q := .A)))
 (dss_cons (Γ1 := [.fz .U, .fz .A, .fz .A, .no]) (ds_if (Γn := [.fz .U, .fz .A, .fz .A, .no]) (dt_cmp op_gt (de_len (q := .A) (by rfl) z_len (de_v 0 (q := .U) rfl (pv 0))) (de_int (q := .A)) (nomark _) (cs_gt rfl)) (dss_one (Γ1 := [.fz .U, .fz .A, .fz .A, .no]) (ds_set (i := 2) (q := .A) sc__law_cell_at.nd rfl (by first | exact Or.inl rfl | exact Or.inr rfl) (de_A (q := .A) (de_ix (de_v 0 (q := .U) rfl (pv 0)) (de_mod (q := .A) (de_v 1 (q := .A) rfl (pv 1)) (de_len (q := .A) (by rfl) z_len (de_v 0 (q := .U) rfl (pv 0))))))) rfl) (dss_nil rfl))
 (dss_cons (Γ1 := [.fz .U, .fz .A, .fz .A, .fz .A]) (ds_set (i := 3) (q := .A) sc__law_cell_at.nd rfl (by first | exact Or.inl rfl | exact Or.inr rfl) (de_mod (q := .A) (de_mul (q := .A) (de_add (q := .A) (de_v 2 (q := .A) rfl (pv 2)) (de_mul (q := .A) (de_int (q := .A)) (de_add (q := .A) (de_v 1 (q := .A) rfl (pv 1)) (de_int (q := .A))))) (de_int (q := .A))) (de_int (q := .A))))
 (dss_one (Γ1 := [.fz .U, .fz .A, .no, .no]) (ds_ret (q := .A) (de_add (q := .A) (de_mul (q := .A) (de_div (q := .A) (de_mod (q := .A) (de_v 2 (q := .A) rfl (pv 2)) (de_pow (q := .A) (de_int (q := .A)) (de_int (q := .A)))) (de_int (q := .A))) (de_int (q := .A))) (de_v 3 (q := .A) rfl (pv 3)))) rfl))))
theorem ok__law_field (F : FtF K mg "_law_field" "_law_field" (topS 47) ["_law_first", "_law_most"]) (z_range : mg "range" = none) : OkF P w K mg base (tb a_Order a_NoLine a_NoPlace a_NoDownset a_NoThing P_walker P__law_of_downsets P_leader P__law_of_lines) 1 "_law_field" ["_law_first", "_law_most"] den__law_field (.q .L) :=
 mk_okf (k := 0) (Γn := [.fz .A, .fz .A, .no, .no, .no, .no]) F sc__law_field rfl rfl (fun _ => ⟨_, rfl⟩) fun f cdv A outer s H E hr =>
 (dss_cons (Γ1 := [.fz .A, .fz .A, .fz .A, .no, .no, .no]) (ds_set (i := 2) (q := .A) sc__law_field.nd rfl (by first | exact Or.inl rfl | exact Or.inr rfl) (de_add (q := .A) (de_int (q := .A)) (de_mod (q := .A) (de_v 0 (q := .A) rfl (pv 0)) (de_int (q := .A)))))
 (dss_cons (Γ1 := [.fz .A, .fz .A, .fz .A, .no, .no, .no]) (ds_if (Γn := [.fz .A, .fz .A, .fz .A, .no, .no, .no]) (dt_cmp op_gt (de_v 2 (q := .A) rfl (pv 2)) (de_v 1 (q := .A) rfl (pv 1)) (nomark _) (cs_gt rfl)) (dss_one (Γ1 := [.fz .A, .fz .A, .fz .A, .no, .no, .no]) (ds_set (i := 2) (q := .A) sc__law_field.nd rfl (by first | exact Or.inl rfl | exact Or.inr rfl) (de_int (q := .A))) rfl) (dss_nil rfl))
 (dss_cons (Γ1 := [.fz .A, .fz .A, .fz .A, .fz .A, .no, .no]) (ds_set (i := 3) (q := .A) sc__law_field.nd rfl (by first | exact Or.inl rfl | exact Or.inr rfl) (de_add (q := .A) (de_int (q := .A)) (de_mod (q := .A) (de_div (q := .A) (de_v 0 (q := .A) rfl (pv 0)) (de_int (q := .A))) (de_div (q := .A) (de_v 1 (q := .A) rfl (pv 1)) (de_v 2 (q := .A) rfl (pv 2))))))
 (dss_cons (Γ1 := [.fz .A, .fz .A, .fz .A, .fz .A, .ow .A, .no]) (ds_seto (i := 4) (q := .A) sc__law_field.nd rfl (by first | exact Or.inl rfl | exact Or.inr rfl) (de_lst (q := .A) dq_nil))
 (dss_cons (Γ1 := [.fz .A, .fz .A, .fz .A, .fz .A, .ow .A, .no]) (ds_for (cl := [5]) (Γ1 := [.fz .A, .fz .A, .fz .A, .fz .A, .ow .A, .fz .A]) PassesOwn.never rfl (di_range1 (q := .A) (by rfl) z_range (de_mul (q := .A) (de_v 2 (q := .A) rfl (pv 2)) (de_v 3 (q := .A) rfl (pv 3)))) (pg_name (i := 5) sc__law_field.nd rfl (by first | exact Or.inl rfl | exact Or.inr rfl)) (tgs_n (q := .A) (by decide)) (dss_cons (Γ1 := [.fz .A, .fz .A, .fz .A, .fz .A, .ow .A, .fz .A]) (ds_if (Γn := [.fz .A, .fz .A, .fz .A, .fz .A, .ow .A, .fz .A]) (dt_cmp op_lt (de_mod (q := .A) (de_v 5 (q := .A) rfl (pv 5)) (de_v 3 (q := .A) rfl (pv 3))) (de_sub (q := .A) (de_v 3 (q := .A) rfl (pv 3)) (de_int (q := .A))) (nomark _) (cs_lt rfl)) (dss_one (Γ1 := [.fz .A, .fz .A, .fz .A, .fz .A, .ow .A, .fz .A]) (ds_append 4 (q := .A) rfl (pe_bm PySem.F.plainAttrs_list PySem.F.slot_list_append PySem.F.type_list_append mt_append (pv 4) (pa_cons (de_tup (q := .A) (dq_cons (q := .A) (de_v 5 (q := .A) rfl (pv 5)) (dq_cons (q := .A) (de_add (q := .A) (de_v 5 (q := .A) rfl (pv 5)) (de_int (q := .A))) dq_nil))) pa_nil))) rfl) (dss_nil rfl))
 (dss_one (Γ1 := [.fz .A, .fz .A, .fz .A, .fz .A, .ow .A, .fz .A]) (ds_if (Γn := [.fz .A, .fz .A, .fz .A, .fz .A, .ow .A, .fz .A]) (dt_cmp op_lt (de_add (q := .A) (de_v 5 (q := .A) rfl (pv 5)) (de_v 3 (q := .A) rfl (pv 3))) (de_mul (q := .A) (de_v 2 (q := .A) rfl (pv 2)) (de_v 3 (q := .A) rfl (pv 3))) (nomark _) (cs_lt rfl)) (dss_one (Γ1 := [.fz .A, .fz .A, .fz .A, .fz .A, .ow .A, .fz .A]) (ds_append 4 (q := .A) rfl (pe_bm PySem.F.plainAttrs_list PySem.F.slot_list_append PySem.F.type_list_append mt_append (pv 4) (pa_cons (de_tup (q := .A) (dq_cons (q := .A) (de_v 5 (q := .A) rfl (pv 5)) (dq_cons (q := .A) (de_add (q := .A) (de_v 5 (q := .A) rfl (pv 5)) (de_v 3 (q := .A) rfl (pv 3))) dq_nil))) pa_nil))) rfl) (dss_nil rfl)) rfl)) (by decide))
 (dss_one (Γ1 := [.fz .A, .fz .A, .no, .no, .no, .no]) (ds_wk (Γ1 := [.fz .A, .fz .A, .fz .A, .fz .A, .fz .L, .no]) rfl (ds_ret (q := .L) (de_tup (q := .L) (dq_cons (q := .L) (de_q (q := .L) (de_mul (q := .A) (de_v 2 (q := .A) rfl (pv 2)) (de_v 3 (q := .A) rfl (pv 3)))) (dq_cons (q := .L) (de_v 4 (q := .L) rfl (pv 4)) dq_nil))))) rfl))))))
theorem ok__law_drawn (F : FtF K mg "_law_drawn" "_law_drawn" (topS 48) ["_law_script", "_law_most"]) (o__law_raw : OkF P w K mg base (tb a_Order a_NoLine a_NoPlace a_NoDownset a_NoThing P_walker P__law_of_downsets P_leader P__law_of_lines) 1 "_law_raw" ["_law_script", "_law_k"] den__law_raw (.q .A)) (o__law_any : OkF P w K mg base (tb a_Order a_NoLine a_NoPlace a_NoDownset a_NoThing P_walker P__law_of_downsets P_leader P__law_of_lines) 2 "_law_any" ["_law_script", "_law_most"] den__law_any (.q .L)) (o__law_cell_at : OkF P w K mg base (tb a_Order a_NoLine a_NoPlace a_NoDownset a_NoThing P_walker P__law_of_downsets P_leader P__law_of_lines) 1 "_law_cell_at" ["_law_script", "_law_k"] den__law_cell_at (.q .A)) (o__law_field : OkF P w K mg base (tb a_Order a_NoLine a_NoPlace a_NoDownset a_NoThing P_walker P__law_of_downsets P_leader P__law_of_lines) 1 "_law_field" ["_law_first", "_law_most"] den__law_field (.q .L)) (z_range : mg "range" = none) : OkF P w K mg base (tb a_Order a_NoLine a_NoPlace a_NoDownset a_NoThing P_walker P__law_of_downsets P_leader P__law_of_lines) 3 "_law_drawn" ["_law_script", "_law_most"] den__law_drawn_v2 (.q .L) :=
 mk_okf (k := 2) (Γn := [.fz .U, .fz .A, .no, .no, .no, .no, .no, .no, .no, .no]) F sc__law_drawn rfl rfl (fun _ => ⟨_, rfl⟩) fun f cdv A outer s H E hr =>
 (dss_cons (Γ1 := [.fz .U, .fz .A, .no, .no, .no, .no, .no, .no, .no, .no]) (ds_if (Γn := [.fz .U, .fz .A, .no, .no, .no, .no, .no, .no, .no, .no]) (dt_cmp op_eq (de_mod (q := .A) (de_call o__law_raw hr (by rfl) (da_cons (de_v 0 (q := .U) rfl (pv 0)) (da_cons (de_int (q := .A)) da_nil)) (aCons_len (aCons_len aNil_len))) (de_int (q := .A))) (de_int (q := .A)) (nomark _) (cs_eqS rfl)) (dss_one (Γ1 := [.fz .U, .fz .A, .no, .no, .no, .no, .no, .no, .no, .no]) (ds_ret (q := .L) (de_call o__law_any hr (by rfl) (da_cons (de_v 0 (q := .U) rfl (pv 0)) (da_cons (de_v 1 (q := .A) rfl (pv 1)) da_nil)) (aCons_len (aCons_len aNil_len)))) rfl) (dss_nil rfl))
 (dss_cons (Γ1 := [.fz .U, .fz .A, .fz .A, .no, .no, .no, .no, .no, .no, .no]) (ds_set (i := 2) (q := .A) sc__law_drawn.nd rfl (by first | exact Or.inl rfl | exact Or.inr rfl) (de_call o__law_cell_at hr (by rfl) (da_cons (de_v 0 (q := .U) rfl (pv 0)) (da_cons (de_int (q := .A)) da_nil)) (aCons_len (aCons_len aNil_len))))
 (dss_cons (Γ1 := [.fz .U, .fz .A, .fz .A, .fz .A, .no, .no, .no, .no, .no, .no]) (ds_set (i := 3) (q := .A) sc__law_drawn.nd rfl (by first | exact Or.inl rfl | exact Or.inr rfl) (de_add (q := .A) (de_int (q := .A)) (de_mod (q := .A) (de_v 2 (q := .A) rfl (pv 2)) (de_v 1 (q := .A) rfl (pv 1)))))
 (dss_cons (Γ1 := [.fz .U, .fz .A, .fz .A, .fz .A, .fz .A, .no, .no, .no, .no, .no]) (ds_set (i := 4) (q := .A) sc__law_drawn.nd rfl (by first | exact Or.inl rfl | exact Or.inr rfl) (de_mod (q := .A) (de_div (q := .A) (de_v 2 (q := .A) rfl (pv 2)) (de_int (q := .A))) (de_int (q := .A))))
 (dss_cons (Γ1 := [.fz .U, .fz .A, .fz .A, .fz .A, .fz .A, .no, .no, .no, .no, .no]) (ds_if (Γn := [.fz .U, .fz .A, .fz .A, .fz .A, .fz .A, .no, .no, .no, .no, .no]) (dt_cmp op_eq (de_v 4 (q := .A) rfl (pv 4)) (de_int (q := .A)) (nomark _) (cs_eqS rfl)) (dss_one (Γ1 := [.fz .U, .fz .A, .fz .A, .fz .A, .fz .A, .no, .no, .no, .no, .no]) (ds_ret (q := .L) (de_call o__law_field hr (by rfl) (da_cons (de_div (q := .A) (de_v 2 (q := .A) rfl (pv 2)) (de_int (q := .A))) (da_cons (de_v 1 (q := .A) rfl (pv 1)) da_nil)) (aCons_len (aCons_len aNil_len)))) rfl) (dss_nil rfl))
 (dss_cons (Γ1 := [.fz .U, .fz .A, .fz .A, .fz .A, .fz .A, .no, .no, .no, .no, .no]) (ds_if (Γn := [.fz .U, .fz .A, .fz .A, .fz .A, .fz .A, .no, .no, .no, .no, .no]) (dt_cmp op_eq (de_v 4 (q := .A) rfl (pv 4)) (de_int (q := .A)) (nomark _) (cs_eqS rfl)) (dss_one (Γ1 := [.fz .U, .fz .A, .fz .A, .fz .A, .fz .A, .no, .no, .no, .no, .no]) (ds_ret (q := .L) (de_tup (q := .L) (dq_cons (q := .L) (de_q (q := .L) (de_v 3 (q := .A) rfl (pv 3))) (dq_cons (q := .L) (de_oq (q := .L) (de_comp (p := .A) (Γ1 := [.fz .U, .fz .A, .fz .A, .fz .A, .fz .A, .no, .no, .no, .no, .fz .A]) (own := [("_law_thing", 9)]) rfl sc__law_drawn.nd (di_range1 (q := .A) (by rfl) z_range (de_sub (q := .A) (de_v 3 (q := .A) rfl (pv 3)) (de_int (q := .A)))) (blkOk_by (N := nm__law_drawn) (sc := defScope (topS 48)) (own := [("_law_thing", 9)]) (by first | decide +kernel | kernel_rfl | rfl)) (fun _ _ _ _ _ => (pg_name (i := 9) sc__law_drawn.nd rfl (by first | exact Or.inl rfl | exact Or.inr rfl))) (tgs_n (q := .A) (by decide)) (fun _ _ _ _ _ => pts_no) (fun _ _ _ _ _ => (de_tup (q := .A) (dq_cons (q := .A) (de_v 9 (q := .A) rfl (pv 9)) (dq_cons (q := .A) (de_add (q := .A) (de_v 9 (q := .A) rfl (pv 9)) (de_int (q := .A))) dq_nil)))) (by decide) (by decide))) dq_nil)))) rfl) (dss_clr (cl := [9]) (dss_nil rfl) (by decide)))
 (dss_cons (Γ1 := [.fz .U, .fz .A, .fz .A, .fz .A, .fz .A, .no, .no, .no, .no, .no]) (ds_if (Γn := [.fz .U, .fz .A, .fz .A, .fz .A, .fz .A, .no, .no, .no, .no, .no]) (PW.pt (dw_or (dt_cmp op_lt (de_v 3 (q := .A) rfl (pv 3)) (de_int (q := .A)) (nomark _) (cs_lt rfl)) (dw_or1 (dt_cmp op_eq (de_v 4 (q := .A) rfl (pv 4)) (de_int (q := .A)) (nomark _) (cs_eqS rfl))))) (dss_one (Γ1 := [.fz .U, .fz .A, .fz .A, .fz .A, .fz .A, .no, .no, .no, .no, .no]) (ds_ret (q := .L) (de_tup (q := .L) (dq_cons (q := .L) (de_q (q := .L) (de_v 3 (q := .A) rfl (pv 3))) (dq_cons (q := .L) (de_oq (q := .L) (de_lst (q := .A) dq_nil)) dq_nil)))) rfl) (dss_nil rfl))
 (dss_cons (Γ1 := [.fz .U, .fz .A, .fz .A, .fz .A, .fz .A, .ow .A, .no, .no, .no, .no]) (ds_seto (i := 5) (q := .A) sc__law_drawn.nd rfl (by first | exact Or.inl rfl | exact Or.inr rfl) (de_lst (q := .A) dq_nil))
 (dss_cons (Γ1 := [.fz .U, .fz .A, .fz .A, .fz .A, .fz .A, .ow .A, .no, .no, .no, .no]) (ds_for (cl := [6, 7, 8]) (Γ1 := [.fz .U, .fz .A, .fz .A, .fz .A, .fz .A, .ow .A, .fz .A, .no, .no, .no]) PassesOwn.never rfl (di_range1 (q := .A) (by rfl) z_range (de_add (q := .A) (de_int (q := .A)) (de_mod (q := .A) (de_call o__law_cell_at hr (by rfl) (da_cons (de_v 0 (q := .U) rfl (pv 0)) (da_cons (de_int (q := .A)) da_nil)) (aCons_len (aCons_len aNil_len))) (de_mul (q := .A) (de_int (q := .A)) (de_v 3 (q := .A) rfl (pv 3)))))) (pg_name (i := 6) sc__law_drawn.nd rfl (by first | exact Or.inl rfl | exact Or.inr rfl)) (tgs_n (q := .A) (by decide)) (dss_cons (Γ1 := [.fz .U, .fz .A, .fz .A, .fz .A, .fz .A, .ow .A, .fz .A, .fz .A, .no, .no]) (ds_set (i := 7) (q := .A) sc__law_drawn.nd rfl (by first | exact Or.inl rfl | exact Or.inr rfl) (de_add (q := .A) (de_call o__law_cell_at hr (by rfl) (da_cons (de_v 0 (q := .U) rfl (pv 0)) (da_cons (de_add (q := .A) (de_int (q := .A)) (de_v 6 (q := .A) rfl (pv 6))) da_nil)) (aCons_len (aCons_len aNil_len))) (de_mul (q := .A) (de_div (q := .A) (de_v 2 (q := .A) rfl (pv 2)) (de_int (q := .A))) (de_add (q := .A) (de_v 6 (q := .A) rfl (pv 6)) (de_int (q := .A))))))
 (dss_cons (Γ1 := [.fz .U, .fz .A, .fz .A, .fz .A, .fz .A, .ow .A, .fz .A, .fz .A, .fz .A, .no]) (ds_set (i := 8) (q := .A) sc__law_drawn.nd rfl (by first | exact Or.inl rfl | exact Or.inr rfl) (de_mod (q := .A) (de_v 7 (q := .A) rfl (pv 7)) (de_sub (q := .A) (de_v 3 (q := .A) rfl (pv 3)) (de_int (q := .A)))))
 (dss_one (Γ1 := [.fz .U, .fz .A, .fz .A, .fz .A, .fz .A, .ow .A, .fz .A, .fz .A, .fz .A, .no]) (ds_append 5 (q := .A) rfl (pe_bm PySem.F.plainAttrs_list PySem.F.slot_list_append PySem.F.type_list_append mt_append (pv 5) (pa_cons (de_tup (q := .A) (dq_cons (q := .A) (de_v 8 (q := .A) rfl (pv 8)) (dq_cons (q := .A) (de_add (q := .A) (de_add (q := .A) (de_v 8 (q := .A) rfl (pv 8)) (de_int (q := .A))) (de_mod (q := .A) (de_div (q := .A) (de_v 7 (q := .A) rfl (pv 7)) (de_int (q := .A))) (de_sub (q := .A) (de_sub (q := .A) (de_v 3 (q := .A) rfl (pv 3)) (de_int (q := .A))) (de_v 8 (q := .A) rfl (pv 8))))) dq_nil))) pa_nil))) rfl))) (by decide))
 (dss_one (Γ1 := [.fz .U, .fz .A, .no, .no, .no, .no, .no, .no, .no, .no]) (ds_wk (Γ1 := [.fz .U, .fz .A, .fz .A, .fz .A, .fz .A, .fz .L, .no, .no, .no, .no]) rfl (ds_ret (q := .L) (de_tup (q := .L) (dq_cons (q := .L) (de_q (q := .L) (de_v 3 (q := .A) rfl (pv 3))) (dq_cons (q := .L) (de_v 5 (q := .L) rfl (pv 5)) dq_nil))))) rfl))))))))))
theorem ok__law_under (F : FtF K mg "_law_under" "_law_under" (topS 49) ["_law_many", "_law_pairs"]) (z_range : mg "range" = none) (z_sorted : mg "sorted" = none) (z_set : mg "set" = none) : OkF P w K mg base (tb a_Order a_NoLine a_NoPlace a_NoDownset a_NoThing P_walker P__law_of_downsets P_leader P__law_of_lines) 1 "_law_under" ["_law_many", "_law_pairs"] den__law_under (.q .L) :=
 mk_okf (k := 0) (Γn := [.fz .A, .fl .A, .no, .no, .no, .no, .no]) F sc__law_under rfl rfl (fun _ => ⟨_, rfl⟩) fun f cdv A outer s H E hr =>
 (dss_cons (Γ1 := [.fz .A, .fl .A, .ow .A, .no, .no, .no, .no]) (ds_seto (i := 2) (q := .A) sc__law_under.nd rfl (by first | exact Or.inl rfl | exact Or.inr rfl) (de_lst (q := .A) dq_nil))
 (dss_cons (Γ1 := [.fz .A, .fl .A, .ow .L, .no, .no, .no, .no]) (ds_wk (Γ1 := [.fz .A, .fl .A, .ow .L, .no, .no, .no, .no]) rfl (ds_for (cl := [3, 4, 5, 6]) (Γ1 := [.fz .A, .fl .A, .ow .L, .fz .A, .no, .no, .no]) PassesOwn.never rfl (di_range1 (q := .A) (by rfl) z_range (de_v 0 (q := .A) rfl (pv 0))) (pg_name (i := 3) sc__law_under.nd rfl (by first | exact Or.inl rfl | exact Or.inr rfl)) (tgs_n (q := .A) (by decide)) (dss_cons (Γ1 := [.fz .A, .fl .A, .ow .L, .fz .A, .ow .A, .no, .no]) (ds_seto (i := 4) (q := .A) sc__law_under.nd rfl (by first | exact Or.inl rfl | exact Or.inr rfl) (de_lst (q := .A) dq_nil))
 (dss_cons (Γ1 := [.fz .A, .fl .A, .ow .L, .fz .A, .ow .L, .no, .no]) (ds_wk (Γ1 := [.fz .A, .fl .A, .ow .L, .fz .A, .ow .L, .no, .no]) rfl (ds_for (cl := [5, 6]) (Γ1 := [.fz .A, .fl .A, .ow .L, .fz .A, .ow .L, .fz .A, .fz .A]) PassesOwn.never rfl (di_listf (de_vl 1 (q := .A) rfl (pv 1))) (pg_tup rfl (pgs_cons (pg_name (i := 5) sc__law_under.nd rfl (by first | exact Or.inl rfl | exact Or.inr rfl)) (pgs_cons (pg_name (i := 6) sc__law_under.nd rfl (by first | exact Or.inl rfl | exact Or.inr rfl)) pgs_nil))) (tgs_t (is := [5, 6]) (q := .A) (by decide)) (dss_one (Γ1 := [.fz .A, .fl .A, .ow .L, .fz .A, .ow .L, .fz .A, .fz .A]) (ds_if (Γn := [.fz .A, .fl .A, .ow .L, .fz .A, .ow .L, .fz .A, .fz .A]) (dt_cmp op_eq (de_v 6 (q := .A) rfl (pv 6)) (de_v 3 (q := .A) rfl (pv 3)) (nomark _) (cs_eqS rfl)) (dss_one (Γ1 := [.fz .A, .fl .A, .ow .L, .fz .A, .ow .L, .fz .A, .fz .A]) (ds_extend 4 (q := .L) rfl rfl (pe_bm PySem.F.plainAttrs_list PySem.F.slot_list_extend PySem.F.type_list_extend mt_extend (pv 4) (pa_cons (de_cat (q := .L) (de_bb (q := .L) (de_ob (de_lst (q := .A) (dq_cons (q := .A) (de_v 5 (q := .A) rfl (pv 5)) dq_nil)))) (de_ix (de_vo 2 (q := .L) rfl (pv 2)) (de_v 5 (q := .A) rfl (pv 5)))) pa_nil))) rfl) (dss_nil rfl)) rfl) (by decide)))
 (dss_one (Γ1 := [.fz .A, .fl .A, .ow .L, .fz .A, .ow .L, .no, .no]) (ds_append 2 (q := .L) rfl (pe_bm PySem.F.plainAttrs_list PySem.F.slot_list_append PySem.F.type_list_append mt_append (pv 2) (pa_cons (de_oq (q := .L) (de_sset (q := .A) rfl (by rfl) z_sorted (by rfl) z_set (de_vo 4 (q := .L) rfl (pv 4)))) pa_nil))) rfl))) (by decide)))
 (dss_one (Γ1 := [.fz .A, .fl .A, .no, .no, .no, .no, .no]) (ds_wk (Γ1 := [.fz .A, .fl .A, .fz .L, .no, .no, .no, .no]) rfl (ds_ret (q := .L) (de_v 2 (q := .L) rfl (pv 2)))) rfl)))
theorem ok_bit_of (F : FtF K mg "bit_of" "bit_of" (topS 18) ["thing"]) {p_BITS : Addr} (g_BITS : mg "BITS" = some (.ref p_BITS)) (r_BITS : TupK K p_BITS [1, 2, 4, 8, 16, 32, 64, 128, 256, 512]) : OkF P w K mg base (tb a_Order a_NoLine a_NoPlace a_NoDownset a_NoThing P_walker P__law_of_downsets P_leader P__law_of_lines) 1 "bit_of" ["thing"] den_bit_of (.q .A) :=
 mk_okf (k := 0) (Γn := [.fz .A]) F sc_bit_of rfl rfl (fun _ => ⟨_, rfl⟩) fun f cdv A outer s H E hr =>
 (dss_one (Γ1 := [.fz .A]) (ds_ret (q := .A) (de_gtupK (q := .A) (by decide) (by rfl) g_BITS r_BITS (de_v 0 (q := .A) rfl (pv 0)))) rfl)
theorem ok_Order_init (F : FtI K mg (tb a_Order a_NoLine a_NoPlace a_NoDownset a_NoThing P_walker P__law_of_downsets P_leader P__law_of_lines) 0 "Order" "Order.__init__" (inClass (topS 19) 0) ["self", "many", "pairs"]) (o_bit_of : OkF P w K mg base (tb a_Order a_NoLine a_NoPlace a_NoDownset a_NoThing P_walker P__law_of_downsets P_leader P__law_of_lines) 1 "bit_of" ["thing"] den_bit_of (.q .A)) {t_MOST_THINGS : Tok} (g_MOST_THINGS : mg "MOST_THINGS" = some (.int 9 t_MOST_THINGS)) (C_Order_kept_many : ClsF K (tb a_Order a_NoLine a_NoPlace a_NoDownset a_NoThing P_walker P__law_of_downsets P_leader P__law_of_lines) 0 0 "kept_many") (C_Order_kept_lows : ClsF K (tb a_Order a_NoLine a_NoPlace a_NoDownset a_NoThing P_walker P__law_of_downsets P_leader P__law_of_lines) 0 1 "kept_lows") (z_range : mg "range" = none) : OkC P w K mg base (tb a_Order a_NoLine a_NoPlace a_NoDownset a_NoThing P_walker P__law_of_downsets P_leader P__law_of_lines) 2 0 "Order" 2 den_Order_init .L :=
 mk_okc (q := .L) (pks := [.A, .fA]) (m := 4) (body := b_Order_init) (k := 1) (Γn := [.os (.ins 0 [.fz .A, .ow .A]), .fz .A, .fl .A, .no, .no, .no, .no]) (ms := [.fz .A, .ow .A]) F sc_Order_init rfl rfl rfl rfl (by decide) fun f cdv A outer s H E z hr =>
 (dss_cons (Γ1 := [.os (.ins 0 []), .fz .A, .fl .A, .no, .no, .no, .no]) (ds_if (Γn := [.os (.ins 0 []), .fz .A, .fl .A, .no, .no, .no, .no]) (PW.pt (dw_or (dt_cmp op_lt (de_v 1 (q := .A) rfl (pv 1)) (de_int (q := .A)) (nomark _) (cs_lt rfl)) (dw_or1 (dt_cmp op_gt (de_v 1 (q := .A) rfl (pv 1)) (de_gint (q := .A) (by rfl) g_MOST_THINGS ⟨_, rfl⟩) (nomark _) (cs_gt rfl))))) (dss_one (Γ1 := [.os (.ins 0 []), .fz .A, .fl .A, .no, .no, .no, .no]) ds_never rfl) (dss_nil rfl))
 (dss_cons (Γ1 := [.os (.ins 0 []), .fz .A, .fl .A, .no, .no, .no, .no]) (ds_for (cl := [4, 5]) (Γ1 := [.os (.ins 0 []), .fz .A, .fl .A, .no, .fz .A, .fz .A, .no]) PassesOwn.never rfl (di_listf (de_vl 2 (q := .A) rfl (pv 2))) (pg_tup rfl (pgs_cons (pg_name (i := 4) sc_Order_init.nd rfl (by first | exact Or.inl rfl | exact Or.inr rfl)) (pgs_cons (pg_name (i := 5) sc_Order_init.nd rfl (by first | exact Or.inl rfl | exact Or.inr rfl)) pgs_nil))) (tgs_t (is := [4, 5]) (q := .A) (by decide)) (dss_one (Γ1 := [.os (.ins 0 []), .fz .A, .fl .A, .no, .fz .A, .fz .A, .no]) (ds_if (Γn := [.os (.ins 0 []), .fz .A, .fl .A, .no, .fz .A, .fz .A, .no]) (PW.pt (dw_or (dt_cmp op_lt (de_v 4 (q := .A) rfl (pv 4)) (de_int (q := .A)) (nomark _) (cs_lt rfl)) (dw_or (dt_cmp op_ge (de_v 4 (q := .A) rfl (pv 4)) (de_v 5 (q := .A) rfl (pv 5)) (nomark _) (cs_ge rfl)) (dw_or1 (dt_cmp op_ge (de_v 5 (q := .A) rfl (pv 5)) (de_v 1 (q := .A) rfl (pv 1)) (nomark _) (cs_ge rfl)))))) (dss_one (Γ1 := [.os (.ins 0 []), .fz .A, .fl .A, .no, .fz .A, .fz .A, .no]) ds_never rfl) (dss_nil rfl)) rfl) (by decide))
 (dss_cons (Γ1 := [.os (.ins 0 [.fz .A]), .fz .A, .fl .A, .no, .no, .no, .no]) (ds_sfq (T := (tb a_Order a_NoLine a_NoPlace a_NoDownset a_NoThing P_walker P__law_of_downsets P_leader P__law_of_lines)) (cl := 0) (i := 0) (ms := []) (q := .A) C_Order_kept_many rfl fl_Order (ps_fld (pv 0) (de_v 1 (q := .A) rfl (pv 1)) rfl))
 (dss_cons (Γ1 := [.os (.ins 0 [.fz .A, .ow .A]), .fz .A, .fl .A, .no, .no, .no, .no]) (ds_sfo (T := (tb a_Order a_NoLine a_NoPlace a_NoDownset a_NoThing P_walker P__law_of_downsets P_leader P__law_of_lines)) (cl := 0) (i := 0) (ms := [.fz .A]) (q := .A) C_Order_kept_lows rfl fl_Order (ps_fld (pv 0) (de_lst (q := .A) dq_nil) rfl))
 (dss_one (Γ1 := [.os (.ins 0 [.fz .A, .ow .A]), .fz .A, .fl .A, .no, .no, .no, .no]) (ds_for (cl := [3, 6, 4, 5]) (Γ1 := [.os (.ins 0 [.fz .A, .ow .A]), .fz .A, .fl .A, .fz .A, .no, .no, .no]) PassesOwn.never rfl (di_range1 (q := .A) (by rfl) z_range (de_v 1 (q := .A) rfl (pv 1))) (pg_name (i := 3) sc_Order_init.nd rfl (by first | exact Or.inl rfl | exact Or.inr rfl)) (tgs_n (q := .A) (by decide)) (dss_cons (Γ1 := [.os (.ins 0 [.fz .A, .ow .A]), .fz .A, .fl .A, .fz .A, .no, .no, .fz .A]) (ds_set (i := 6) (q := .A) sc_Order_init.nd rfl (by first | exact Or.inl rfl | exact Or.inr rfl) (de_int (q := .A)))
 (dss_cons (Γ1 := [.os (.ins 0 [.fz .A, .ow .A]), .fz .A, .fl .A, .fz .A, .no, .no, .fz .A]) (ds_for (cl := [4, 5]) (Γ1 := [.os (.ins 0 [.fz .A, .ow .A]), .fz .A, .fl .A, .fz .A, .fz .A, .fz .A, .fz .A]) PassesOwn.never rfl (di_listf (de_vl 2 (q := .A) rfl (pv 2))) (pg_tup rfl (pgs_cons (pg_name (i := 4) sc_Order_init.nd rfl (by first | exact Or.inl rfl | exact Or.inr rfl)) (pgs_cons (pg_name (i := 5) sc_Order_init.nd rfl (by first | exact Or.inl rfl | exact Or.inr rfl)) pgs_nil))) (tgs_t (is := [4, 5]) (q := .A) (by decide)) (dss_one (Γ1 := [.os (.ins 0 [.fz .A, .ow .A]), .fz .A, .fl .A, .fz .A, .fz .A, .fz .A, .fz .A]) (ds_if (Γn := [.os (.ins 0 [.fz .A, .ow .A]), .fz .A, .fl .A, .fz .A, .fz .A, .fz .A, .fz .A]) (dt_cmp op_eq (de_v 5 (q := .A) rfl (pv 5)) (de_v 3 (q := .A) rfl (pv 3)) (nomark _) (cs_eqS rfl)) (dss_one (Γ1 := [.os (.ins 0 [.fz .A, .ow .A]), .fz .A, .fl .A, .fz .A, .fz .A, .fz .A, .fz .A]) (ds_set (i := 6) (q := .A) sc_Order_init.nd rfl (by first | exact Or.inl rfl | exact Or.inr rfl) (de_or (q := .A) (de_or (q := .A) (de_v 6 (q := .A) rfl (pv 6)) (de_call o_bit_of hr (by rfl) (da_cons (de_v 4 (q := .A) rfl (pv 4)) da_nil) (aCons_len aNil_len))) (de_ix (de_sfo (q := .A) C_Order_kept_lows rfl rfl (pe_fld (pv 0) rfl)) (de_v 4 (q := .A) rfl (pv 4))))) rfl) (dss_nil rfl)) rfl) (by decide))
 (dss_one (Γ1 := [.os (.ins 0 [.fz .A, .ow .A]), .fz .A, .fl .A, .fz .A, .no, .no, .fz .A]) (ds_sfa (q := .A) C_Order_kept_lows rfl rfl (by decide) (pe_bm PySem.F.plainAttrs_list PySem.F.slot_list_append PySem.F.type_list_append mt_append (pe_fld (pv 0) rfl) (pa_cons (de_v 6 (q := .A) rfl (pv 6)) pa_nil))) rfl))) (by decide)) rfl)))))
theorem ok__law_line (F : FtF K mg "_law_line" "_law_line" (topS 51) ["_law_under_here", "_law_script", "_law_at"]) (o__law_raw : OkF P w K mg base (tb a_Order a_NoLine a_NoPlace a_NoDownset a_NoThing P_walker P__law_of_downsets P_leader P__law_of_lines) 1 "_law_raw" ["_law_script", "_law_k"] den__law_raw (.q .A)) (o__law_cell_at : OkF P w K mg base (tb a_Order a_NoLine a_NoPlace a_NoDownset a_NoThing P_walker P__law_of_downsets P_leader P__law_of_lines) 1 "_law_cell_at" ["_law_script", "_law_k"] den__law_cell_at (.q .A)) (z_len : mg "len" = none) (z_range : mg "range" = none) (z_all : mg "all" = none) (z_tuple : mg "tuple" = none) : OkF P w K mg base (tb a_Order a_NoLine a_NoPlace a_NoDownset a_NoThing P_walker P__law_of_downsets P_leader P__law_of_lines) 2 "_law_line" ["_law_under_here", "_law_script", "_law_at"] den__law_line (.od (.clo 1000)) :=
 mk_okf (k := 1) (Γn := [.fl .U, .fz .U, .fz .A, .no, .no, .no, .no, .no]) F sc__law_line rfl rfl (fun h => nomatch h) fun f cdv A outer s H E hr =>
 (dss_cons (Γ1 := [.fl .U, .fz .U, .fz .A, .ow .A, .no, .no, .no, .no]) (ds_seto (i := 3) (q := .A) sc__law_line.nd rfl (by first | exact Or.inl rfl | exact Or.inr rfl) (de_lst (q := .A) dq_nil))
 (dss_cons (Γ1 := [.fl .U, .fz .U, .fz .A, .ow .A, .fz .A, .no, .no, .no]) (ds_set (i := 4) (q := .A) sc__law_line.nd rfl (by first | exact Or.inl rfl | exact Or.inr rfl) (de_call o__law_raw hr (by rfl) (da_cons (de_v 1 (q := .U) rfl (pv 1)) (da_cons (de_v 2 (q := .A) rfl (pv 2)) da_nil)) (aCons_len (aCons_len aNil_len))))
 (dss_cons (Γ1 := [.fl .U, .fz .U, .fz .A, .ow .A, .fz .A, .no, .no, .no]) (ds_while (cl := [5, 6, 7]) (n := 10000) PassesOwn.never (dt_cmp op_lt (de_len (q := .A) (by rfl) z_len (de_vo 3 (q := .A) rfl (pv 3))) (de_len (q := .A) (by rfl) z_len (de_vl 0 (q := .U) rfl (pv 0))) (nomark _) (cs_lt rfl)) (dss_cons (Γ1 := [.fl .U, .fz .U, .fz .A, .ow .A, .fz .A, .ow .A, .no, .no]) (ds_seto (i := 5) (q := .A) sc__law_line.nd rfl (by first | exact Or.inl rfl | exact Or.inr rfl) (de_lst (q := .A) dq_nil))
 (dss_cons (Γ1 := [.fl .U, .fz .U, .fz .A, .ow .A, .fz .A, .ow .A, .no, .no]) (ds_for (cl := [6, 7]) (Γ1 := [.fl .U, .fz .U, .fz .A, .ow .A, .fz .A, .ow .A, .fz .A, .no]) PassesOwn.never rfl (di_range1 (q := .A) (by rfl) z_range (de_len (q := .A) (by rfl) z_len (de_vl 0 (q := .U) rfl (pv 0)))) (pg_name (i := 6) sc__law_line.nd rfl (by first | exact Or.inl rfl | exact Or.inr rfl)) (tgs_n (q := .A) (by decide)) (dss_one (Γ1 := [.fl .U, .fz .U, .fz .A, .ow .A, .fz .A, .ow .A, .fz .A, .no]) (ds_if (Γn := [.fl .U, .fz .U, .fz .A, .ow .A, .fz .A, .ow .A, .fz .A, .no]) (PW.pt (dw_and (dt_cmp (op_notInD (hr65 hr)) (de_v 6 (q := .A) rfl (pv 6)) (de_vo 3 (q := .A) rfl (pv 3)) (by rfl) (cs_notInD rfl)) (dw_and1 (dt_val (de_all (q := .A) rfl (by rfl) z_all (de_comp (p := .A) (Γ1 := [.fl .U, .fz .U, .fz .A, .ow .A, .fz .A, .ow .A, .fz .A, .fz .U]) (own := [("_law_low", 7)]) rfl sc__law_line.nd (di_list (de_ix (de_vl 0 (q := .U) rfl (pv 0)) (de_v 6 (q := .A) rfl (pv 6)))) (blkOk_by (N := nm__law_line) (sc := defScope (topS 51)) (own := [("_law_low", 7)]) (by first | decide +kernel | kernel_rfl | rfl)) (fun _ _ _ _ _ => (pg_name (i := 7) sc__law_line.nd rfl (by first | exact Or.inl rfl | exact Or.inr rfl))) (tgs_n (q := .U) (by decide)) (fun _ _ _ _ _ => pts_no) (fun _ _ _ _ _ => (de_cmp (q := .A) (op_inD (hr65 (rblk hr))) (de_v 7 (q := .U) rfl (pv 7)) (de_vo 3 (q := .A) rfl (pv 3)) (by rfl) (cs_inD rfl))) (by decide) (by decide))))))) (dss_one (Γ1 := [.fl .U, .fz .U, .fz .A, .ow .A, .fz .A, .ow .A, .fz .A, .no]) (ds_append 5 (q := .A) rfl (pe_bm PySem.F.plainAttrs_list PySem.F.slot_list_append PySem.F.type_list_append mt_append (pv 5) (pa_cons (de_v 6 (q := .A) rfl (pv 6)) pa_nil))) rfl) (dss_nil rfl)) rfl) (by decide))
 (dss_cons (Γ1 := [.fl .U, .fz .U, .fz .A, .ow .A, .fz .A, .ow .A, .no, .no]) (ds_if (Γn := [.fl .U, .fz .U, .fz .A, .ow .A, .fz .A, .ow .A, .no, .no]) (dt_cmp op_eq (de_mod (q := .A) (de_call o__law_raw hr (by rfl) (da_cons (de_v 1 (q := .U) rfl (pv 1)) (da_cons (de_int (q := .A)) da_nil)) (aCons_len (aCons_len aNil_len))) (de_int (q := .A))) (de_int (q := .A)) (nomark _) (cs_eqS rfl)) (dss_one (Γ1 := [.fl .U, .fz .U, .fz .A, .ow .A, .fz .A, .ow .A, .no, .no]) (ds_set (i := 4) (q := .A) sc__law_line.nd rfl (by first | exact Or.inl rfl | exact Or.inr rfl) (de_add (q := .A) (de_call o__law_cell_at hr (by rfl) (da_cons (de_v 1 (q := .U) rfl (pv 1)) (da_cons (de_add (q := .A) (de_v 2 (q := .A) rfl (pv 2)) (de_len (q := .A) (by rfl) z_len (de_vo 3 (q := .A) rfl (pv 3)))) da_nil)) (aCons_len (aCons_len aNil_len))) (de_mul (q := .A) (de_div (q := .A) (de_call o__law_cell_at hr (by rfl) (da_cons (de_v 1 (q := .U) rfl (pv 1)) (da_cons (de_int (q := .A)) da_nil)) (aCons_len (aCons_len aNil_len))) (de_int (q := .A))) (de_add (q := .A) (de_len (q := .A) (by rfl) z_len (de_vo 3 (q := .A) rfl (pv 3))) (de_int (q := .A)))))) rfl) (dss_nil rfl))
 (dss_cons (Γ1 := [.fl .U, .fz .U, .fz .A, .ow .A, .fz .A, .ow .A, .no, .no]) (ds_append 3 (q := .A) rfl (pe_bm PySem.F.plainAttrs_list PySem.F.slot_list_append PySem.F.type_list_append mt_append (pv 3) (pa_cons (de_ix (de_vo 5 (q := .A) rfl (pv 5)) (de_mod (q := .A) (de_v 4 (q := .A) rfl (pv 4)) (de_len (q := .A) (by rfl) z_len (de_vo 5 (q := .A) rfl (pv 5))))) pa_nil)))
 (dss_one (Γ1 := [.fl .U, .fz .U, .fz .A, .ow .A, .fz .A, .ow .A, .no, .no]) (ds_set (i := 4) (q := .A) sc__law_line.nd rfl (by first | exact Or.inl rfl | exact Or.inr rfl) (de_div (q := .A) (de_v 4 (q := .A) rfl (pv 4)) (de_len (q := .A) (by rfl) z_len (de_vo 5 (q := .A) rfl (pv 5))))) rfl))))) (by decide))
 (dss_one (Γ1 := [.fl .U, .fz .U, .fz .A, .no, .no, .no, .no, .no]) (ds_retTz (by rfl) z_tuple (de_vo 3 (q := .A) rfl (pv 3))) rfl))))
theorem ok__law_bits (F : FtF K mg "_law_bits" "_law_bits" (topS 50) ["_law_things"]) (z_range : mg "range" = none) : OkF P w K mg base (tb a_Order a_NoLine a_NoPlace a_NoDownset a_NoThing P_walker P__law_of_downsets P_leader P__law_of_lines) 1 "_law_bits" ["_law_things"] den__law_bits (.q .A) :=
 mk_okf (k := 0) (Γn := [.fl .A, .no, .no, .no, .no]) F sc__law_bits rfl rfl (fun _ => ⟨_, rfl⟩) fun f cdv A outer s H E hr =>
 (dss_cons (Γ1 := [.fl .A, .fz .A, .no, .no, .no]) (ds_set (i := 1) (q := .A) sc__law_bits.nd rfl (by first | exact Or.inl rfl | exact Or.inr rfl) (de_int (q := .A)))
 (dss_cons (Γ1 := [.fl .A, .fz .A, .no, .no, .no]) (ds_for (cl := [2, 3, 4]) (Γ1 := [.fl .A, .fz .A, .fz .A, .no, .no]) PassesOwn.never rfl (di_listf (de_vl 0 (q := .A) rfl (pv 0))) (pg_name (i := 2) sc__law_bits.nd rfl (by first | exact Or.inl rfl | exact Or.inr rfl)) (tgs_n (q := .A) (by decide)) (dss_cons (Γ1 := [.fl .A, .fz .A, .fz .A, .fz .A, .no]) (ds_set (i := 3) (q := .A) sc__law_bits.nd rfl (by first | exact Or.inl rfl | exact Or.inr rfl) (de_int (q := .A)))
 (dss_cons (Γ1 := [.fl .A, .fz .A, .fz .A, .fz .A, .no]) (ds_for (cl := [4]) (Γ1 := [.fl .A, .fz .A, .fz .A, .fz .A, .fz .A]) PassesOwn.never rfl (di_range1 (q := .A) (by rfl) z_range (de_v 2 (q := .A) rfl (pv 2))) (pg_name (i := 4) sc__law_bits.nd rfl (by first | exact Or.inl rfl | exact Or.inr rfl)) (tgs_n (q := .A) (by decide)) (dss_one (Γ1 := [.fl .A, .fz .A, .fz .A, .fz .A, .fz .A]) (ds_set (i := 3) (q := .A) sc__law_bits.nd rfl (by first | exact Or.inl rfl | exact Or.inr rfl) (de_mul (q := .A) (de_v 3 (q := .A) rfl (pv 3)) (de_int (q := .A)))) rfl) (by decide))
 (dss_one (Γ1 := [.fl .A, .fz .A, .fz .A, .fz .A, .no]) (ds_set (i := 1) (q := .A) sc__law_bits.nd rfl (by first | exact Or.inl rfl | exact Or.inr rfl) (de_add (q := .A) (de_v 1 (q := .A) rfl (pv 1)) (de_v 3 (q := .A) rfl (pv 3)))) rfl))) (by decide))
 (dss_one (Γ1 := [.fl .A, .no, .no, .no, .no]) (ds_ret (q := .A) (de_v 1 (q := .A) rfl (pv 1))) rfl)))
theorem ok__law_no_downset (F : FtF K mg "_law_no_downset" "_law_no_downset" (topS 55) ["_law_under_here", "_law_cell"]) (o__law_bits : OkF P w K mg base (tb a_Order a_NoLine a_NoPlace a_NoDownset a_NoThing P_walker P__law_of_downsets P_leader P__law_of_lines) 1 "_law_bits" ["_law_things"] den__law_bits (.q .A)) (z_len : mg "len" = none) (z_list : mg "list" = none) (z_range : mg "range" = none) : OkF P w K mg base (tb a_Order a_NoLine a_NoPlace a_NoDownset a_NoThing P_walker P__law_of_downsets P_leader P__law_of_lines) 2 "_law_no_downset" ["_law_under_here", "_law_cell"] den__law_no_downset (.q .A) :=
 mk_okf (k := 1) (Γn := [.fl .U, .fz .A, .no, .no, .no, .no]) F sc__law_no_downset rfl rfl (fun _ => ⟨_, rfl⟩) fun f cdv A outer s H E hr =>
 (dss_cons (Γ1 := [.fl .U, .fz .A, .fz .A, .no, .no, .no]) (ds_set (i := 2) (q := .A) sc__law_no_downset.nd rfl (by first | exact Or.inl rfl | exact Or.inr rfl) (de_len (q := .A) (by rfl) z_len (de_vl 0 (q := .U) rfl (pv 0))))
 (dss_cons (Γ1 := [.fl .U, .fz .A, .fz .A, .fz .A, .no, .no]) (ds_set (i := 3) (q := .A) sc__law_no_downset.nd rfl (by first | exact Or.inl rfl | exact Or.inr rfl) (de_call o__law_bits hr (by rfl) (da_cons (de_lrg1 (q := .A) rfl (by rfl) z_list (by rfl) z_range (de_v 2 (q := .A) rfl (pv 2))) da_nil) (aCons_len aNil_len)))
 (dss_cons (Γ1 := [.fl .U, .fz .A, .fz .A, .fz .A, .ow .A, .no]) (ds_seto (i := 4) (q := .A) sc__law_no_downset.nd rfl (by first | exact Or.inl rfl | exact Or.inr rfl) (de_lst (q := .A) (dq_cons (q := .A) (de_sub (q := .A) (de_sub (q := .A) (de_int (q := .A)) (de_int (q := .A))) (de_mod (q := .A) (de_div (q := .A) (de_v 1 (q := .A) rfl (pv 1)) (de_int (q := .A))) (de_int (q := .A)))) (dq_cons (q := .A) (de_add (q := .A) (de_add (q := .A) (de_v 3 (q := .A) rfl (pv 3)) (de_int (q := .A))) (de_mod (q := .A) (de_div (q := .A) (de_v 1 (q := .A) rfl (pv 1)) (de_int (q := .A))) (de_int (q := .A)))) (dq_cons (q := .A) (de_sub (q := .A) (de_sub (q := .A) (de_int (q := .A)) (de_int (q := .A))) (de_mod (q := .A) (de_v 1 (q := .A) rfl (pv 1)) (de_pow (q := .A) (de_int (q := .A)) (de_int (q := .A))))) dq_nil)))))
 (dss_cons (Γ1 := [.fl .U, .fz .A, .fz .A, .fz .A, .ow .A, .no]) (ds_for (cl := [5]) (Γ1 := [.fl .U, .fz .A, .fz .A, .fz .A, .ow .A, .fz .A]) PassesOwn.never rfl (di_range1 (q := .A) (by rfl) z_range (de_v 2 (q := .A) rfl (pv 2))) (pg_name (i := 5) sc__law_no_downset.nd rfl (by first | exact Or.inl rfl | exact Or.inr rfl)) (tgs_n (q := .A) (by decide)) (dss_one (Γ1 := [.fl .U, .fz .A, .fz .A, .fz .A, .ow .A, .fz .A]) (ds_if (Γn := [.fl .U, .fz .A, .fz .A, .fz .A, .ow .A, .fz .A]) (dt_cmp op_gt (de_len (q := .A) (by rfl) z_len (de_ix (de_vl 0 (q := .U) rfl (pv 0)) (de_v 5 (q := .A) rfl (pv 5)))) (de_int (q := .A)) (nomark _) (cs_gt rfl)) (dss_one (Γ1 := [.fl .U, .fz .A, .fz .A, .fz .A, .ow .A, .fz .A]) (ds_append 4 (q := .A) rfl (pe_bm PySem.F.plainAttrs_list PySem.F.slot_list_append PySem.F.type_list_append mt_append (pv 4) (pa_cons (de_call o__law_bits hr (by rfl) (da_cons (de_cat (q := .U) (de_bb (q := .U) (de_ob (de_lst (q := .A) (dq_cons (q := .A) (de_v 5 (q := .A) rfl (pv 5)) dq_nil)))) (de_slL (q := .U) (de_ix (de_vl 0 (q := .U) rfl (pv 0)) (de_v 5 (q := .A) rfl (pv 5))) (do_yes (de_int (q := .A))) do_no)) da_nil) (aCons_len aNil_len)) pa_nil))) rfl) (dss_nil rfl)) rfl) (by decide))
 (dss_one (Γ1 := [.fl .U, .fz .A, .no, .no, .no, .no]) (ds_ret (q := .A) (de_ix (de_vo 4 (q := .A) rfl (pv 4)) (de_mod (q := .A) (de_v 1 (q := .A) rfl (pv 1)) (de_len (q := .A) (by rfl) z_len (de_vo 4 (q := .A) rfl (pv 4)))))) rfl)))))
theorem ok__law_free (F : FtF K mg "_law_free" "_law_free" (topS 45) ["_law_script", "_law_k"]) (o__law_raw : OkF P w K mg base (tb a_Order a_NoLine a_NoPlace a_NoDownset a_NoThing P_walker P__law_of_downsets P_leader P__law_of_lines) 1 "_law_raw" ["_law_script", "_law_k"] den__law_raw (.q .A)) (o__law_cell_at : OkF P w K mg base (tb a_Order a_NoLine a_NoPlace a_NoDownset a_NoThing P_walker P__law_of_downsets P_leader P__law_of_lines) 1 "_law_cell_at" ["_law_script", "_law_k"] den__law_cell_at (.q .A)) : OkF P w K mg base (tb a_Order a_NoLine a_NoPlace a_NoDownset a_NoThing P_walker P__law_of_downsets P_leader P__law_of_lines) 2 "_law_free" ["_law_script", "_law_k"] den__law_free (.q .A) :=
 mk_okf (k := 1) (Γn := [.fz .U, .fz .A]) F sc__law_free rfl rfl (fun _ => ⟨_, rfl⟩) fun f cdv A outer s H E hr =>
 (dss_cons (Γ1 := [.fz .U, .fz .A]) (ds_if (Γn := [.fz .U, .fz .A]) (dt_cmp op_eq (de_mod (q := .A) (de_call o__law_raw hr (by rfl) (da_cons (de_v 0 (q := .U) rfl (pv 0)) (da_cons (de_int (q := .A)) da_nil)) (aCons_len (aCons_len aNil_len))) (de_int (q := .A))) (de_int (q := .A)) (nomark _) (cs_eqS rfl)) (dss_one (Γ1 := [.fz .U, .fz .A]) (ds_ret (q := .A) (de_call o__law_raw hr (by rfl) (da_cons (de_v 0 (q := .U) rfl (pv 0)) (da_cons (de_v 1 (q := .A) rfl (pv 1)) da_nil)) (aCons_len (aCons_len aNil_len)))) rfl) (dss_nil rfl))
 (dss_one (Γ1 := [.fz .U, .fz .A]) (ds_ret (q := .A) (de_call o__law_cell_at hr (by rfl) (da_cons (de_v 0 (q := .U) rfl (pv 0)) (da_cons (de_v 1 (q := .A) rfl (pv 1)) da_nil)) (aCons_len (aCons_len aNil_len)))) rfl))
theorem ok__law_others (F : FtF K mg "_law_others" "_law_others" (topS 52) ["_law_e"]) (z_isinstance : mg "isinstance" = none) (m_NoText : mg "NoText" = some (.ref a_NoText)) (m_NoRow : mg "NoRow" = some (.ref a_NoRow)) (m_NoPair : mg "NoPair" = some (.ref a_NoPair)) (m_NoNumber : mg "NoNumber" = some (.ref a_NoNumber)) (m_NoField : mg "NoField" = some (.ref a_NoField)) (m_NoCount : mg "NoCount" = some (.ref a_NoCount)) (X_NoLine : L2.ExcC K a_NoLine) (kt_NoLine_NoCount : PySem.W.kitOne K (.ref a_NoLine) (.ref a_NoCount) = some false) (kt_NoLine_NoField : PySem.W.kitOne K (.ref a_NoLine) (.ref a_NoField) = some false) (kt_NoLine_NoNumber : PySem.W.kitOne K (.ref a_NoLine) (.ref a_NoNumber) = some false) (kt_NoLine_NoPair : PySem.W.kitOne K (.ref a_NoLine) (.ref a_NoPair) = some false) (kt_NoLine_NoRow : PySem.W.kitOne K (.ref a_NoLine) (.ref a_NoRow) = some false) (kt_NoLine_NoText : PySem.W.kitOne K (.ref a_NoLine) (.ref a_NoText) = some false) (X_NoPlace : L2.ExcC K a_NoPlace) (kt_NoPlace_NoCount : PySem.W.kitOne K (.ref a_NoPlace) (.ref a_NoCount) = some false) (kt_NoPlace_NoField : PySem.W.kitOne K (.ref a_NoPlace) (.ref a_NoField) = some false) (kt_NoPlace_NoNumber : PySem.W.kitOne K (.ref a_NoPlace) (.ref a_NoNumber) = some false) (kt_NoPlace_NoPair : PySem.W.kitOne K (.ref a_NoPlace) (.ref a_NoPair) = some false) (kt_NoPlace_NoRow : PySem.W.kitOne K (.ref a_NoPlace) (.ref a_NoRow) = some false) (kt_NoPlace_NoText : PySem.W.kitOne K (.ref a_NoPlace) (.ref a_NoText) = some false) (X_NoDownset : L2.ExcC K a_NoDownset) (kt_NoDownset_NoCount : PySem.W.kitOne K (.ref a_NoDownset) (.ref a_NoCount) = some false) (kt_NoDownset_NoField : PySem.W.kitOne K (.ref a_NoDownset) (.ref a_NoField) = some false) (kt_NoDownset_NoNumber : PySem.W.kitOne K (.ref a_NoDownset) (.ref a_NoNumber) = some false) (kt_NoDownset_NoPair : PySem.W.kitOne K (.ref a_NoDownset) (.ref a_NoPair) = some false) (kt_NoDownset_NoRow : PySem.W.kitOne K (.ref a_NoDownset) (.ref a_NoRow) = some false) (kt_NoDownset_NoText : PySem.W.kitOne K (.ref a_NoDownset) (.ref a_NoText) = some false) (X_NoThing : L2.ExcC K a_NoThing) (kt_NoThing_NoCount : PySem.W.kitOne K (.ref a_NoThing) (.ref a_NoCount) = some false) (kt_NoThing_NoField : PySem.W.kitOne K (.ref a_NoThing) (.ref a_NoField) = some false) (kt_NoThing_NoNumber : PySem.W.kitOne K (.ref a_NoThing) (.ref a_NoNumber) = some false) (kt_NoThing_NoPair : PySem.W.kitOne K (.ref a_NoThing) (.ref a_NoPair) = some false) (kt_NoThing_NoRow : PySem.W.kitOne K (.ref a_NoThing) (.ref a_NoRow) = some false) (kt_NoThing_NoText : PySem.W.kitOne K (.ref a_NoThing) (.ref a_NoText) = some false) (m_TooMany : mg "TooMany" = some (.ref a_TooMany)) (m_NothingDone : mg "NothingDone" = some (.ref a_NothingDone)) (kt_NoLine_NothingDone : PySem.W.kitOne K (.ref a_NoLine) (.ref a_NothingDone) = some false) (kt_NoLine_TooMany : PySem.W.kitOne K (.ref a_NoLine) (.ref a_TooMany) = some false) (kt_NoPlace_NothingDone : PySem.W.kitOne K (.ref a_NoPlace) (.ref a_NothingDone) = some false) (kt_NoPlace_TooMany : PySem.W.kitOne K (.ref a_NoPlace) (.ref a_TooMany) = some false) (kt_NoDownset_NothingDone : PySem.W.kitOne K (.ref a_NoDownset) (.ref a_NothingDone) = some false) (kt_NoDownset_TooMany : PySem.W.kitOne K (.ref a_NoDownset) (.ref a_TooMany) = some false) (kt_NoThing_NothingDone : PySem.W.kitOne K (.ref a_NoThing) (.ref a_NothingDone) = some false) (kt_NoThing_TooMany : PySem.W.kitOne K (.ref a_NoThing) (.ref a_TooMany) = some false) (z_int : mg "int" = none) : OkFA P w K mg base (tb a_Order a_NoLine a_NoPlace a_NoDownset a_NoThing P_walker P__law_of_downsets P_leader P__law_of_lines) 1 "_law_others" ["_law_e"] den__law_others (.q .A) :=
 mk_okfa (k := 0) (Γn := [.fz .A]) F sc__law_others rfl rfl (fun _ => ⟨_, rfl⟩) fun f cdv A outer s H E p hr =>
 (dss_cons (Γ1 := [.fz .A]) (ds_if (Γn := [.fz .A]) (dt_val (de_isT (q := .A) (cs := [.ref a_NoCount, .ref a_NoField, .ref a_NoNumber, .ref a_NoPair, .ref a_NoRow, .ref a_NoText]) (cvs := [.ref a_NoCount, .ref a_NoField, .ref a_NoNumber, .ref a_NoPair, .ref a_NoRow, .ref a_NoText]) (te := [(10, false), (12, false), (13, false), (15, false)]) (by rfl) z_isinstance (.cons (.own _) (.cons (.own _) (.cons (.own _) (.cons (.own _) (.cons (.own _) (.cons (.own _) .nil)))))) (allc ⟨X_NoThing, (ka_f kt_NoThing_NoCount (ka_f kt_NoThing_NoField (ka_f kt_NoThing_NoNumber (ka_f kt_NoThing_NoPair (ka_f kt_NoThing_NoRow (ka_f kt_NoThing_NoText kitAny_nil))))))⟩ (allc ⟨X_NoDownset, (ka_f kt_NoDownset_NoCount (ka_f kt_NoDownset_NoField (ka_f kt_NoDownset_NoNumber (ka_f kt_NoDownset_NoPair (ka_f kt_NoDownset_NoRow (ka_f kt_NoDownset_NoText kitAny_nil))))))⟩ (allc ⟨X_NoPlace, (ka_f kt_NoPlace_NoCount (ka_f kt_NoPlace_NoField (ka_f kt_NoPlace_NoNumber (ka_f kt_NoPlace_NoPair (ka_f kt_NoPlace_NoRow (ka_f kt_NoPlace_NoText kitAny_nil))))))⟩ (allc ⟨X_NoLine, (ka_f kt_NoLine_NoCount (ka_f kt_NoLine_NoField (ka_f kt_NoLine_NoNumber (ka_f kt_NoLine_NoPair (ka_f kt_NoLine_NoRow (ka_f kt_NoLine_NoText kitAny_nil))))))⟩ alln)))) (de_v 0 (q := .A) rfl (pv 0)) (pa_cons (pe_glob (by rfl) m_NoCount rfl) (pa_cons (pe_glob (by rfl) m_NoField rfl) (pa_cons (pe_glob (by rfl) m_NoNumber rfl) (pa_cons (pe_glob (by rfl) m_NoPair rfl) (pa_cons (pe_glob (by rfl) m_NoRow rfl) (pa_cons (pe_glob (by rfl) m_NoText rfl) pa_nil)))))))) (dss_one (Γ1 := [.fz .A]) (ds_ret (q := .A) (de_int (q := .A))) rfl) (dss_nil rfl))
 (dss_one (Γ1 := [.fz .A]) (ds_ret (q := .A) (de_intc (q := .A) (by rfl) z_int (de_isT (q := .A) (cs := [.ref a_NothingDone, .ref a_TooMany]) (cvs := [.ref a_NothingDone, .ref a_TooMany]) (te := [(10, false), (12, false), (13, false), (15, false)]) (by rfl) z_isinstance (.cons (.own _) (.cons (.own _) .nil)) (allc ⟨X_NoThing, (ka_f kt_NoThing_NothingDone (ka_f kt_NoThing_TooMany kitAny_nil))⟩ (allc ⟨X_NoDownset, (ka_f kt_NoDownset_NothingDone (ka_f kt_NoDownset_TooMany kitAny_nil))⟩ (allc ⟨X_NoPlace, (ka_f kt_NoPlace_NothingDone (ka_f kt_NoPlace_TooMany kitAny_nil))⟩ (allc ⟨X_NoLine, (ka_f kt_NoLine_NothingDone (ka_f kt_NoLine_TooMany kitAny_nil))⟩ alln)))) (de_v 0 (q := .A) rfl (pv 0)) (pa_cons (pe_glob (by rfl) m_NothingDone rfl) (pa_cons (pe_glob (by rfl) m_TooMany rfl) pa_nil))))) rfl))
theorem ok__law_kinds (F : FtF K mg "_law_kinds" "_law_kinds" (topS 53) ["_law_e"]) (o__law_others : OkFA P w K mg base (tb a_Order a_NoLine a_NoPlace a_NoDownset a_NoThing P_walker P__law_of_downsets P_leader P__law_of_lines) 1 "_law_others" ["_law_e"] den__law_others (.q .A)) (z_isinstance : mg "isinstance" = none) (m_NoDownset : mg "NoDownset" = some (.ref a_NoDownset)) (X_NoLine : L2.ExcC K a_NoLine) (kt_NoLine_NoDownset : PySem.W.kitOne K (.ref a_NoLine) (.ref a_NoDownset) = some false) (X_NoPlace : L2.ExcC K a_NoPlace) (kt_NoPlace_NoDownset : PySem.W.kitOne K (.ref a_NoPlace) (.ref a_NoDownset) = some false) (X_NoDownset : L2.ExcC K a_NoDownset) (kt_NoDownset_NoDownset : PySem.W.kitOne K (.ref a_NoDownset) (.ref a_NoDownset) = some true) (X_NoThing : L2.ExcC K a_NoThing) (kt_NoThing_NoDownset : PySem.W.kitOne K (.ref a_NoThing) (.ref a_NoDownset) = some false) (m_NoThing : mg "NoThing" = some (.ref a_NoThing)) (kt_NoLine_NoThing : PySem.W.kitOne K (.ref a_NoLine) (.ref a_NoThing) = some false) (kt_NoPlace_NoThing : PySem.W.kitOne K (.ref a_NoPlace) (.ref a_NoThing) = some false) (kt_NoDownset_NoThing : PySem.W.kitOne K (.ref a_NoDownset) (.ref a_NoThing) = some false) (kt_NoThing_NoThing : PySem.W.kitOne K (.ref a_NoThing) (.ref a_NoThing) = some true) (m_NoLine : mg "NoLine" = some (.ref a_NoLine)) (kt_NoLine_NoLine : PySem.W.kitOne K (.ref a_NoLine) (.ref a_NoLine) = some true) (kt_NoPlace_NoLine : PySem.W.kitOne K (.ref a_NoPlace) (.ref a_NoLine) = some false) (kt_NoDownset_NoLine : PySem.W.kitOne K (.ref a_NoDownset) (.ref a_NoLine) = some false) (kt_NoThing_NoLine : PySem.W.kitOne K (.ref a_NoThing) (.ref a_NoLine) = some false) (m_NoPlace : mg "NoPlace" = some (.ref a_NoPlace)) (kt_NoLine_NoPlace : PySem.W.kitOne K (.ref a_NoLine) (.ref a_NoPlace) = some false) (kt_NoPlace_NoPlace : PySem.W.kitOne K (.ref a_NoPlace) (.ref a_NoPlace) = some true) (kt_NoDownset_NoPlace : PySem.W.kitOne K (.ref a_NoDownset) (.ref a_NoPlace) = some false) (kt_NoThing_NoPlace : PySem.W.kitOne K (.ref a_NoThing) (.ref a_NoPlace) = some false) (z_int : mg "int" = none) (z_sum : mg "sum" = none) (z_ValueError : mg "ValueError" = none) (kt_NoLine_ValueError : PySem.W.kitOne K (.ref a_NoLine) (.type "ValueError") = some true) (kt_NoPlace_ValueError : PySem.W.kitOne K (.ref a_NoPlace) (.type "ValueError") = some true) (kt_NoDownset_ValueError : PySem.W.kitOne K (.ref a_NoDownset) (.type "ValueError") = some true) (kt_NoThing_ValueError : PySem.W.kitOne K (.ref a_NoThing) (.type "ValueError") = some true) (xf_NoDownset_bits : PySem.W.findIn K (.ref a_NoDownset) "bits" = some none) (xf_NoThing_thing : PySem.W.findIn K (.ref a_NoThing) "thing" = some none) (xf_NoPlace_place : PySem.W.findIn K (.ref a_NoPlace) "place" = some none) : OkFTh P w K mg base (tb a_Order a_NoLine a_NoPlace a_NoDownset a_NoThing P_walker P__law_of_downsets P_leader P__law_of_lines) 2 "_law_kinds" ["_law_e"] den__law_kinds_v6 (.q .A) :=
 mk_okfth (k := 1) (Γn := [.fz .A, .no, .no]) F sc__law_kinds rfl rfl (fun _ => ⟨_, rfl⟩) fun f cdv A outer s H E p hr hot =>
 (dss_cons (Γ1 := [.fz .A, .ow .A, .no]) (ds_seto (i := 1) (q := .A) sc__law_kinds.nd rfl (by first | exact Or.inl rfl | exact Or.inr rfl) (de_lst (q := .A) (dq_cons (q := .A) (de_isC (q := .A) (ti := []) (te := [(10, false), (12, true), (13, false), (15, false)]) (nn := none) (cv := (.ref a_NoDownset)) (by rfl) z_isinstance (.own a_NoDownset) alln (allc ⟨X_NoThing, kt_NoThing_NoDownset⟩ (allc ⟨X_NoDownset, kt_NoDownset_NoDownset⟩ (allc ⟨X_NoPlace, kt_NoPlace_NoDownset⟩ (allc ⟨X_NoLine, kt_NoLine_NoDownset⟩ alln)))) (fun _ h => nomatch h) (de_v 0 (q := .A) rfl (pv 0)) (pe_glob (by rfl) m_NoDownset rfl)) (dq_cons (q := .A) (de_isC (q := .A) (ti := []) (te := [(10, true), (12, false), (13, false), (15, false)]) (nn := none) (cv := (.ref a_NoThing)) (by rfl) z_isinstance (.own a_NoThing) alln (allc ⟨X_NoThing, kt_NoThing_NoThing⟩ (allc ⟨X_NoDownset, kt_NoDownset_NoThing⟩ (allc ⟨X_NoPlace, kt_NoPlace_NoThing⟩ (allc ⟨X_NoLine, kt_NoLine_NoThing⟩ alln)))) (fun _ h => nomatch h) (de_v 0 (q := .A) rfl (pv 0)) (pe_glob (by rfl) m_NoThing rfl)) (dq_cons (q := .A) (de_isC (q := .A) (ti := []) (te := [(10, false), (12, false), (13, false), (15, true)]) (nn := none) (cv := (.ref a_NoLine)) (by rfl) z_isinstance (.own a_NoLine) alln (allc ⟨X_NoThing, kt_NoThing_NoLine⟩ (allc ⟨X_NoDownset, kt_NoDownset_NoLine⟩ (allc ⟨X_NoPlace, kt_NoPlace_NoLine⟩ (allc ⟨X_NoLine, kt_NoLine_NoLine⟩ alln)))) (fun _ h => nomatch h) (de_v 0 (q := .A) rfl (pv 0)) (pe_glob (by rfl) m_NoLine rfl)) (dq_cons (q := .A) (de_isC (q := .A) (ti := []) (te := [(10, false), (12, false), (13, true), (15, false)]) (nn := none) (cv := (.ref a_NoPlace)) (by rfl) z_isinstance (.own a_NoPlace) alln (allc ⟨X_NoThing, kt_NoThing_NoPlace⟩ (allc ⟨X_NoDownset, kt_NoDownset_NoPlace⟩ (allc ⟨X_NoPlace, kt_NoPlace_NoPlace⟩ (allc ⟨X_NoLine, kt_NoLine_NoPlace⟩ alln)))) (fun _ h => nomatch h) (de_v 0 (q := .A) rfl (pv 0)) (pe_glob (by rfl) m_NoPlace rfl)) dq_nil))))))
 (dss_cons (Γ1 := [.fz .A, .ow .A, .no]) (ds_if (Γn := [.fz .A, .ow .A, .no]) (PW.pt (dw_or (dt_cmp op_ne (de_add (q := .A) (de_sumT (q := .A) hot (by rfl) z_sum (de_intC2 (j := 2) (q := .A) hot (de_vo 1 (q := .A) rfl (pv 1)) z_int)) (de_callA o__law_others hr (by rfl) (da_cons (de_v 0 (q := .A) rfl (pv 0)) da_nil) (aCons_len aNil_len))) (de_int (q := .A)) (nomark _) (cs_neS rfl)) (dw_or1 (dt_not (dt_val (de_isC (q := .A) (ti := []) (te := [(10, true), (12, true), (13, true), (15, true)]) (nn := none) (cv := (.type "ValueError")) (by rfl) z_isinstance (.ty "ValueError") alln (allc ⟨X_NoThing, kt_NoThing_ValueError⟩ (allc ⟨X_NoDownset, kt_NoDownset_ValueError⟩ (allc ⟨X_NoPlace, kt_NoPlace_ValueError⟩ (allc ⟨X_NoLine, kt_NoLine_ValueError⟩ alln)))) (fun _ h => nomatch h) (de_v 0 (q := .A) rfl (pv 0)) (pe_bltn (v := .ty "ValueError") (by rfl) z_ValueError (by decide +kernel) rfl))))))) (dss_one (Γ1 := [.fz .A, .ow .A, .no]) (ds_ret (q := .A) (de_tup (q := .A) (dq_cons (q := .A) (de_str (q := .A)) (dq_cons (q := .A) (de_int (q := .A)) dq_nil)))) rfl) (dss_nil rfl))
 (dss_cons (Γ1 := [.fz .A, .ow .A, .no]) (ds_if (Γn := [.fz .A, .ow .A, .no]) (dt_val (de_ix (de_vo 1 (q := .A) rfl (pv 1)) (de_int (q := .A)))) (dss_one (Γ1 := [.fz .A, .ow .A, .no]) (ds_ret (q := .A) (de_tup (q := .A) (dq_cons (q := .A) (de_str (q := .A)) (dq_cons (q := .A) (de_fldE (cl := 12) (j := 0) ⟨X_NoDownset.hg, X_NoDownset.hk, X_NoDownset.hs, X_NoDownset.hd⟩ xf_NoDownset_bits rfl fd_NoDownset (de_v 0 (q := .A) rfl (pv 0))) dq_nil)))) rfl) (dss_nil rfl))
 (dss_cons (Γ1 := [.fz .A, .ow .A, .no]) (ds_if (Γn := [.fz .A, .ow .A, .no]) (dt_val (de_ix (de_vo 1 (q := .A) rfl (pv 1)) (de_int (q := .A)))) (dss_one (Γ1 := [.fz .A, .ow .A, .no]) (ds_ret (q := .A) (de_tup (q := .A) (dq_cons (q := .A) (de_str (q := .A)) (dq_cons (q := .A) (de_fldE (cl := 10) (j := 0) ⟨X_NoThing.hg, X_NoThing.hk, X_NoThing.hs, X_NoThing.hd⟩ xf_NoThing_thing rfl fd_NoThing (de_v 0 (q := .A) rfl (pv 0))) dq_nil)))) rfl) (dss_nil rfl))
 (dss_cons (Γ1 := [.fz .A, .ow .A, .no]) (ds_if (Γn := [.fz .A, .ow .A, .no]) (dt_val (de_ix (de_vo 1 (q := .A) rfl (pv 1)) (de_int (q := .A)))) (dss_one (Γ1 := [.fz .A, .ow .A, .no]) (ds_ret (q := .A) (de_tup (q := .A) (dq_cons (q := .A) (de_str (q := .A)) (dq_cons (q := .A) (de_int (q := .A)) dq_nil)))) rfl) (dss_nil rfl))
 (dss_one (Γ1 := [.fz .A, .no, .no]) (ds_ret (q := .A) (de_if (dt_val (de_ix (de_vo 1 (q := .A) rfl (pv 1)) (de_int (q := .A)))) (de_tup (q := .A) (dq_cons (q := .A) (de_str (q := .A)) (dq_cons (q := .A) (de_fldE (cl := 13) (j := 0) ⟨X_NoPlace.hg, X_NoPlace.hk, X_NoPlace.hs, X_NoPlace.hd⟩ xf_NoPlace_place rfl fd_NoPlace (de_v 0 (q := .A) rfl (pv 0))) dq_nil))) (de_tup (q := .A) (dq_cons (q := .A) (de_str (q := .A)) (dq_cons (q := .A) (de_int (q := .A)) dq_nil))))) rfl))))))
theorem ok__law_said (F : FtF K mg "_law_said" "_law_said" (topS 54) ["_law_deed"]) (o__law_kinds : OkFTh P w K mg base (tb a_Order a_NoLine a_NoPlace a_NoDownset a_NoThing P_walker P__law_of_downsets P_leader P__law_of_lines) 2 "_law_kinds" ["_law_e"] den__law_kinds_v6 (.q .A)) (m_ToggleError : mg "ToggleError" = some (.ref a_ToggleError)) (xm_NoLine_ToggleError : PySem.W.exmOne K (.ref a_NoLine) (.ref a_ToggleError) = some true) (xm_NoPlace_ToggleError : PySem.W.exmOne K (.ref a_NoPlace) (.ref a_ToggleError) = some true) (xm_NoDownset_ToggleError : PySem.W.exmOne K (.ref a_NoDownset) (.ref a_ToggleError) = some true) (xm_NoThing_ToggleError : PySem.W.exmOne K (.ref a_NoThing) (.ref a_ToggleError) = some true) : OkFL P w K mg base (tb a_Order a_NoLine a_NoPlace a_NoDownset a_NoThing P_walker P__law_of_downsets P_leader P__law_of_lines) 3 "_law_said" den__law_said_v5 :=
 mk_okfl (a := "_law_deed") (m := 2) (kd := 0) (k := 2) (body := b__law_said_v5) (Γn := [.os (.cus .A 0), .no, .no]) F sc__law_said rfl rfl rfl (by first | exact Or.inl rfl | exact Or.inr (Or.inl rfl)) rfl rfl fun f g cdv A outer s H r hr act =>
 (dss_cons (Γ1 := [.os (.cus .A 0), .fz .A, .no]) (ds_set (i := 1) (q := .A) sc__law_said.nd rfl (by first | exact Or.inl rfl | exact Or.inr rfl) (de_tup (q := .A) (dq_cons (q := .A) (de_str (q := .A)) (dq_cons (q := .A) (de_int (q := .A)) dq_nil))))
 (dss_cons (Γ1 := [.os (.cus .A 0), .fz .A, .no]) (ds_try (Γx := [.os (.cus .A 0), .fz .A, .no]) (Γn := [.os (.cus .A 0), .fz .A, .no]) rfl rfl sc__law_said.nd rfl (fun W pn xe tk PO => (dss_one (Γ1 := [.os (.cus .A 0), .fz .A, .no]) (ds_dropX (act _ _ _ _ _ _ tk rfl) rfl) rfl)) (HOk.consG (yes := [10, 12, 13, 15]) (no := []) (i := 2) (Γg := [.os (.cus .A 0), .fz .A, .fz .A]) ⟨rfl, by decide, .inl m_ToggleError⟩ (allc xm_NoThing_ToggleError (allc xm_NoDownset_ToggleError (allc xm_NoPlace_ToggleError (allc xm_NoLine_ToggleError alln)))) alln rfl rfl (by decide) (fun a pn => (pss_hot (X := Cx.suite _ a pn) (q := .A) (i := 2) (j := 1) rfl o__law_kinds (rhot hr) (by rfl) (pv 2) sc__law_said.nd rfl (by first | exact Or.inl rfl | exact Or.inr rfl) rfl (by decide) rfl rfl (by decide) rfl (by first | exact Or.inl rfl | exact Or.inr rfl | assumption) (by decide) rfl rfl)) rfl
 HOk.nil) (List.cons_ne_nil _ _))
 (dss_one (Γ1 := [.os (.cus .A 0), .no, .no]) (ds_ret (q := .A) (de_v 1 (q := .A) rfl (pv 1))) rfl)))
theorem ok_Order_size (F : FtM K (tb a_Order a_NoLine a_NoPlace a_NoDownset a_NoThing P_walker P__law_of_downsets P_leader P__law_of_lines) 0 "size" "Order.size" (inClass (topS 19) 1) ["self"]) (C_Order_kept_many : ClsF K (tb a_Order a_NoLine a_NoPlace a_NoDownset a_NoThing P_walker P__law_of_downsets P_leader P__law_of_lines) 0 0 "kept_many") : OkM P w K mg base (tb a_Order a_NoLine a_NoPlace a_NoDownset a_NoThing P_walker P__law_of_downsets P_leader P__law_of_lines) 1 0 "size" ["self"] den_Order_size (.q .A) :=
 mk_okm (k := 0) (Γn := [.fz .U]) F sc_Order_size rfl rfl (fun _ => ⟨_, rfl⟩) fun f cdv A outer s H E hr =>
 (dss_one (Γ1 := [.fz .U]) (ds_ret (q := .A) (de_A (q := .A) (de_fld C_Order_kept_many (de_v 0 (q := .U) rfl (pv 0))))) rfl)
theorem ok_things_of (F : FtF K mg "things_of" "things_of" (topS 21) ["bits"]) (z_range : mg "range" = none) {t_MOST_THINGS : Tok} (g_MOST_THINGS : mg "MOST_THINGS" = some (.int 9 t_MOST_THINGS)) {p_BITS : Addr} (g_BITS : mg "BITS" = some (.ref p_BITS)) (r_BITS : TupK K p_BITS [1, 2, 4, 8, 16, 32, 64, 128, 256, 512]) : OkF P w K mg base (tb a_Order a_NoLine a_NoPlace a_NoDownset a_NoThing P_walker P__law_of_downsets P_leader P__law_of_lines) 1 "things_of" ["bits"] den_things_of (.ol .A) :=
 mk_okf (k := 0) (Γn := [.fz .A, .no]) F sc_things_of rfl rfl (fun h => nomatch h) fun f cdv A outer s H E hr =>
 (dss_one (Γ1 := [.fz .A, .no]) (ds_reto (q := .A) (de_oo (de_comp (p := .A) (Γ1 := [.fz .A, .fz .A]) (own := [("thing", 1)]) rfl sc_things_of.nd (di_range1 (q := .A) (by rfl) z_range (de_gint (q := .A) (by rfl) g_MOST_THINGS ⟨_, rfl⟩)) (blkOk_by (N := nm_things_of) (sc := defScope (topS 21)) (own := [("thing", 1)]) (by first | decide +kernel | kernel_rfl | rfl)) (fun _ _ _ _ _ => (pg_name (i := 1) sc_things_of.nd rfl (by first | exact Or.inl rfl | exact Or.inr rfl))) (tgs_n (q := .A) (by decide)) (fun _ _ _ _ _ => (pts_one (dt_cmp op_gt (de_and (q := .A) (de_v 0 (q := .A) rfl (pv 0)) (de_gtupK (q := .A) (by decide) (by rfl) g_BITS r_BITS (de_v 1 (q := .A) rfl (pv 1)))) (de_int (q := .A)) (nomark _) (cs_gt rfl)))) (fun _ _ _ _ _ => (de_v 1 (q := .A) rfl (pv 1))) (by decide) (by decide)))) rfl)
theorem ok_Order_lows_of (F : FtM K (tb a_Order a_NoLine a_NoPlace a_NoDownset a_NoThing P_walker P__law_of_downsets P_leader P__law_of_lines) 0 "lows_of" "Order.lows_of" (inClass (topS 19) 3) ["self", "thing"]) (C_Order_kept_lows : ClsF K (tb a_Order a_NoLine a_NoPlace a_NoDownset a_NoThing P_walker P__law_of_downsets P_leader P__law_of_lines) 0 1 "kept_lows") : OkM P w K mg base (tb a_Order a_NoLine a_NoPlace a_NoDownset a_NoThing P_walker P__law_of_downsets P_leader P__law_of_lines) 1 0 "lows_of" ["self", "thing"] den_Order_lows_of (.q .A) :=
 mk_okm (k := 0) (Γn := [.fz .U, .fz .A]) F sc_Order_lows_of rfl rfl (fun _ => ⟨_, rfl⟩) fun f cdv A outer s H E hr =>
 (dss_one (Γ1 := [.fz .U, .fz .A]) (ds_ret (q := .A) (de_A (q := .A) (de_ix (de_fld C_Order_kept_lows (de_v 0 (q := .U) rfl (pv 0))) (de_v 1 (q := .A) rfl (pv 1))))) rfl)
theorem ok_has_lows (F : FtF K mg "has_lows" "has_lows" (topS 23) ["order", "bits", "thing"]) (o_Order_lows_of : OkM P w K mg base (tb a_Order a_NoLine a_NoPlace a_NoDownset a_NoThing P_walker P__law_of_downsets P_leader P__law_of_lines) 1 0 "lows_of" ["self", "thing"] den_Order_lows_of (.q .A)) : OkF P w K mg base (tb a_Order a_NoLine a_NoPlace a_NoDownset a_NoThing P_walker P__law_of_downsets P_leader P__law_of_lines) 2 "has_lows" ["order", "bits", "thing"] den_has_lows (.q .A) :=
 mk_okf (k := 1) (Γn := [.fz .U, .fz .A, .fz .A, .no]) F sc_has_lows rfl rfl (fun _ => ⟨_, rfl⟩) fun f cdv A outer s H E hr =>
 (dss_cons (Γ1 := [.fz .U, .fz .A, .fz .A, .fz .A]) (ds_set (i := 3) (q := .A) sc_has_lows.nd rfl (by first | exact Or.inl rfl | exact Or.inr rfl) (de_meth o_Order_lows_of hr (de_v 0 (q := .U) rfl (pv 0)) (da_cons (de_v 2 (q := .A) rfl (pv 2)) da_nil) (aSuc (aCons_len aNil_len))))
 (dss_one (Γ1 := [.fz .U, .fz .A, .fz .A, .no]) (ds_ret (q := .A) (de_cmp (q := .A) op_eq (de_and (q := .A) (de_v 3 (q := .A) rfl (pv 3)) (de_v 1 (q := .A) rfl (pv 1))) (de_v 3 (q := .A) rfl (pv 3)) (nomark _) (cs_eqS rfl))) rfl))
theorem ok_is_downset (F : FtF K mg "is_downset" "is_downset" (topS 24) ["order", "bits"]) (o_bit_of : OkF P w K mg base (tb a_Order a_NoLine a_NoPlace a_NoDownset a_NoThing P_walker P__law_of_downsets P_leader P__law_of_lines) 1 "bit_of" ["thing"] den_bit_of (.q .A)) (o_Order_size : OkM P w K mg base (tb a_Order a_NoLine a_NoPlace a_NoDownset a_NoThing P_walker P__law_of_downsets P_leader P__law_of_lines) 1 0 "size" ["self"] den_Order_size (.q .A)) (o_things_of : OkF P w K mg base (tb a_Order a_NoLine a_NoPlace a_NoDownset a_NoThing P_walker P__law_of_downsets P_leader P__law_of_lines) 1 "things_of" ["bits"] den_things_of (.ol .A)) (o_has_lows : OkF P w K mg base (tb a_Order a_NoLine a_NoPlace a_NoDownset a_NoThing P_walker P__law_of_downsets P_leader P__law_of_lines) 2 "has_lows" ["order", "bits", "thing"] den_has_lows (.q .A)) (z_all : mg "all" = none) : OkF P w K mg base (tb a_Order a_NoLine a_NoPlace a_NoDownset a_NoThing P_walker P__law_of_downsets P_leader P__law_of_lines) 3 "is_downset" ["order", "bits"] den_is_downset (.q .A) :=
 mk_okf (k := 2) (Γn := [.fz .U, .fz .A, .no]) F sc_is_downset rfl rfl (fun _ => ⟨_, rfl⟩) fun f cdv A outer s H E hr =>
 (dss_cons (Γ1 := [.fz .U, .fz .A, .no]) (ds_if (Γn := [.fz .U, .fz .A, .no]) (PW.pt (dw_or (dt_cmp op_lt (de_v 1 (q := .A) rfl (pv 1)) (de_int (q := .A)) (nomark _) (cs_lt rfl)) (dw_or1 (dt_cmp op_ge (de_v 1 (q := .A) rfl (pv 1)) (de_call o_bit_of hr (by rfl) (da_cons (de_meth0 o_Order_size hr (de_v 0 (q := .U) rfl (pv 0))) da_nil) (aCons_len aNil_len)) (nomark _) (cs_ge rfl))))) (dss_one (Γ1 := [.fz .U, .fz .A, .no]) (ds_ret (q := .A) (de_bl (q := .A))) rfl) (dss_nil rfl))
 (dss_one (Γ1 := [.fz .U, .fz .A, .no]) (ds_ret (q := .A) (de_all (q := .A) rfl (by rfl) z_all (de_comp (p := .A) (Γ1 := [.fz .U, .fz .A, .fz .A]) (own := [("thing", 2)]) rfl sc_is_downset.nd (di_listf (de_of (de_call o_things_of hr (by rfl) (da_cons (de_v 1 (q := .A) rfl (pv 1)) da_nil) (aCons_len aNil_len)))) (blkOk_by (N := nm_is_downset) (sc := defScope (topS 24)) (own := [("thing", 2)]) (by first | decide +kernel | kernel_rfl | rfl)) (fun _ _ _ _ _ => (pg_name (i := 2) sc_is_downset.nd rfl (by first | exact Or.inl rfl | exact Or.inr rfl))) (tgs_n (q := .A) (by decide)) (fun _ _ _ _ _ => pts_no) (fun _ _ _ _ _ => (de_call o_has_lows (rblk hr) (by rfl) (da_cons (de_v 0 (q := .U) rfl (pv 0)) (da_cons (de_v 1 (q := .A) rfl (pv 1)) (da_cons (de_v 2 (q := .A) rfl (pv 2)) da_nil))) (aCons_len (aCons_len (aCons_len aNil_len))))) (by decide) (by decide)))) rfl))
theorem ok_needs_downset_X (F : FtF K mg "needs_downset" "needs_downset" (topS 25) ["order", "bits"]) (o_is_downset : OkF P w K mg base (tb a_Order a_NoLine a_NoPlace a_NoDownset a_NoThing P_walker P__law_of_downsets P_leader P__law_of_lines) 3 "is_downset" ["order", "bits"] den_is_downset (.q .A)) (E_NoDownset : OkE P w K mg base (tb a_Order a_NoLine a_NoPlace a_NoDownset a_NoThing P_walker P__law_of_downsets P_leader P__law_of_lines) 12 "NoDownset" ["bits"]) : OkFX P w K mg base (tb a_Order a_NoLine a_NoPlace a_NoDownset a_NoThing P_walker P__law_of_downsets P_leader P__law_of_lines) 4 "needs_downset" ["order", "bits"] den_needs_downset_X (.q .A) :=
 mk_okfx (k := 3) (Γn := [.fz .U, .fz .A]) F sc_needs_downset_X rfl rfl (fun _ => ⟨_, rfl⟩) fun f cdv A outer s H E hr tk PO =>
 (dss_one (Γ1 := [.fz .U, .fz .A]) (ds_if (Γn := [.fz .U, .fz .A]) (dt_not (dt_val (de_call o_is_downset hr (by rfl) (da_cons (de_v 0 (q := .U) rfl (pv 0)) (da_cons (de_v 1 (q := .A) rfl (pv 1)) da_nil)) (aCons_len (aCons_len aNil_len))))) (dss_one (Γ1 := [.fz .U, .fz .A]) (ds_raise1 rfl tk E_NoDownset (hr.mono (by decide)) (by rfl) (dq_cons (q := .A) (de_v 1 (q := .A) rfl (pv 1)) dq_nil) rfl (aCons_len aNil_len)) rfl) (dss_nil rfl)) rfl)
theorem ok_needs_things_X (F : FtF K mg "needs_things" "needs_things" (topS 32) ["order", "word"]) (o_Order_size : OkM P w K mg base (tb a_Order a_NoLine a_NoPlace a_NoDownset a_NoThing P_walker P__law_of_downsets P_leader P__law_of_lines) 1 0 "size" ["self"] den_Order_size (.q .A)) (E_NoThing : OkE P w K mg base (tb a_Order a_NoLine a_NoPlace a_NoDownset a_NoThing P_walker P__law_of_downsets P_leader P__law_of_lines) 10 "NoThing" ["thing"]) : OkFX P w K mg base (tb a_Order a_NoLine a_NoPlace a_NoDownset a_NoThing P_walker P__law_of_downsets P_leader P__law_of_lines) 3 "needs_things" ["order", "word"] den_needs_things_X (.q .A) :=
 mk_okfx (k := 2) (Γn := [.fz .U, .fl .A, .no]) F sc_needs_things_X rfl rfl (fun _ => ⟨_, rfl⟩) fun f cdv A outer s H E hr tk PO =>
 (dss_one (Γ1 := [.fz .U, .fl .A, .no]) (ds_for (cl := [2]) (Γ1 := [.fz .U, .fl .A, .fz .A]) PO rfl (di_listf (de_vl 1 (q := .A) rfl (pv 1))) (pg_name (i := 2) sc_needs_things_X.nd rfl (by first | exact Or.inl rfl | exact Or.inr rfl)) (tgs_n (q := .A) (by decide)) (dss_one (Γ1 := [.fz .U, .fl .A, .fz .A]) (ds_if (Γn := [.fz .U, .fl .A, .fz .A]) (PW.pt (dw_or (dt_cmp op_lt (de_v 2 (q := .A) rfl (pv 2)) (de_int (q := .A)) (nomark _) (cs_lt rfl)) (dw_or1 (dt_cmp op_ge (de_v 2 (q := .A) rfl (pv 2)) (de_meth0 o_Order_size hr (de_v 0 (q := .U) rfl (pv 0))) (nomark _) (cs_ge rfl))))) (dss_one (Γ1 := [.fz .U, .fl .A, .fz .A]) (ds_raise1 rfl tk E_NoThing (hr.mono (by decide)) (by rfl) (dq_cons (q := .A) (de_v 2 (q := .A) rfl (pv 2)) dq_nil) rfl (aCons_len aNil_len)) rfl) (dss_nil rfl)) rfl) (by decide)) rfl)
theorem ok_set_of (F : FtF K mg "set_of" "set_of" (topS 22) ["things"]) (o_bit_of : OkF P w K mg base (tb a_Order a_NoLine a_NoPlace a_NoDownset a_NoThing P_walker P__law_of_downsets P_leader P__law_of_lines) 1 "bit_of" ["thing"] den_bit_of (.q .A)) : OkF P w K mg base (tb a_Order a_NoLine a_NoPlace a_NoDownset a_NoThing P_walker P__law_of_downsets P_leader P__law_of_lines) 2 "set_of" ["things"] den_set_of (.q .A) :=
 mk_okf (k := 1) (Γn := [.fl .A, .no, .no]) F sc_set_of rfl rfl (fun _ => ⟨_, rfl⟩) fun f cdv A outer s H E hr =>
 (dss_cons (Γ1 := [.fl .A, .fz .A, .no]) (ds_set (i := 1) (q := .A) sc_set_of.nd rfl (by first | exact Or.inl rfl | exact Or.inr rfl) (de_int (q := .A)))
 (dss_cons (Γ1 := [.fl .A, .fz .A, .no]) (ds_for (cl := [2]) (Γ1 := [.fl .A, .fz .A, .fz .A]) PassesOwn.never rfl (di_listf (de_vl 0 (q := .A) rfl (pv 0))) (pg_name (i := 2) sc_set_of.nd rfl (by first | exact Or.inl rfl | exact Or.inr rfl)) (tgs_n (q := .A) (by decide)) (dss_one (Γ1 := [.fl .A, .fz .A, .fz .A]) (ds_set (i := 1) (q := .A) sc_set_of.nd rfl (by first | exact Or.inl rfl | exact Or.inr rfl) (de_or (q := .A) (de_v 1 (q := .A) rfl (pv 1)) (de_call o_bit_of hr (by rfl) (da_cons (de_v 2 (q := .A) rfl (pv 2)) da_nil) (aCons_len aNil_len)))) rfl) (by decide))
 (dss_one (Γ1 := [.fl .A, .no, .no]) (ds_ret (q := .A) (de_v 1 (q := .A) rfl (pv 1))) rfl)))
theorem ok_needs_downset (F : FtF K mg "needs_downset" "needs_downset" (topS 25) ["order", "bits"]) (o_is_downset : OkF P w K mg base (tb a_Order a_NoLine a_NoPlace a_NoDownset a_NoThing P_walker P__law_of_downsets P_leader P__law_of_lines) 3 "is_downset" ["order", "bits"] den_is_downset (.q .A)) : OkF P w K mg base (tb a_Order a_NoLine a_NoPlace a_NoDownset a_NoThing P_walker P__law_of_downsets P_leader P__law_of_lines) 4 "needs_downset" ["order", "bits"] den_needs_downset (.q .A) :=
 mk_okf (k := 3) (Γn := [.fz .U, .fz .A]) F sc_needs_downset rfl rfl (fun _ => ⟨_, rfl⟩) fun f cdv A outer s H E hr =>
 (dss_one (Γ1 := [.fz .U, .fz .A]) (ds_if (Γn := [.fz .U, .fz .A]) (dt_not (dt_val (de_call o_is_downset hr (by rfl) (da_cons (de_v 0 (q := .U) rfl (pv 0)) (da_cons (de_v 1 (q := .A) rfl (pv 1)) da_nil)) (aCons_len (aCons_len aNil_len))))) (dss_one (Γ1 := [.fz .U, .fz .A]) ds_never rfl) (dss_nil rfl)) rfl)
theorem ok_brim (F : FtF K mg "brim" "brim" (topS 26) ["order", "bits"]) (o_needs_downset : OkF P w K mg base (tb a_Order a_NoLine a_NoPlace a_NoDownset a_NoThing P_walker P__law_of_downsets P_leader P__law_of_lines) 4 "needs_downset" ["order", "bits"] den_needs_downset (.q .A)) (o_things_of : OkF P w K mg base (tb a_Order a_NoLine a_NoPlace a_NoDownset a_NoThing P_walker P__law_of_downsets P_leader P__law_of_lines) 1 "things_of" ["bits"] den_things_of (.ol .A)) (o_Order_lows_of : OkM P w K mg base (tb a_Order a_NoLine a_NoPlace a_NoDownset a_NoThing P_walker P__law_of_downsets P_leader P__law_of_lines) 1 0 "lows_of" ["self", "thing"] den_Order_lows_of (.q .A)) : OkF P w K mg base (tb a_Order a_NoLine a_NoPlace a_NoDownset a_NoThing P_walker P__law_of_downsets P_leader P__law_of_lines) 5 "brim" ["order", "bits"] den_brim (.q .A) :=
 mk_okf (k := 4) (Γn := [.fz .U, .fz .A, .no, .no]) F sc_brim rfl rfl (fun _ => ⟨_, rfl⟩) fun f cdv A outer s H E hr =>
 (dss_cons (Γ1 := [.fz .U, .fz .A, .no, .no]) (ds_drop (de_call o_needs_downset hr (by rfl) (da_cons (de_v 0 (q := .U) rfl (pv 0)) (da_cons (de_v 1 (q := .A) rfl (pv 1)) da_nil)) (aCons_len (aCons_len aNil_len))))
 (dss_cons (Γ1 := [.fz .U, .fz .A, .fz .A, .no]) (ds_set (i := 2) (q := .A) sc_brim.nd rfl (by first | exact Or.inl rfl | exact Or.inr rfl) (de_int (q := .A)))
 (dss_cons (Γ1 := [.fz .U, .fz .A, .fz .A, .no]) (ds_for (cl := [3]) (Γ1 := [.fz .U, .fz .A, .fz .A, .fz .A]) PassesOwn.never rfl (di_listf (de_of (de_call o_things_of hr (by rfl) (da_cons (de_v 1 (q := .A) rfl (pv 1)) da_nil) (aCons_len aNil_len)))) (pg_name (i := 3) sc_brim.nd rfl (by first | exact Or.inl rfl | exact Or.inr rfl)) (tgs_n (q := .A) (by decide)) (dss_one (Γ1 := [.fz .U, .fz .A, .fz .A, .fz .A]) (ds_set (i := 2) (q := .A) sc_brim.nd rfl (by first | exact Or.inl rfl | exact Or.inr rfl) (de_or (q := .A) (de_v 2 (q := .A) rfl (pv 2)) (de_meth o_Order_lows_of hr (de_v 0 (q := .U) rfl (pv 0)) (da_cons (de_v 3 (q := .A) rfl (pv 3)) da_nil) (aSuc (aCons_len aNil_len))))) rfl) (by decide))
 (dss_one (Γ1 := [.fz .U, .fz .A, .no, .no]) (ds_ret (q := .A) (de_sub (q := .A) (de_v 1 (q := .A) rfl (pv 1)) (de_v 2 (q := .A) rfl (pv 2)))) rfl))))
theorem ok_doors (F : FtF K mg "doors" "doors" (topS 27) ["order", "bits"]) (o_needs_downset : OkF P w K mg base (tb a_Order a_NoLine a_NoPlace a_NoDownset a_NoThing P_walker P__law_of_downsets P_leader P__law_of_lines) 4 "needs_downset" ["order", "bits"] den_needs_downset (.q .A)) (o_Order_size : OkM P w K mg base (tb a_Order a_NoLine a_NoPlace a_NoDownset a_NoThing P_walker P__law_of_downsets P_leader P__law_of_lines) 1 0 "size" ["self"] den_Order_size (.q .A)) (o_has_lows : OkF P w K mg base (tb a_Order a_NoLine a_NoPlace a_NoDownset a_NoThing P_walker P__law_of_downsets P_leader P__law_of_lines) 2 "has_lows" ["order", "bits", "thing"] den_has_lows (.q .A)) (o_set_of : OkF P w K mg base (tb a_Order a_NoLine a_NoPlace a_NoDownset a_NoThing P_walker P__law_of_downsets P_leader P__law_of_lines) 2 "set_of" ["things"] den_set_of (.q .A)) (z_range : mg "range" = none) {p_BITS : Addr} (g_BITS : mg "BITS" = some (.ref p_BITS)) (r_BITS : TupK K p_BITS [1, 2, 4, 8, 16, 32, 64, 128, 256, 512]) : OkF P w K mg base (tb a_Order a_NoLine a_NoPlace a_NoDownset a_NoThing P_walker P__law_of_downsets P_leader P__law_of_lines) 5 "doors" ["order", "bits"] den_doors (.q .A) :=
 mk_okf (k := 4) (Γn := [.fz .U, .fz .A, .no, .no]) F sc_doors rfl rfl (fun _ => ⟨_, rfl⟩) fun f cdv A outer s H E hr =>
 (dss_cons (Γ1 := [.fz .U, .fz .A, .no, .no]) (ds_drop (de_call o_needs_downset hr (by rfl) (da_cons (de_v 0 (q := .U) rfl (pv 0)) (da_cons (de_v 1 (q := .A) rfl (pv 1)) da_nil)) (aCons_len (aCons_len aNil_len))))
 (dss_cons (Γ1 := [.fz .U, .fz .A, .ow .A, .no]) (ds_seto (i := 2) (q := .A) sc_doors.nd rfl (by first | exact Or.inl rfl | exact Or.inr rfl) (de_lst (q := .A) dq_nil))
 (dss_cons (Γ1 := [.fz .U, .fz .A, .ow .A, .no]) (ds_for (cl := [3]) (Γ1 := [.fz .U, .fz .A, .ow .A, .fz .A]) PassesOwn.never rfl (di_range1 (q := .A) (by rfl) z_range (de_meth0 o_Order_size hr (de_v 0 (q := .U) rfl (pv 0)))) (pg_name (i := 3) sc_doors.nd rfl (by first | exact Or.inl rfl | exact Or.inr rfl)) (tgs_n (q := .A) (by decide)) (dss_one (Γ1 := [.fz .U, .fz .A, .ow .A, .fz .A]) (ds_if (Γn := [.fz .U, .fz .A, .ow .A, .fz .A]) (PW.pt (dw_and (dt_cmp op_eq (de_and (q := .A) (de_v 1 (q := .A) rfl (pv 1)) (de_gtupK (q := .A) (by decide) (by rfl) g_BITS r_BITS (de_v 3 (q := .A) rfl (pv 3)))) (de_int (q := .A)) (nomark _) (cs_eqS rfl)) (dw_and1 (dt_val (de_call o_has_lows hr (by rfl) (da_cons (de_v 0 (q := .U) rfl (pv 0)) (da_cons (de_v 1 (q := .A) rfl (pv 1)) (da_cons (de_v 3 (q := .A) rfl (pv 3)) da_nil))) (aCons_len (aCons_len (aCons_len aNil_len)))))))) (dss_one (Γ1 := [.fz .U, .fz .A, .ow .A, .fz .A]) (ds_append 2 (q := .A) rfl (pe_bm PySem.F.plainAttrs_list PySem.F.slot_list_append PySem.F.type_list_append mt_append (pv 2) (pa_cons (de_v 3 (q := .A) rfl (pv 3)) pa_nil))) rfl) (dss_nil rfl)) rfl) (by decide))
 (dss_one (Γ1 := [.fz .U, .fz .A, .no, .no]) (ds_ret (q := .A) (de_call o_set_of hr (by rfl) (da_cons (de_vo 2 (q := .A) rfl (pv 2)) da_nil) (aCons_len aNil_len))) rfl))))
theorem ok_put_or_taken (F : FtF K mg "put_or_taken" "put_or_taken" (topS 34) ["order", "bits", "thing"]) (o_set_of : OkF P w K mg base (tb a_Order a_NoLine a_NoPlace a_NoDownset a_NoThing P_walker P__law_of_downsets P_leader P__law_of_lines) 2 "set_of" ["things"] den_set_of (.q .A)) (o_brim : OkF P w K mg base (tb a_Order a_NoLine a_NoPlace a_NoDownset a_NoThing P_walker P__law_of_downsets P_leader P__law_of_lines) 5 "brim" ["order", "bits"] den_brim (.q .A)) (o_doors : OkF P w K mg base (tb a_Order a_NoLine a_NoPlace a_NoDownset a_NoThing P_walker P__law_of_downsets P_leader P__law_of_lines) 5 "doors" ["order", "bits"] den_doors (.q .A)) : OkF P w K mg base (tb a_Order a_NoLine a_NoPlace a_NoDownset a_NoThing P_walker P__law_of_downsets P_leader P__law_of_lines) 6 "put_or_taken" ["order", "bits", "thing"] den_put_or_taken (.q .A) :=
 mk_okf (k := 5) (Γn := [.fz .U, .fz .A, .fz .A, .no]) F sc_put_or_taken rfl rfl (fun _ => ⟨_, rfl⟩) fun f cdv A outer s H E hr =>
 (dss_cons (Γ1 := [.fz .U, .fz .A, .fz .A, .fz .A]) (ds_set (i := 3) (q := .A) sc_put_or_taken.nd rfl (by first | exact Or.inl rfl | exact Or.inr rfl) (de_call o_set_of hr (by rfl) (da_cons (de_lst (q := .A) (dq_cons (q := .A) (de_v 2 (q := .A) rfl (pv 2)) dq_nil)) da_nil) (aCons_len aNil_len)))
 (dss_cons (Γ1 := [.fz .U, .fz .A, .fz .A, .fz .A]) (ds_if (Γn := [.fz .U, .fz .A, .fz .A, .fz .A]) (dt_int' (de_and (q := .A) (de_v 3 (q := .A) rfl (pv 3)) (de_or (q := .A) (de_call o_brim hr (by rfl) (da_cons (de_v 0 (q := .U) rfl (pv 0)) (da_cons (de_v 1 (q := .A) rfl (pv 1)) da_nil)) (aCons_len (aCons_len aNil_len))) (de_call o_doors hr (by rfl) (da_cons (de_v 0 (q := .U) rfl (pv 0)) (da_cons (de_v 1 (q := .A) rfl (pv 1)) da_nil)) (aCons_len (aCons_len aNil_len)))))) (dss_one (Γ1 := [.fz .U, .fz .A, .fz .A, .fz .A]) (ds_ret (q := .A) (de_xor (q := .A) (de_v 1 (q := .A) rfl (pv 1)) (de_v 3 (q := .A) rfl (pv 3)))) rfl) (dss_nil rfl))
 (dss_one (Γ1 := [.fz .U, .fz .A, .fz .A, .no]) (ds_ret (q := .A) (de_v 1 (q := .A) rfl (pv 1))) rfl)))
theorem ok_walked_X (F : FtF K mg "walked" "walked" (topS 37) ["order", "bits", "word"]) (o_needs_downset_X : OkFX P w K mg base (tb a_Order a_NoLine a_NoPlace a_NoDownset a_NoThing P_walker P__law_of_downsets P_leader P__law_of_lines) 4 "needs_downset" ["order", "bits"] den_needs_downset_X (.q .A)) (o_needs_things_X : OkFX P w K mg base (tb a_Order a_NoLine a_NoPlace a_NoDownset a_NoThing P_walker P__law_of_downsets P_leader P__law_of_lines) 3 "needs_things" ["order", "word"] den_needs_things_X (.q .A)) (o_put_or_taken : OkF P w K mg base (tb a_Order a_NoLine a_NoPlace a_NoDownset a_NoThing P_walker P__law_of_downsets P_leader P__law_of_lines) 6 "put_or_taken" ["order", "bits", "thing"] den_put_or_taken (.q .A)) : OkFX P w K mg base (tb a_Order a_NoLine a_NoPlace a_NoDownset a_NoThing P_walker P__law_of_downsets P_leader P__law_of_lines) 7 "walked" ["order", "bits", "word"] den_walked_X (.q .A) :=
 mk_okfx (k := 6) (Γn := [.fz .U, .fz .A, .fl .A, .no]) F sc_walked_X rfl rfl (fun _ => ⟨_, rfl⟩) fun f cdv A outer s H E hr tk PO =>
 (dss_cons (Γ1 := [.fz .U, .fz .A, .fl .A, .no]) (ds_dropX (dx_call o_needs_downset_X tk hr (by rfl) (da_cons (de_v 0 (q := .U) rfl (pv 0)) (da_cons (de_v 1 (q := .A) rfl (pv 1)) da_nil)) (aCons_len (aCons_len aNil_len))) rfl)
 (dss_cons (Γ1 := [.fz .U, .fz .A, .fl .A, .no]) (ds_dropX (dx_call o_needs_things_X tk hr (by rfl) (da_cons (de_v 0 (q := .U) rfl (pv 0)) (da_cons (de_vl 2 (q := .A) rfl (pv 2)) da_nil)) (aCons_len (aCons_len aNil_len))) rfl)
 (dss_cons (Γ1 := [.fz .U, .fz .A, .fl .A, .no]) (ds_for (cl := [3]) (Γ1 := [.fz .U, .fz .A, .fl .A, .fz .A]) PO rfl (di_listf (de_vl 2 (q := .A) rfl (pv 2))) (pg_name (i := 3) sc_walked_X.nd rfl (by first | exact Or.inl rfl | exact Or.inr rfl)) (tgs_n (q := .A) (by decide)) (dss_one (Γ1 := [.fz .U, .fz .A, .fl .A, .fz .A]) (ds_set (i := 1) (q := .A) sc_walked_X.nd rfl (by first | exact Or.inl rfl | exact Or.inr rfl) (de_call o_put_or_taken hr (by rfl) (da_cons (de_v 0 (q := .U) rfl (pv 0)) (da_cons (de_v 1 (q := .A) rfl (pv 1)) (da_cons (de_v 3 (q := .A) rfl (pv 3)) da_nil))) (aCons_len (aCons_len (aCons_len aNil_len))))) rfl) (by decide))
 (dss_one (Γ1 := [.fz .U, .fz .A, .fl .A, .no]) (ds_ret (q := .A) (de_v 1 (q := .A) rfl (pv 1))) rfl))))
theorem ok_toggled_X (F : FtF K mg "toggled" "toggled" (topS 36) ["order", "bits", "thing"]) (o_walked_X : OkFX P w K mg base (tb a_Order a_NoLine a_NoPlace a_NoDownset a_NoThing P_walker P__law_of_downsets P_leader P__law_of_lines) 7 "walked" ["order", "bits", "word"] den_walked_X (.q .A)) : OkFX P w K mg base (tb a_Order a_NoLine a_NoPlace a_NoDownset a_NoThing P_walker P__law_of_downsets P_leader P__law_of_lines) 8 "toggled" ["order", "bits", "thing"] den_toggled_X (.q .A) :=
 mk_okfx (k := 7) (Γn := [.fz .U, .fz .A, .fz .A]) F sc_toggled_X rfl rfl (fun _ => ⟨_, rfl⟩) fun f cdv A outer s H E hr tk PO =>
 (dss_one (Γ1 := [.fz .U, .fz .A, .fz .A]) (ds_retX (q := .A) (dx_q (dx_call o_walked_X tk hr (by rfl) (da_cons (de_v 0 (q := .U) rfl (pv 0)) (da_cons (de_v 1 (q := .A) rfl (pv 1)) (da_cons (de_lst (q := .A) (dq_cons (q := .A) (de_v 2 (q := .A) rfl (pv 2)) dq_nil)) da_nil))) (aCons_len (aCons_len (aCons_len aNil_len))))) rfl) rfl)
theorem ok_walker_X (F : FtF K mg "walker" "walker" (topS 38) ["order", "word"]) (o_needs_things_X : OkFX P w K mg base (tb a_Order a_NoLine a_NoPlace a_NoDownset a_NoThing P_walker P__law_of_downsets P_leader P__law_of_lines) 3 "needs_things" ["order", "word"] den_needs_things_X (.q .A)) (z_list : mg "list" = none) : OkFX P w K mg base (tb a_Order a_NoLine a_NoPlace a_NoDownset a_NoThing P_walker P__law_of_downsets P_leader P__law_of_lines) 4 "walker" ["order", "word"] den_walker_X (.q .A) :=
 mk_okfx (k := 3) (Γn := [.fz .U, .fl .A, .no, .no]) F sc_walker_X rfl rfl (fun _ => ⟨_, rfl⟩) fun f cdv A outer s H E hr tk PO =>
 (dss_cons (Γ1 := [.fz .U, .fl .A, .no, .no]) (ds_dropX (dx_call o_needs_things_X tk hr (by rfl) (da_cons (de_v 0 (q := .U) rfl (pv 0)) (da_cons (de_vl 1 (q := .A) rfl (pv 1)) da_nil)) (aCons_len (aCons_len aNil_len))) rfl)
 (dss_cons (Γ1 := [.fz .U, .fl .A, .ow .A, .no]) (ds_seto (i := 2) (q := .A) sc_walker_X.nd rfl (by first | exact Or.inl rfl | exact Or.inr rfl) (de_list (q := .A) (by rfl) z_list (de_vl 1 (q := .A) rfl (pv 1))))
 (dss_cons (Γ1 := [.fz .U, .fl .A, .ow .A, .no]) ds_never
 (dss_one (Γ1 := [.fz .U, .fl .A, .no, .no]) ds_never rfl))))
theorem ok_needs_things (F : FtF K mg "needs_things" "needs_things" (topS 32) ["order", "word"]) (o_Order_size : OkM P w K mg base (tb a_Order a_NoLine a_NoPlace a_NoDownset a_NoThing P_walker P__law_of_downsets P_leader P__law_of_lines) 1 0 "size" ["self"] den_Order_size (.q .A)) : OkF P w K mg base (tb a_Order a_NoLine a_NoPlace a_NoDownset a_NoThing P_walker P__law_of_downsets P_leader P__law_of_lines) 2 "needs_things" ["order", "word"] den_needs_things (.q .A) :=
 mk_okf (k := 1) (Γn := [.fz .U, .fl .A, .no]) F sc_needs_things rfl rfl (fun _ => ⟨_, rfl⟩) fun f cdv A outer s H E hr =>
 (dss_one (Γ1 := [.fz .U, .fl .A, .no]) (ds_for (cl := [2]) (Γ1 := [.fz .U, .fl .A, .fz .A]) PassesOwn.never rfl (di_listf (de_vl 1 (q := .A) rfl (pv 1))) (pg_name (i := 2) sc_needs_things.nd rfl (by first | exact Or.inl rfl | exact Or.inr rfl)) (tgs_n (q := .A) (by decide)) (dss_one (Γ1 := [.fz .U, .fl .A, .fz .A]) (ds_if (Γn := [.fz .U, .fl .A, .fz .A]) (PW.pt (dw_or (dt_cmp op_lt (de_v 2 (q := .A) rfl (pv 2)) (de_int (q := .A)) (nomark _) (cs_lt rfl)) (dw_or1 (dt_cmp op_ge (de_v 2 (q := .A) rfl (pv 2)) (de_meth0 o_Order_size hr (de_v 0 (q := .U) rfl (pv 0))) (nomark _) (cs_ge rfl))))) (dss_one (Γ1 := [.fz .U, .fl .A, .fz .A]) ds_never rfl) (dss_nil rfl)) rfl) (by decide)) rfl)
theorem ok_walker (F : FtT K mg "walker" "walker" (topS 38) ["order", "word"] ca_walker P_walker) (TB_walker : LamX.TabB base mg ca_walker P_walker) (PN : [P_walker, P__law_of_downsets, P_leader, P__law_of_lines].Nodup) (o_needs_things : OkF P w K mg base (tb a_Order a_NoLine a_NoPlace a_NoDownset a_NoThing P_walker P__law_of_downsets P_leader P__law_of_lines) 2 "needs_things" ["order", "word"] den_needs_things (.q .A)) (z_list : mg "list" = none) : OkMk P w K mg base (tb a_Order a_NoLine a_NoPlace a_NoDownset a_NoThing P_walker P__law_of_downsets P_leader P__law_of_lines) 3 "walker" ["order", "word"] den_walker 0 :=
 mk_okmk (nst := nst_walker) (pre := (defBody (topS 38)).take 2) (ii := 3) (k := 2) (Γn := [.fz .L, .fl .A, .fz .L, .no]) F sc_walker rfl rfl rfl rfl TB_walker (.head _) (tabs_nd (l := (tb a_Order a_NoLine a_NoPlace a_NoDownset a_NoThing P_walker P__law_of_downsets P_leader P__law_of_lines).t) PN (.head _)) rfl (by decide +kernel) (by decide +kernel) (by decide +kernel) rfl rfl (fun _ => rfl) rfl rfl rfl (by decide) (by decide) (by decide) (by decide) fun f A outer s H E H0 hr =>
 (dss_cons (Γ1 := [.fz .L, .fl .A, .no, .no]) (ds_drop (de_call o_needs_things hr (by rfl) (da_cons (de_v 0 (q := .L) rfl (pv 0)) (da_cons (de_vl 1 (q := .A) rfl (pv 1)) da_nil)) (aCons_len (aCons_len aNil_len))))
 (dss_one (Γ1 := [.fz .L, .fl .A, .ow .A, .no]) (ds_seto (i := 2) (q := .A) sc_walker.nd rfl (by first | exact Or.inl rfl | exact Or.inr rfl) (de_list (q := .A) (by rfl) z_list (de_vl 1 (q := .A) rfl (pv 1)))) rfl))
theorem ok_walker_walk_X (o_walked_X : OkFX P w K mg base (tb a_Order a_NoLine a_NoPlace a_NoDownset a_NoThing P_walker P__law_of_downsets P_leader P__law_of_lines) 7 "walked" ["order", "bits", "word"] den_walked_X (.q .A)) : OkNX P w K mg base (tb a_Order a_NoLine a_NoPlace a_NoDownset a_NoThing P_walker P__law_of_downsets P_leader P__law_of_lines) 8 0 ["bits"] den_walker_walk_X (.q .A) :=
 mk_oknx (k := 7) (Γn := [.fz .A, .fz .U, .fl .A]) rfl sc_walker_walk_X rfl rfl (fun _ _ _ _ _ us hl => match us, hl with | [_], _ => rfl) (fun _ => ⟨_, rfl⟩) fun cl c' f A outer s H E hr tk PO =>
 (dss_one (Γ1 := [.fz .A, .fz .U, .fl .A]) (ds_retX (q := .A) (dx_q (dx_call o_walked_X tk hr (by rfl) (da_cons (de_v 1 (q := .U) rfl (pv 1)) (da_cons (de_v 0 (q := .A) rfl (pv 0)) (da_cons (de_vl 2 (q := .A) rfl (pv 2)) da_nil))) (aCons_len (aCons_len (aCons_len aNil_len))))) rfl) rfl)
theorem ok__law_of_downsets (F : FtT K mg "_law_of_downsets" "_law_of_downsets" (topS 57) ["_law_order", "_law_bits_here", "_law_bad", "_law_many", "_law_cell"] ca__law_of_downsets P__law_of_downsets) (TB__law_of_downsets : LamX.TabB base mg ca__law_of_downsets P__law_of_downsets) (PN : [P_walker, P__law_of_downsets, P_leader, P__law_of_lines].Nodup) (o__law_said : OkFL P w K mg base (tb a_Order a_NoLine a_NoPlace a_NoDownset a_NoThing P_walker P__law_of_downsets P_leader P__law_of_lines) 3 "_law_said" den__law_said_v5) (o_toggled_X : OkFX P w K mg base (tb a_Order a_NoLine a_NoPlace a_NoDownset a_NoThing P_walker P__law_of_downsets P_leader P__law_of_lines) 8 "toggled" ["order", "bits", "thing"] den_toggled_X (.q .A)) (o_walked_X : OkFX P w K mg base (tb a_Order a_NoLine a_NoPlace a_NoDownset a_NoThing P_walker P__law_of_downsets P_leader P__law_of_lines) 7 "walked" ["order", "bits", "word"] den_walked_X (.q .A)) (o_walker_X : OkFX P w K mg base (tb a_Order a_NoLine a_NoPlace a_NoDownset a_NoThing P_walker P__law_of_downsets P_leader P__law_of_lines) 4 "walker" ["order", "word"] den_walker_X (.q .A)) (o_walker : OkMk P w K mg base (tb a_Order a_NoLine a_NoPlace a_NoDownset a_NoThing P_walker P__law_of_downsets P_leader P__law_of_lines) 3 "walker" ["order", "word"] den_walker 0) (o_walker_walk_X : OkNX P w K mg base (tb a_Order a_NoLine a_NoPlace a_NoDownset a_NoThing P_walker P__law_of_downsets P_leader P__law_of_lines) 8 0 ["bits"] den_walker_walk_X (.q .A)) : OkF P w K mg base (tb a_Order a_NoLine a_NoPlace a_NoDownset a_NoThing P_walker P__law_of_downsets P_leader P__law_of_lines) 11 "_law_of_downsets" ["_law_order", "_law_bits_here", "_law_bad", "_law_many", "_law_cell"] den__law_of_downsets (.q .A) :=
 mk_okft (k := 10) (Γn := [.fz .U, .fz .A, .fz .A, .fz .A, .fz .A, .no, .no, .no, .no, .no]) F sc__law_of_downsets rfl rfl (fun _ => ⟨_, rfl⟩) fun f A outer s H E hr =>
 (dss_cons (Γ1 := [.fz .U, .fz .A, .fz .A, .fz .A, .fz .A, .fz .A, .no, .no, .no, .no]) (ds_set (i := 5) (q := .A) sc__law_of_downsets.nd rfl (by first | exact Or.inl rfl | exact Or.inr rfl) (de_ix (de_ob (de_lst (q := .A) (dq_cons (q := .A) (de_v 3 (q := .A) rfl (pv 3)) (dq_cons (q := .A) (de_sub (q := .A) (de_int (q := .A)) (de_int (q := .A))) (dq_cons (q := .A) (de_add (q := .A) (de_v 3 (q := .A) rfl (pv 3)) (de_mod (q := .A) (de_v 4 (q := .A) rfl (pv 4)) (de_pow (q := .A) (de_int (q := .A)) (de_int (q := .A))))) (dq_cons (q := .A) (de_sub (q := .A) (de_sub (q := .A) (de_int (q := .A)) (de_int (q := .A))) (de_mod (q := .A) (de_v 4 (q := .A) rfl (pv 4)) (de_pow (q := .A) (de_int (q := .A)) (de_int (q := .A))))) dq_nil)))))) (de_mod (q := .A) (de_div (q := .A) (de_v 4 (q := .A) rfl (pv 4)) (de_int (q := .A))) (de_int (q := .A)))))
 (dss_cons (Γ1 := [.fz .U, .fz .A, .fz .A, .fz .A, .fz .A, .fz .A, .ow .A, .no, .no, .no]) (ds_seto (i := 6) (q := .A) sc__law_of_downsets.nd rfl (by first | exact Or.inl rfl | exact Or.inr rfl) (de_lst (q := .A) (dq_cons (q := .A) (de_mod (q := .A) (de_div (q := .A) (de_v 4 (q := .A) rfl (pv 4)) (de_int (q := .A))) (de_v 3 (q := .A) rfl (pv 3))) (dq_cons (q := .A) (de_v 5 (q := .A) rfl (pv 5)) (dq_cons (q := .A) (de_add (q := .A) (de_v 3 (q := .A) rfl (pv 3)) (de_int (q := .A))) dq_nil)))))
 (dss_cons (Γ1 := [.fz .U, .fz .A, .fz .A, .fz .A, .fz .A, .fz .A, .ow .A, .ow .A, .no, .no]) (ds_seto (i := 7) (q := .A) sc__law_of_downsets.nd rfl (by first | exact Or.inl rfl | exact Or.inr rfl) (de_lst (q := .A) (dq_cons (q := .A) (de_tup (q := .A) (dq_cons (q := .A) (de_str (q := .A)) (dq_cons (q := .A) (de_v 2 (q := .A) rfl (pv 2)) dq_nil))) (dq_cons (q := .A) (de_tup (q := .A) (dq_cons (q := .A) (de_str (q := .A)) (dq_cons (q := .A) (de_v 2 (q := .A) rfl (pv 2)) dq_nil))) (dq_cons (q := .A) (de_tup (q := .A) (dq_cons (q := .A) (de_str (q := .A)) (dq_cons (q := .A) (de_v 5 (q := .A) rfl (pv 5)) dq_nil))) (dq_cons (q := .A) (de_tup (q := .A) (dq_cons (q := .A) (de_str (q := .A)) (dq_cons (q := .A) (de_v 5 (q := .A) rfl (pv 5)) dq_nil))) (dq_cons (q := .A) (de_tup (q := .A) (dq_cons (q := .A) (de_str (q := .A)) (dq_cons (q := .A) (de_v 5 (q := .A) rfl (pv 5)) dq_nil))) (dq_cons (q := .A) (de_tup (q := .A) (dq_cons (q := .A) (de_str (q := .A)) (dq_cons (q := .A) (de_v 2 (q := .A) rfl (pv 2)) dq_nil))) dq_nil))))))))
 (dss_cons (Γ1 := [.fz .U, .fz .A, .fz .A, .fz .A, .fz .A, .fz .A, .ow .A, .ow .A, .ow .A, .no]) (ds_seto (i := 8) (q := .A) sc__law_of_downsets.nd rfl (by first | exact Or.inl rfl | exact Or.inr rfl) (de_lst (q := .A) (dq_cons (q := .A) (de_lam (Γ' := [.fz .U, .fz .A, .fz .A, .fz .A, .fz .A, .fz .A, .fl .A, .fl .A, .no, .no]) o__law_said hr (by rfl) TB__law_of_downsets rfl (.tail _ (.head _)) (tabs_nd (l := (tb a_Order a_NoLine a_NoPlace a_NoDownset a_NoThing P_walker P__law_of_downsets P_leader P__law_of_lines).t) PN (.tail _ (.head _))) (LamX.lamS_by (by first | decide +kernel | kernel_rfl | rfl)) rfl (fun _ _ _ _ _ => rfl) (fun A outer s H E f0 c' hr tk => (dx_call o_toggled_X tk hr (by rfl) (da_cons (de_v 0 (q := .U) rfl (pv 0)) (da_cons (de_v 2 (q := .A) rfl (pv 2)) (da_cons (de_v 5 (q := .A) rfl (pv 5)) da_nil))) (aCons_len (aCons_len (aCons_len aNil_len))))) rfl rfl) dq_nil)))
 (dss_cons (Γ1 := [.fz .U, .fz .A, .fz .A, .fz .A, .fz .A, .fz .A, .ow .A, .ow .A, .ow .A, .no]) (ds_append 8 (q := .A) rfl (pe_bm PySem.F.plainAttrs_list PySem.F.slot_list_append PySem.F.type_list_append mt_append (pv 8) (pa_cons (de_lam (Γ' := [.fz .U, .fz .A, .fz .A, .fz .A, .fz .A, .fz .A, .fl .A, .fl .A, .fl .A, .no]) o__law_said hr (by rfl) TB__law_of_downsets rfl (.tail _ (.head _)) (tabs_nd (l := (tb a_Order a_NoLine a_NoPlace a_NoDownset a_NoThing P_walker P__law_of_downsets P_leader P__law_of_lines).t) PN (.tail _ (.head _))) (LamX.lamS_by (by first | decide +kernel | kernel_rfl | rfl)) rfl (fun _ _ _ _ _ => rfl) (fun A outer s H E f0 c' hr tk => (dx_call o_walked_X tk hr (by rfl) (da_cons (de_v 0 (q := .U) rfl (pv 0)) (da_cons (de_v 2 (q := .A) rfl (pv 2)) (da_cons (de_vl 6 (q := .A) rfl (pv 6)) da_nil))) (aCons_len (aCons_len (aCons_len aNil_len))))) rfl rfl) pa_nil)))
 (dss_cons (Γ1 := [.fz .U, .fz .A, .fz .A, .fz .A, .fz .A, .fz .A, .ow .A, .ow .A, .ow .A, .no]) (ds_append 8 (q := .A) rfl (pe_bm PySem.F.plainAttrs_list PySem.F.slot_list_append PySem.F.type_list_append mt_append (pv 8) (pa_cons (de_lam (Γ' := [.fz .U, .fz .A, .fz .A, .fz .A, .fz .A, .fz .A, .fl .A, .fl .A, .fl .A, .no]) o__law_said hr (by rfl) TB__law_of_downsets rfl (.tail _ (.head _)) (tabs_nd (l := (tb a_Order a_NoLine a_NoPlace a_NoDownset a_NoThing P_walker P__law_of_downsets P_leader P__law_of_lines).t) PN (.tail _ (.head _))) (LamX.lamS_by (by first | decide +kernel | kernel_rfl | rfl)) rfl (fun _ _ _ _ _ => rfl) (fun A outer s H E f0 c' hr tk => (dx_call o_toggled_X tk hr (by rfl) (da_cons (de_v 0 (q := .U) rfl (pv 0)) (da_cons (de_v 1 (q := .A) rfl (pv 1)) (da_cons (de_v 5 (q := .A) rfl (pv 5)) da_nil))) (aCons_len (aCons_len (aCons_len aNil_len))))) rfl rfl) pa_nil)))
 (dss_cons (Γ1 := [.fz .U, .fz .A, .fz .A, .fz .A, .fz .A, .fz .A, .ow .A, .ow .A, .ow .A, .no]) (ds_append 8 (q := .A) rfl (pe_bm PySem.F.plainAttrs_list PySem.F.slot_list_append PySem.F.type_list_append mt_append (pv 8) (pa_cons (de_lam (Γ' := [.fz .U, .fz .A, .fz .A, .fz .A, .fz .A, .fz .A, .fl .A, .fl .A, .fl .A, .no]) o__law_said hr (by rfl) TB__law_of_downsets rfl (.tail _ (.head _)) (tabs_nd (l := (tb a_Order a_NoLine a_NoPlace a_NoDownset a_NoThing P_walker P__law_of_downsets P_leader P__law_of_lines).t) PN (.tail _ (.head _))) (LamX.lamS_by (by first | decide +kernel | kernel_rfl | rfl)) rfl (fun _ _ _ _ _ => rfl) (fun A outer s H E f0 c' hr tk => (dx_call o_walked_X tk hr (by rfl) (da_cons (de_v 0 (q := .U) rfl (pv 0)) (da_cons (de_v 1 (q := .A) rfl (pv 1)) (da_cons (de_vl 6 (q := .A) rfl (pv 6)) da_nil))) (aCons_len (aCons_len (aCons_len aNil_len))))) rfl rfl) pa_nil)))
 (dss_cons (Γ1 := [.fz .U, .fz .A, .fz .A, .fz .A, .fz .A, .fz .A, .ow .A, .ow .A, .ow .A, .no]) (ds_append 8 (q := .A) rfl (pe_bm PySem.F.plainAttrs_list PySem.F.slot_list_append PySem.F.type_list_append mt_append (pv 8) (pa_cons (de_lam (Γ' := [.fz .U, .fz .A, .fz .A, .fz .A, .fz .A, .fz .A, .fl .A, .fl .A, .fl .A, .no]) o__law_said hr (by rfl) TB__law_of_downsets rfl (.tail _ (.head _)) (tabs_nd (l := (tb a_Order a_NoLine a_NoPlace a_NoDownset a_NoThing P_walker P__law_of_downsets P_leader P__law_of_lines).t) PN (.tail _ (.head _))) (LamX.lamS_by (by first | decide +kernel | kernel_rfl | rfl)) rfl (fun _ _ _ _ _ => rfl) (fun A outer s H E f0 c' hr tk => (dx_call o_walker_X tk hr (by rfl) (da_cons (de_v 0 (q := .U) rfl (pv 0)) (da_cons (de_vl 6 (q := .A) rfl (pv 6)) da_nil)) (aCons_len (aCons_len aNil_len)))) rfl rfl) pa_nil)))
 (dss_cons (Γ1 := [.fz .U, .fz .A, .fz .A, .fz .A, .fz .A, .fz .A, .ow .A, .ow .A, .ow .A, .os (.clo 0)]) (ds_mkclo (i := 9) sc__law_of_downsets.nd rfl (by first | exact Or.inl rfl | exact Or.inr rfl) o_walker hr (by rfl) (de_v 0 (q := .U) rfl (pv 0)) (de_slL (q := .A) (de_vo 6 (q := .A) rfl (pv 6)) do_no (do_yes (de_int (q := .A)))))
 (dss_cons (Γ1 := [.fz .U, .fz .A, .fz .A, .fz .A, .fz .A, .fz .A, .ow .A, .ow .A, .ow .A, .os (.clo 0)]) (ds_append 8 (q := .A) rfl (pe_bm PySem.F.plainAttrs_list PySem.F.slot_list_append PySem.F.type_list_append mt_append (pv 8) (pa_cons (de_lam (Γ' := [.fz .U, .fz .A, .fz .A, .fz .A, .fz .A, .fz .A, .fl .A, .fl .A, .fl .A, .os (.clo 0)]) o__law_said hr (by rfl) TB__law_of_downsets rfl (.tail _ (.head _)) (tabs_nd (l := (tb a_Order a_NoLine a_NoPlace a_NoDownset a_NoThing P_walker P__law_of_downsets P_leader P__law_of_lines).t) PN (.tail _ (.head _))) (LamX.lamS_by (by first | decide +kernel | kernel_rfl | rfl)) rfl (fun _ _ _ _ _ => rfl) (fun A outer s H E f0 c' hr tk => (dx_clo 9 rfl o_walker_walk_X tk hr rfl (by first | exact Or.inl rfl | exact Or.inr (Or.inl rfl) | exact Or.inr (Or.inr rfl)) (da_cons (de_v 2 (q := .A) rfl (pv 2)) da_nil) (aCons_len aNil_len))) rfl rfl) pa_nil)))
 (dss_one (Γ1 := [.fz .U, .fz .A, .fz .A, .fz .A, .fz .A, .no, .no, .no, .no, .no]) (ds_ret (q := .A) (de_cmp (q := .A) (op_eqD hr.units) (de_vo 8 (q := .A) rfl (pv 8)) (de_vo 7 (q := .A) rfl (pv 7)) (nomark _) (cs_eqD rfl))) rfl)))))))))))
theorem ok__law_bits_v2 (F : FtF K mg "_law_bits" "_law_bits" (topS 50) ["_law_things"]) (z_range : mg "range" = none) : OkF P w K mg base (tb a_Order a_NoLine a_NoPlace a_NoDownset a_NoThing P_walker P__law_of_downsets P_leader P__law_of_lines) 1 "_law_bits" ["_law_things"] den__law_bits_v3 (.q .A) :=
 mk_okf (k := 0) (Γn := [.fz .A, .no, .no, .no, .no]) F sc__law_bits_v2 rfl rfl (fun _ => ⟨_, rfl⟩) fun f cdv A outer s H E hr =>
 (dss_cons (Γ1 := [.fz .A, .fz .A, .no, .no, .no]) (ds_set (i := 1) (q := .A) sc__law_bits_v2.nd rfl (by first | exact Or.inl rfl | exact Or.inr rfl) (de_int (q := .A)))
 (dss_cons (Γ1 := [.fz .A, .fz .A, .no, .no, .no]) (ds_for (cl := [2, 3, 4]) (Γ1 := [.fz .A, .fz .A, .fz .A, .no, .no]) PassesOwn.never rfl (di_tup (de_v 0 (q := .A) rfl (pv 0))) (pg_name (i := 2) sc__law_bits_v2.nd rfl (by first | exact Or.inl rfl | exact Or.inr rfl)) (tgs_n (q := .A) (by decide)) (dss_cons (Γ1 := [.fz .A, .fz .A, .fz .A, .fz .A, .no]) (ds_set (i := 3) (q := .A) sc__law_bits_v2.nd rfl (by first | exact Or.inl rfl | exact Or.inr rfl) (de_int (q := .A)))
 (dss_cons (Γ1 := [.fz .A, .fz .A, .fz .A, .fz .A, .no]) (ds_for (cl := [4]) (Γ1 := [.fz .A, .fz .A, .fz .A, .fz .A, .fz .A]) PassesOwn.never rfl (di_range1 (q := .A) (by rfl) z_range (de_v 2 (q := .A) rfl (pv 2))) (pg_name (i := 4) sc__law_bits_v2.nd rfl (by first | exact Or.inl rfl | exact Or.inr rfl)) (tgs_n (q := .A) (by decide)) (dss_one (Γ1 := [.fz .A, .fz .A, .fz .A, .fz .A, .fz .A]) (ds_set (i := 3) (q := .A) sc__law_bits_v2.nd rfl (by first | exact Or.inl rfl | exact Or.inr rfl) (de_mul (q := .A) (de_v 3 (q := .A) rfl (pv 3)) (de_int (q := .A)))) rfl) (by decide))
 (dss_one (Γ1 := [.fz .A, .fz .A, .fz .A, .fz .A, .no]) (ds_set (i := 1) (q := .A) sc__law_bits_v2.nd rfl (by first | exact Or.inl rfl | exact Or.inr rfl) (de_add (q := .A) (de_v 1 (q := .A) rfl (pv 1)) (de_v 3 (q := .A) rfl (pv 3)))) rfl))) (by decide))
 (dss_one (Γ1 := [.fz .A, .no, .no, .no, .no]) (ds_ret (q := .A) (de_v 1 (q := .A) rfl (pv 1))) rfl)))
theorem ok_Order_needs_thing (F : FtM K (tb a_Order a_NoLine a_NoPlace a_NoDownset a_NoThing P_walker P__law_of_downsets P_leader P__law_of_lines) 0 "needs_thing" "Order.needs_thing" (inClass (topS 19) 2) ["self", "thing"]) (C_Order_kept_many : ClsF K (tb a_Order a_NoLine a_NoPlace a_NoDownset a_NoThing P_walker P__law_of_downsets P_leader P__law_of_lines) 0 0 "kept_many") : OkM P w K mg base (tb a_Order a_NoLine a_NoPlace a_NoDownset a_NoThing P_walker P__law_of_downsets P_leader P__law_of_lines) 1 0 "needs_thing" ["self", "thing"] den_Order_needs_thing (.q .A) :=
 mk_okm (k := 0) (Γn := [.fz .U, .fz .A]) F sc_Order_needs_thing rfl rfl (fun _ => ⟨_, rfl⟩) fun f cdv A outer s H E hr =>
 (dss_one (Γ1 := [.fz .U, .fz .A]) (ds_if (Γn := [.fz .U, .fz .A]) (PW.pt (dw_or (dt_cmp op_lt (de_v 1 (q := .A) rfl (pv 1)) (de_int (q := .A)) (nomark _) (cs_lt rfl)) (dw_or1 (dt_cmp op_ge (de_v 1 (q := .A) rfl (pv 1)) (de_fld C_Order_kept_many (de_v 0 (q := .U) rfl (pv 0))) (nomark _) (cs_ge rfl))))) (dss_one (Γ1 := [.fz .U, .fz .A]) ds_never rfl) (dss_nil rfl)) rfl)
theorem ok_Order_below (F : FtM K (tb a_Order a_NoLine a_NoPlace a_NoDownset a_NoThing P_walker P__law_of_downsets P_leader P__law_of_lines) 0 "below" "Order.below" (inClass (topS 19) 4) ["self", "one", "other"]) (o_Order_needs_thing : OkM P w K mg base (tb a_Order a_NoLine a_NoPlace a_NoDownset a_NoThing P_walker P__law_of_downsets P_leader P__law_of_lines) 1 0 "needs_thing" ["self", "thing"] den_Order_needs_thing (.q .A)) (C_Order_kept_lows : ClsF K (tb a_Order a_NoLine a_NoPlace a_NoDownset a_NoThing P_walker P__law_of_downsets P_leader P__law_of_lines) 0 1 "kept_lows") {p_BITS : Addr} (g_BITS : mg "BITS" = some (.ref p_BITS)) (r_BITS : TupK K p_BITS [1, 2, 4, 8, 16, 32, 64, 128, 256, 512]) : OkM P w K mg base (tb a_Order a_NoLine a_NoPlace a_NoDownset a_NoThing P_walker P__law_of_downsets P_leader P__law_of_lines) 2 0 "below" ["self", "one", "other"] den_Order_below (.q .A) :=
 mk_okm (k := 1) (Γn := [.fz .U, .fz .A, .fz .A]) F sc_Order_below rfl rfl (fun _ => ⟨_, rfl⟩) fun f cdv A outer s H E hr =>
 (dss_cons (Γ1 := [.fz .U, .fz .A, .fz .A]) (ds_drop (de_meth o_Order_needs_thing hr (de_v 0 (q := .U) rfl (pv 0)) (da_cons (de_v 1 (q := .A) rfl (pv 1)) da_nil) (aSuc (aCons_len aNil_len))))
 (dss_cons (Γ1 := [.fz .U, .fz .A, .fz .A]) (ds_drop (de_meth o_Order_needs_thing hr (de_v 0 (q := .U) rfl (pv 0)) (da_cons (de_v 2 (q := .A) rfl (pv 2)) da_nil) (aSuc (aCons_len aNil_len))))
 (dss_one (Γ1 := [.fz .U, .fz .A, .fz .A]) (ds_ret (q := .A) (de_cmp (q := .A) op_gt (de_and (q := .A) (de_ix (de_fld C_Order_kept_lows (de_v 0 (q := .U) rfl (pv 0))) (de_v 2 (q := .A) rfl (pv 2))) (de_gtupK (q := .A) (by decide) (by rfl) g_BITS r_BITS (de_v 1 (q := .A) rfl (pv 1)))) (de_int (q := .A)) (nomark _) (cs_gt rfl))) rfl)))
theorem ok_is_line (F : FtF K mg "is_line" "is_line" (topS 29) ["order", "line"]) (o_Order_size : OkM P w K mg base (tb a_Order a_NoLine a_NoPlace a_NoDownset a_NoThing P_walker P__law_of_downsets P_leader P__law_of_lines) 1 0 "size" ["self"] den_Order_size (.q .A)) (o_Order_below : OkM P w K mg base (tb a_Order a_NoLine a_NoPlace a_NoDownset a_NoThing P_walker P__law_of_downsets P_leader P__law_of_lines) 2 0 "below" ["self", "one", "other"] den_Order_below (.q .A)) (z_sorted : mg "sorted" = none) (z_list : mg "list" = none) (z_range : mg "range" = none) (z_enumerate : mg "enumerate" = none) : OkF P w K mg base (tb a_Order a_NoLine a_NoPlace a_NoDownset a_NoThing P_walker P__law_of_downsets P_leader P__law_of_lines) 3 "is_line" ["order", "line"] den_is_line (.q .A) :=
 mk_okf (k := 2) (Γn := [.fz .U, .fz .A, .no, .no, .no]) F sc_is_line rfl rfl (fun _ => ⟨_, rfl⟩) fun f cdv A outer s H E hr =>
 (dss_cons (Γ1 := [.fz .U, .fz .A, .no, .no, .no]) (ds_if (Γn := [.fz .U, .fz .A, .no, .no, .no]) (dt_cmp (op_neD hr.units) (de_ob (de_sortT (q := .A) (by rfl) z_sorted (de_v 1 (q := .A) rfl (pv 1)))) (de_lrg1 (q := .A) rfl (by rfl) z_list (by rfl) z_range (de_meth0 o_Order_size hr (de_v 0 (q := .U) rfl (pv 0)))) (nomark _) (cs_neD rfl)) (dss_one (Γ1 := [.fz .U, .fz .A, .no, .no, .no]) (ds_ret (q := .A) (de_bl (q := .A))) rfl) (dss_nil rfl))
 (dss_cons (Γ1 := [.fz .U, .fz .A, .no, .no, .no]) (ds_for (cl := [2, 3, 4]) (Γ1 := [.fz .U, .fz .A, .fz .A, .fz .A, .no]) PassesOwn.never rfl (di_enumT (q := .A) (by rfl) z_enumerate (de_v 1 (q := .A) rfl (pv 1))) (pg_tup rfl (pgs_cons (pg_name (i := 2) sc_is_line.nd rfl (by first | exact Or.inl rfl | exact Or.inr rfl)) (pgs_cons (pg_name (i := 3) sc_is_line.nd rfl (by first | exact Or.inl rfl | exact Or.inr rfl)) pgs_nil))) (tgs_t (is := [2, 3]) (q := .A) (by decide)) (dss_one (Γ1 := [.fz .U, .fz .A, .fz .A, .fz .A, .no]) (ds_for (cl := [4]) (Γ1 := [.fz .U, .fz .A, .fz .A, .fz .A, .fz .A]) PassesOwn.never rfl (di_tup (de_slT (q := .A) (de_v 1 (q := .A) rfl (pv 1)) do_no (do_yes (de_v 2 (q := .A) rfl (pv 2))))) (pg_name (i := 4) sc_is_line.nd rfl (by first | exact Or.inl rfl | exact Or.inr rfl)) (tgs_n (q := .A) (by decide)) (dss_one (Γ1 := [.fz .U, .fz .A, .fz .A, .fz .A, .fz .A]) (ds_if (Γn := [.fz .U, .fz .A, .fz .A, .fz .A, .fz .A]) (dt_val (de_meth o_Order_below hr (de_v 0 (q := .U) rfl (pv 0)) (da_cons (de_v 3 (q := .A) rfl (pv 3)) (da_cons (de_v 4 (q := .A) rfl (pv 4)) da_nil)) (aSuc (aCons_len (aCons_len aNil_len))))) (dss_one (Γ1 := [.fz .U, .fz .A, .fz .A, .fz .A, .fz .A]) (ds_ret (q := .A) (de_bl (q := .A))) rfl) (dss_nil rfl)) rfl) (by decide)) rfl) (by decide))
 (dss_one (Γ1 := [.fz .U, .fz .A, .no, .no, .no]) (ds_ret (q := .A) (de_bl (q := .A))) rfl)))
theorem ok_needs_line_X (F : FtF K mg "needs_line" "needs_line" (topS 30) ["order", "line"]) (o_is_line : OkF P w K mg base (tb a_Order a_NoLine a_NoPlace a_NoDownset a_NoThing P_walker P__law_of_downsets P_leader P__law_of_lines) 3 "is_line" ["order", "line"] den_is_line (.q .A)) (E_NoLine : OkE0 K mg (tb a_Order a_NoLine a_NoPlace a_NoDownset a_NoThing P_walker P__law_of_downsets P_leader P__law_of_lines) 15 "NoLine") : OkFX P w K mg base (tb a_Order a_NoLine a_NoPlace a_NoDownset a_NoThing P_walker P__law_of_downsets P_leader P__law_of_lines) 4 "needs_line" ["order", "line"] den_needs_line_X (.q .A) :=
 mk_okfx (k := 3) (Γn := [.fz .U, .fz .A]) F sc_needs_line_X rfl rfl (fun _ => ⟨_, rfl⟩) fun f cdv A outer s H E hr tk PO =>
 (dss_one (Γ1 := [.fz .U, .fz .A]) (ds_if (Γn := [.fz .U, .fz .A]) (dt_not (dt_val (de_call o_is_line hr (by rfl) (da_cons (de_v 0 (q := .U) rfl (pv 0)) (da_cons (de_v 1 (q := .A) rfl (pv 1)) da_nil)) (aCons_len (aCons_len aNil_len))))) (dss_one (Γ1 := [.fz .U, .fz .A]) (ds_raise0 rfl tk E_NoLine (by rfl) rfl) rfl) (dss_nil rfl)) rfl)
theorem ok_needs_places_X (F : FtF K mg "needs_places" "needs_places" (topS 33) ["order", "word"]) (o_Order_size : OkM P w K mg base (tb a_Order a_NoLine a_NoPlace a_NoDownset a_NoThing P_walker P__law_of_downsets P_leader P__law_of_lines) 1 0 "size" ["self"] den_Order_size (.q .A)) (E_NoPlace : OkE P w K mg base (tb a_Order a_NoLine a_NoPlace a_NoDownset a_NoThing P_walker P__law_of_downsets P_leader P__law_of_lines) 13 "NoPlace" ["place"]) : OkFX P w K mg base (tb a_Order a_NoLine a_NoPlace a_NoDownset a_NoThing P_walker P__law_of_downsets P_leader P__law_of_lines) 3 "needs_places" ["order", "word"] den_needs_places_X (.q .A) :=
 mk_okfx (k := 2) (Γn := [.fz .U, .fl .A, .no]) F sc_needs_places_X rfl rfl (fun _ => ⟨_, rfl⟩) fun f cdv A outer s H E hr tk PO =>
 (dss_one (Γ1 := [.fz .U, .fl .A, .no]) (ds_for (cl := [2]) (Γ1 := [.fz .U, .fl .A, .fz .A]) PO rfl (di_listf (de_vl 1 (q := .A) rfl (pv 1))) (pg_name (i := 2) sc_needs_places_X.nd rfl (by first | exact Or.inl rfl | exact Or.inr rfl)) (tgs_n (q := .A) (by decide)) (dss_one (Γ1 := [.fz .U, .fl .A, .fz .A]) (ds_if (Γn := [.fz .U, .fl .A, .fz .A]) (PW.pt (dw_or (dt_cmp op_lt (de_v 2 (q := .A) rfl (pv 2)) (de_int (q := .A)) (nomark _) (cs_lt rfl)) (dw_or1 (dt_cmp op_gt (de_v 2 (q := .A) rfl (pv 2)) (de_sub (q := .A) (de_meth0 o_Order_size hr (de_v 0 (q := .U) rfl (pv 0))) (de_int (q := .A))) (nomark _) (cs_gt rfl))))) (dss_one (Γ1 := [.fz .U, .fl .A, .fz .A]) (ds_raise1 rfl tk E_NoPlace (hr.mono (by decide)) (by rfl) (dq_cons (q := .A) (de_v 2 (q := .A) rfl (pv 2)) dq_nil) rfl (aCons_len aNil_len)) rfl) (dss_nil rfl)) rfl) (by decide)) rfl)
theorem ok_exchanged (F : FtF K mg "exchanged" "exchanged" (topS 35) ["order", "line", "place"]) (o_Order_below : OkM P w K mg base (tb a_Order a_NoLine a_NoPlace a_NoDownset a_NoThing P_walker P__law_of_downsets P_leader P__law_of_lines) 2 0 "below" ["self", "one", "other"] den_Order_below (.q .A)) : OkF P w K mg base (tb a_Order a_NoLine a_NoPlace a_NoDownset a_NoThing P_walker P__law_of_downsets P_leader P__law_of_lines) 3 "exchanged" ["order", "line", "place"] den_exchanged (.q .A) :=
 mk_okf (k := 2) (Γn := [.fz .U, .fz .A, .fz .A, .no, .no]) F sc_exchanged rfl rfl (fun _ => ⟨_, rfl⟩) fun f cdv A outer s H E hr =>
 (dss_cons (Γ1 := [.fz .U, .fz .A, .fz .A, .fz .A, .no]) (ds_set (i := 3) (q := .A) sc_exchanged.nd rfl (by first | exact Or.inl rfl | exact Or.inr rfl) (de_ixt (de_v 1 (q := .A) rfl (pv 1)) (de_v 2 (q := .A) rfl (pv 2))))
 (dss_cons (Γ1 := [.fz .U, .fz .A, .fz .A, .fz .A, .fz .A]) (ds_set (i := 4) (q := .A) sc_exchanged.nd rfl (by first | exact Or.inl rfl | exact Or.inr rfl) (de_ixt (de_v 1 (q := .A) rfl (pv 1)) (de_add (q := .A) (de_v 2 (q := .A) rfl (pv 2)) (de_int (q := .A)))))
 (dss_cons (Γ1 := [.fz .U, .fz .A, .fz .A, .fz .A, .fz .A]) (ds_if (Γn := [.fz .U, .fz .A, .fz .A, .fz .A, .fz .A]) (dt_val (de_meth o_Order_below hr (de_v 0 (q := .U) rfl (pv 0)) (da_cons (de_v 3 (q := .A) rfl (pv 3)) (da_cons (de_v 4 (q := .A) rfl (pv 4)) da_nil)) (aSuc (aCons_len (aCons_len aNil_len))))) (dss_one (Γ1 := [.fz .U, .fz .A, .fz .A, .fz .A, .fz .A]) (ds_ret (q := .A) (de_v 1 (q := .A) rfl (pv 1))) rfl) (dss_nil rfl))
 (dss_one (Γ1 := [.fz .U, .fz .A, .fz .A, .no, .no]) (ds_ret (q := .A) (de_catT (q := .A) (de_catT (q := .A) (de_slT (q := .A) (de_v 1 (q := .A) rfl (pv 1)) do_no (do_yes (de_v 2 (q := .A) rfl (pv 2)))) (de_tup (q := .A) (dq_cons (q := .A) (de_v 4 (q := .A) rfl (pv 4)) (dq_cons (q := .A) (de_v 3 (q := .A) rfl (pv 3)) dq_nil)))) (de_slT (q := .A) (de_v 1 (q := .A) rfl (pv 1)) (do_yes (de_add (q := .A) (de_v 2 (q := .A) rfl (pv 2)) (de_int (q := .A)))) do_no))) rfl))))
theorem ok_led_X (F : FtF K mg "led" "led" (topS 40) ["order", "line", "word"]) (o_needs_line_X : OkFX P w K mg base (tb a_Order a_NoLine a_NoPlace a_NoDownset a_NoThing P_walker P__law_of_downsets P_leader P__law_of_lines) 4 "needs_line" ["order", "line"] den_needs_line_X (.q .A)) (o_needs_places_X : OkFX P w K mg base (tb a_Order a_NoLine a_NoPlace a_NoDownset a_NoThing P_walker P__law_of_downsets P_leader P__law_of_lines) 3 "needs_places" ["order", "word"] den_needs_places_X (.q .A)) (o_exchanged : OkF P w K mg base (tb a_Order a_NoLine a_NoPlace a_NoDownset a_NoThing P_walker P__law_of_downsets P_leader P__law_of_lines) 3 "exchanged" ["order", "line", "place"] den_exchanged (.q .A)) : OkFX P w K mg base (tb a_Order a_NoLine a_NoPlace a_NoDownset a_NoThing P_walker P__law_of_downsets P_leader P__law_of_lines) 5 "led" ["order", "line", "word"] den_led_X (.q .A) :=
 mk_okfx (k := 4) (Γn := [.fz .U, .fz .A, .fl .A, .no]) F sc_led_X rfl rfl (fun _ => ⟨_, rfl⟩) fun f cdv A outer s H E hr tk PO =>
 (dss_cons (Γ1 := [.fz .U, .fz .A, .fl .A, .no]) (ds_dropX (dx_call o_needs_line_X tk hr (by rfl) (da_cons (de_v 0 (q := .U) rfl (pv 0)) (da_cons (de_v 1 (q := .A) rfl (pv 1)) da_nil)) (aCons_len (aCons_len aNil_len))) rfl)
 (dss_cons (Γ1 := [.fz .U, .fz .A, .fl .A, .no]) (ds_dropX (dx_call o_needs_places_X tk hr (by rfl) (da_cons (de_v 0 (q := .U) rfl (pv 0)) (da_cons (de_vl 2 (q := .A) rfl (pv 2)) da_nil)) (aCons_len (aCons_len aNil_len))) rfl)
 (dss_cons (Γ1 := [.fz .U, .fz .A, .fl .A, .no]) (ds_for (cl := [3]) (Γ1 := [.fz .U, .fz .A, .fl .A, .fz .A]) PO rfl (di_listf (de_vl 2 (q := .A) rfl (pv 2))) (pg_name (i := 3) sc_led_X.nd rfl (by first | exact Or.inl rfl | exact Or.inr rfl)) (tgs_n (q := .A) (by decide)) (dss_one (Γ1 := [.fz .U, .fz .A, .fl .A, .fz .A]) (ds_set (i := 1) (q := .A) sc_led_X.nd rfl (by first | exact Or.inl rfl | exact Or.inr rfl) (de_call o_exchanged hr (by rfl) (da_cons (de_v 0 (q := .U) rfl (pv 0)) (da_cons (de_v 1 (q := .A) rfl (pv 1)) (da_cons (de_v 3 (q := .A) rfl (pv 3)) da_nil))) (aCons_len (aCons_len (aCons_len aNil_len))))) rfl) (by decide))
 (dss_one (Γ1 := [.fz .U, .fz .A, .fl .A, .no]) (ds_ret (q := .A) (de_v 1 (q := .A) rfl (pv 1))) rfl))))
theorem ok_swapped_X (F : FtF K mg "swapped" "swapped" (topS 39) ["order", "line", "place"]) (o_led_X : OkFX P w K mg base (tb a_Order a_NoLine a_NoPlace a_NoDownset a_NoThing P_walker P__law_of_downsets P_leader P__law_of_lines) 5 "led" ["order", "line", "word"] den_led_X (.q .A)) : OkFX P w K mg base (tb a_Order a_NoLine a_NoPlace a_NoDownset a_NoThing P_walker P__law_of_downsets P_leader P__law_of_lines) 6 "swapped" ["order", "line", "place"] den_swapped_X (.q .A) :=
 mk_okfx (k := 5) (Γn := [.fz .U, .fz .A, .fz .A]) F sc_swapped_X rfl rfl (fun _ => ⟨_, rfl⟩) fun f cdv A outer s H E hr tk PO =>
 (dss_one (Γ1 := [.fz .U, .fz .A, .fz .A]) (ds_retX (q := .A) (dx_q (dx_call o_led_X tk hr (by rfl) (da_cons (de_v 0 (q := .U) rfl (pv 0)) (da_cons (de_v 1 (q := .A) rfl (pv 1)) (da_cons (de_lst (q := .A) (dq_cons (q := .A) (de_v 2 (q := .A) rfl (pv 2)) dq_nil)) da_nil))) (aCons_len (aCons_len (aCons_len aNil_len))))) rfl) rfl)
theorem ok_leader_X (F : FtF K mg "leader" "leader" (topS 41) ["order", "word"]) (o_needs_places_X : OkFX P w K mg base (tb a_Order a_NoLine a_NoPlace a_NoDownset a_NoThing P_walker P__law_of_downsets P_leader P__law_of_lines) 3 "needs_places" ["order", "word"] den_needs_places_X (.q .A)) (z_list : mg "list" = none) : OkFX P w K mg base (tb a_Order a_NoLine a_NoPlace a_NoDownset a_NoThing P_walker P__law_of_downsets P_leader P__law_of_lines) 4 "leader" ["order", "word"] den_leader_X (.q .A) :=
 mk_okfx (k := 3) (Γn := [.fz .U, .fl .A, .no, .no]) F sc_leader_X rfl rfl (fun _ => ⟨_, rfl⟩) fun f cdv A outer s H E hr tk PO =>
 (dss_cons (Γ1 := [.fz .U, .fl .A, .no, .no]) (ds_dropX (dx_call o_needs_places_X tk hr (by rfl) (da_cons (de_v 0 (q := .U) rfl (pv 0)) (da_cons (de_vl 1 (q := .A) rfl (pv 1)) da_nil)) (aCons_len (aCons_len aNil_len))) rfl)
 (dss_cons (Γ1 := [.fz .U, .fl .A, .ow .A, .no]) (ds_seto (i := 2) (q := .A) sc_leader_X.nd rfl (by first | exact Or.inl rfl | exact Or.inr rfl) (de_list (q := .A) (by rfl) z_list (de_vl 1 (q := .A) rfl (pv 1))))
 (dss_cons (Γ1 := [.fz .U, .fl .A, .ow .A, .no]) ds_never
 (dss_one (Γ1 := [.fz .U, .fl .A, .no, .no]) ds_never rfl))))
theorem ok_needs_places (F : FtF K mg "needs_places" "needs_places" (topS 33) ["order", "word"]) (o_Order_size : OkM P w K mg base (tb a_Order a_NoLine a_NoPlace a_NoDownset a_NoThing P_walker P__law_of_downsets P_leader P__law_of_lines) 1 0 "size" ["self"] den_Order_size (.q .A)) : OkF P w K mg base (tb a_Order a_NoLine a_NoPlace a_NoDownset a_NoThing P_walker P__law_of_downsets P_leader P__law_of_lines) 2 "needs_places" ["order", "word"] den_needs_places (.q .A) :=
 mk_okf (k := 1) (Γn := [.fz .U, .fl .A, .no]) F sc_needs_places rfl rfl (fun _ => ⟨_, rfl⟩) fun f cdv A outer s H E hr =>
 (dss_one (Γ1 := [.fz .U, .fl .A, .no]) (ds_for (cl := [2]) (Γ1 := [.fz .U, .fl .A, .fz .A]) PassesOwn.never rfl (di_listf (de_vl 1 (q := .A) rfl (pv 1))) (pg_name (i := 2) sc_needs_places.nd rfl (by first | exact Or.inl rfl | exact Or.inr rfl)) (tgs_n (q := .A) (by decide)) (dss_one (Γ1 := [.fz .U, .fl .A, .fz .A]) (ds_if (Γn := [.fz .U, .fl .A, .fz .A]) (PW.pt (dw_or (dt_cmp op_lt (de_v 2 (q := .A) rfl (pv 2)) (de_int (q := .A)) (nomark _) (cs_lt rfl)) (dw_or1 (dt_cmp op_gt (de_v 2 (q := .A) rfl (pv 2)) (de_sub (q := .A) (de_meth0 o_Order_size hr (de_v 0 (q := .U) rfl (pv 0))) (de_int (q := .A))) (nomark _) (cs_gt rfl))))) (dss_one (Γ1 := [.fz .U, .fl .A, .fz .A]) ds_never rfl) (dss_nil rfl)) rfl) (by decide)) rfl)
theorem ok_leader (F : FtT K mg "leader" "leader" (topS 41) ["order", "word"] ca_leader P_leader) (TB_leader : LamX.TabB base mg ca_leader P_leader) (PN : [P_walker, P__law_of_downsets, P_leader, P__law_of_lines].Nodup) (o_needs_places : OkF P w K mg base (tb a_Order a_NoLine a_NoPlace a_NoDownset a_NoThing P_walker P__law_of_downsets P_leader P__law_of_lines) 2 "needs_places" ["order", "word"] den_needs_places (.q .A)) (z_list : mg "list" = none) : OkMk P w K mg base (tb a_Order a_NoLine a_NoPlace a_NoDownset a_NoThing P_walker P__law_of_downsets P_leader P__law_of_lines) 3 "leader" ["order", "word"] den_leader 1 :=
 mk_okmk (nst := nst_leader) (pre := (defBody (topS 41)).take 2) (ii := 3) (k := 2) (Γn := [.fz .L, .fl .A, .fz .L, .no]) F sc_leader rfl rfl rfl rfl TB_leader (.tail _ (.tail _ (.head _))) (tabs_nd (l := (tb a_Order a_NoLine a_NoPlace a_NoDownset a_NoThing P_walker P__law_of_downsets P_leader P__law_of_lines).t) PN (.tail _ (.tail _ (.head _)))) rfl (by decide +kernel) (by decide +kernel) (by decide +kernel) rfl rfl (fun _ => rfl) rfl rfl rfl (by decide) (by decide) (by decide) (by decide) fun f A outer s H E H0 hr =>
 (dss_cons (Γ1 := [.fz .L, .fl .A, .no, .no]) (ds_drop (de_call o_needs_places hr (by rfl) (da_cons (de_v 0 (q := .L) rfl (pv 0)) (da_cons (de_vl 1 (q := .A) rfl (pv 1)) da_nil)) (aCons_len (aCons_len aNil_len))))
 (dss_one (Γ1 := [.fz .L, .fl .A, .ow .A, .no]) (ds_seto (i := 2) (q := .A) sc_leader.nd rfl (by first | exact Or.inl rfl | exact Or.inr rfl) (de_list (q := .A) (by rfl) z_list (de_vl 1 (q := .A) rfl (pv 1)))) rfl))
theorem ok_leader_lead_X (o_led_X : OkFX P w K mg base (tb a_Order a_NoLine a_NoPlace a_NoDownset a_NoThing P_walker P__law_of_downsets P_leader P__law_of_lines) 5 "led" ["order", "line", "word"] den_led_X (.q .A)) : OkNX P w K mg base (tb a_Order a_NoLine a_NoPlace a_NoDownset a_NoThing P_walker P__law_of_downsets P_leader P__law_of_lines) 6 1 ["line"] den_leader_lead_X (.q .A) :=
 mk_oknx (k := 5) (Γn := [.fz .A, .fz .U, .fl .A]) rfl sc_leader_lead_X rfl rfl (fun _ _ _ _ _ us hl => match us, hl with | [_], _ => rfl) (fun _ => ⟨_, rfl⟩) fun cl c' f A outer s H E hr tk PO =>
 (dss_one (Γ1 := [.fz .A, .fz .U, .fl .A]) (ds_retX (q := .A) (dx_q (dx_call o_led_X tk hr (by rfl) (da_cons (de_v 1 (q := .U) rfl (pv 1)) (da_cons (de_v 0 (q := .A) rfl (pv 0)) (da_cons (de_vl 2 (q := .A) rfl (pv 2)) da_nil))) (aCons_len (aCons_len (aCons_len aNil_len))))) rfl) rfl)
theorem ok__law_of_lines (F : FtT K mg "_law_of_lines" "_law_of_lines" (topS 58) ["_law_order", "_law_line_here", "_law_bad", "_law_cell"] ca__law_of_lines P__law_of_lines) (TB__law_of_lines : LamX.TabB base mg ca__law_of_lines P__law_of_lines) (PN : [P_walker, P__law_of_downsets, P_leader, P__law_of_lines].Nodup) (o__law_said : OkFL P w K mg base (tb a_Order a_NoLine a_NoPlace a_NoDownset a_NoThing P_walker P__law_of_downsets P_leader P__law_of_lines) 3 "_law_said" den__law_said_v5) (o_swapped_X : OkFX P w K mg base (tb a_Order a_NoLine a_NoPlace a_NoDownset a_NoThing P_walker P__law_of_downsets P_leader P__law_of_lines) 6 "swapped" ["order", "line", "place"] den_swapped_X (.q .A)) (o_led_X : OkFX P w K mg base (tb a_Order a_NoLine a_NoPlace a_NoDownset a_NoThing P_walker P__law_of_downsets P_leader P__law_of_lines) 5 "led" ["order", "line", "word"] den_led_X (.q .A)) (o_leader_X : OkFX P w K mg base (tb a_Order a_NoLine a_NoPlace a_NoDownset a_NoThing P_walker P__law_of_downsets P_leader P__law_of_lines) 4 "leader" ["order", "word"] den_leader_X (.q .A)) (o_leader : OkMk P w K mg base (tb a_Order a_NoLine a_NoPlace a_NoDownset a_NoThing P_walker P__law_of_downsets P_leader P__law_of_lines) 3 "leader" ["order", "word"] den_leader 1) (o_leader_lead_X : OkNX P w K mg base (tb a_Order a_NoLine a_NoPlace a_NoDownset a_NoThing P_walker P__law_of_downsets P_leader P__law_of_lines) 6 1 ["line"] den_leader_lead_X (.q .A)) (z_len : mg "len" = none) : OkF P w K mg base (tb a_Order a_NoLine a_NoPlace a_NoDownset a_NoThing P_walker P__law_of_downsets P_leader P__law_of_lines) 9 "_law_of_lines" ["_law_order", "_law_line_here", "_law_bad", "_law_cell"] den__law_of_lines_v2 (.q .A) :=
 mk_okft (k := 8) (Γn := [.fz .U, .fz .A, .fz .A, .fz .A, .no, .no, .no, .no, .no, .no]) F sc__law_of_lines rfl rfl (fun _ => ⟨_, rfl⟩) fun f A outer s H E hr =>
 (dss_cons (Γ1 := [.fz .U, .fz .A, .fz .A, .fz .A, .fz .A, .no, .no, .no, .no, .no]) (ds_set (i := 4) (q := .A) sc__law_of_lines.nd rfl (by first | exact Or.inl rfl | exact Or.inr rfl) (de_len (q := .A) (by rfl) z_len (de_v 1 (q := .A) rfl (pv 1))))
 (dss_cons (Γ1 := [.fz .U, .fz .A, .fz .A, .fz .A, .fz .A, .fz .A, .no, .no, .no, .no]) (ds_set (i := 5) (q := .A) sc__law_of_lines.nd rfl (by first | exact Or.inl rfl | exact Or.inr rfl) (de_ix (de_ob (de_lst (q := .A) (dq_cons (q := .A) (de_sub (q := .A) (de_v 4 (q := .A) rfl (pv 4)) (de_int (q := .A))) (dq_cons (q := .A) (de_sub (q := .A) (de_int (q := .A)) (de_int (q := .A))) (dq_cons (q := .A) (de_add (q := .A) (de_v 4 (q := .A) rfl (pv 4)) (de_mod (q := .A) (de_v 3 (q := .A) rfl (pv 3)) (de_pow (q := .A) (de_int (q := .A)) (de_int (q := .A))))) (dq_cons (q := .A) (de_sub (q := .A) (de_sub (q := .A) (de_int (q := .A)) (de_int (q := .A))) (de_mod (q := .A) (de_v 3 (q := .A) rfl (pv 3)) (de_pow (q := .A) (de_int (q := .A)) (de_int (q := .A))))) dq_nil)))))) (de_mod (q := .A) (de_div (q := .A) (de_v 3 (q := .A) rfl (pv 3)) (de_int (q := .A))) (de_int (q := .A)))))
 (dss_cons (Γ1 := [.fz .U, .fz .A, .fz .A, .fz .A, .fz .A, .fz .A, .ow .A, .no, .no, .no]) (ds_seto (i := 6) (q := .A) sc__law_of_lines.nd rfl (by first | exact Or.inl rfl | exact Or.inr rfl) (de_lst (q := .A) (dq_cons (q := .A) (de_v 5 (q := .A) rfl (pv 5)) (dq_cons (q := .A) (de_add (q := .A) (de_v 4 (q := .A) rfl (pv 4)) (de_int (q := .A))) dq_nil))))
 (dss_cons (Γ1 := [.fz .U, .fz .A, .fz .A, .fz .A, .fz .A, .fz .A, .ow .A, .no, .no, .no]) (ds_if (Γn := [.fz .U, .fz .A, .fz .A, .fz .A, .fz .A, .fz .A, .ow .A, .no, .no, .no]) (dt_cmp op_gt (de_v 4 (q := .A) rfl (pv 4)) (de_int (q := .A)) (nomark _) (cs_gt rfl)) (dss_one (Γ1 := [.fz .U, .fz .A, .fz .A, .fz .A, .fz .A, .fz .A, .ow .A, .no, .no, .no]) (ds_seto (i := 6) (q := .A) sc__law_of_lines.nd rfl (by first | exact Or.inl rfl | exact Or.inr rfl) (de_cat (q := .A) (de_ob (de_lst (q := .A) (dq_cons (q := .A) (de_mod (q := .A) (de_div (q := .A) (de_v 3 (q := .A) rfl (pv 3)) (de_int (q := .A))) (de_sub (q := .A) (de_v 4 (q := .A) rfl (pv 4)) (de_int (q := .A)))) dq_nil))) (de_vo 6 (q := .A) rfl (pv 6)))) rfl) (dss_nil rfl))
 (dss_cons (Γ1 := [.fz .U, .fz .A, .fz .A, .fz .A, .fz .A, .fz .A, .ow .A, .ow .A, .no, .no]) (ds_seto (i := 7) (q := .A) sc__law_of_lines.nd rfl (by first | exact Or.inl rfl | exact Or.inr rfl) (de_lst (q := .A) (dq_cons (q := .A) (de_tup (q := .A) (dq_cons (q := .A) (de_str (q := .A)) (dq_cons (q := .A) (de_int (q := .A)) dq_nil))) (dq_cons (q := .A) (de_tup (q := .A) (dq_cons (q := .A) (de_str (q := .A)) (dq_cons (q := .A) (de_int (q := .A)) dq_nil))) (dq_cons (q := .A) (de_tup (q := .A) (dq_cons (q := .A) (de_str (q := .A)) (dq_cons (q := .A) (de_v 5 (q := .A) rfl (pv 5)) dq_nil))) (dq_cons (q := .A) (de_tup (q := .A) (dq_cons (q := .A) (de_str (q := .A)) (dq_cons (q := .A) (de_v 5 (q := .A) rfl (pv 5)) dq_nil))) (dq_cons (q := .A) (de_tup (q := .A) (dq_cons (q := .A) (de_str (q := .A)) (dq_cons (q := .A) (de_v 5 (q := .A) rfl (pv 5)) dq_nil))) (dq_cons (q := .A) (de_tup (q := .A) (dq_cons (q := .A) (de_str (q := .A)) (dq_cons (q := .A) (de_int (q := .A)) dq_nil))) dq_nil))))))))
 (dss_cons (Γ1 := [.fz .U, .fz .A, .fz .A, .fz .A, .fz .A, .fz .A, .ow .A, .ow .A, .ow .A, .no]) (ds_seto (i := 8) (q := .A) sc__law_of_lines.nd rfl (by first | exact Or.inl rfl | exact Or.inr rfl) (de_lst (q := .A) (dq_cons (q := .A) (de_lam (Γ' := [.fz .U, .fz .A, .fz .A, .fz .A, .fz .A, .fz .A, .fl .A, .fl .A, .no, .no]) o__law_said hr (by rfl) TB__law_of_lines rfl (.tail _ (.tail _ (.tail _ (.head _)))) (tabs_nd (l := (tb a_Order a_NoLine a_NoPlace a_NoDownset a_NoThing P_walker P__law_of_downsets P_leader P__law_of_lines).t) PN (.tail _ (.tail _ (.tail _ (.head _))))) (LamX.lamS_by (by first | decide +kernel | kernel_rfl | rfl)) rfl (fun _ _ _ _ _ => rfl) (fun A outer s H E f0 c' hr tk => (dx_call o_swapped_X tk hr (by rfl) (da_cons (de_v 0 (q := .U) rfl (pv 0)) (da_cons (de_v 2 (q := .A) rfl (pv 2)) (da_cons (de_v 5 (q := .A) rfl (pv 5)) da_nil))) (aCons_len (aCons_len (aCons_len aNil_len))))) rfl rfl) dq_nil)))
 (dss_cons (Γ1 := [.fz .U, .fz .A, .fz .A, .fz .A, .fz .A, .fz .A, .ow .A, .ow .A, .ow .A, .no]) (ds_append 8 (q := .A) rfl (pe_bm PySem.F.plainAttrs_list PySem.F.slot_list_append PySem.F.type_list_append mt_append (pv 8) (pa_cons (de_lam (Γ' := [.fz .U, .fz .A, .fz .A, .fz .A, .fz .A, .fz .A, .fl .A, .fl .A, .fl .A, .no]) o__law_said hr (by rfl) TB__law_of_lines rfl (.tail _ (.tail _ (.tail _ (.head _)))) (tabs_nd (l := (tb a_Order a_NoLine a_NoPlace a_NoDownset a_NoThing P_walker P__law_of_downsets P_leader P__law_of_lines).t) PN (.tail _ (.tail _ (.tail _ (.head _))))) (LamX.lamS_by (by first | decide +kernel | kernel_rfl | rfl)) rfl (fun _ _ _ _ _ => rfl) (fun A outer s H E f0 c' hr tk => (dx_call o_led_X tk hr (by rfl) (da_cons (de_v 0 (q := .U) rfl (pv 0)) (da_cons (de_v 2 (q := .A) rfl (pv 2)) (da_cons (de_vl 6 (q := .A) rfl (pv 6)) da_nil))) (aCons_len (aCons_len (aCons_len aNil_len))))) rfl rfl) pa_nil)))
 (dss_cons (Γ1 := [.fz .U, .fz .A, .fz .A, .fz .A, .fz .A, .fz .A, .ow .A, .ow .A, .ow .A, .no]) (ds_append 8 (q := .A) rfl (pe_bm PySem.F.plainAttrs_list PySem.F.slot_list_append PySem.F.type_list_append mt_append (pv 8) (pa_cons (de_lam (Γ' := [.fz .U, .fz .A, .fz .A, .fz .A, .fz .A, .fz .A, .fl .A, .fl .A, .fl .A, .no]) o__law_said hr (by rfl) TB__law_of_lines rfl (.tail _ (.tail _ (.tail _ (.head _)))) (tabs_nd (l := (tb a_Order a_NoLine a_NoPlace a_NoDownset a_NoThing P_walker P__law_of_downsets P_leader P__law_of_lines).t) PN (.tail _ (.tail _ (.tail _ (.head _))))) (LamX.lamS_by (by first | decide +kernel | kernel_rfl | rfl)) rfl (fun _ _ _ _ _ => rfl) (fun A outer s H E f0 c' hr tk => (dx_call o_swapped_X tk hr (by rfl) (da_cons (de_v 0 (q := .U) rfl (pv 0)) (da_cons (de_v 1 (q := .A) rfl (pv 1)) (da_cons (de_v 5 (q := .A) rfl (pv 5)) da_nil))) (aCons_len (aCons_len (aCons_len aNil_len))))) rfl rfl) pa_nil)))
 (dss_cons (Γ1 := [.fz .U, .fz .A, .fz .A, .fz .A, .fz .A, .fz .A, .ow .A, .ow .A, .ow .A, .no]) (ds_append 8 (q := .A) rfl (pe_bm PySem.F.plainAttrs_list PySem.F.slot_list_append PySem.F.type_list_append mt_append (pv 8) (pa_cons (de_lam (Γ' := [.fz .U, .fz .A, .fz .A, .fz .A, .fz .A, .fz .A, .fl .A, .fl .A, .fl .A, .no]) o__law_said hr (by rfl) TB__law_of_lines rfl (.tail _ (.tail _ (.tail _ (.head _)))) (tabs_nd (l := (tb a_Order a_NoLine a_NoPlace a_NoDownset a_NoThing P_walker P__law_of_downsets P_leader P__law_of_lines).t) PN (.tail _ (.tail _ (.tail _ (.head _))))) (LamX.lamS_by (by first | decide +kernel | kernel_rfl | rfl)) rfl (fun _ _ _ _ _ => rfl) (fun A outer s H E f0 c' hr tk => (dx_call o_led_X tk hr (by rfl) (da_cons (de_v 0 (q := .U) rfl (pv 0)) (da_cons (de_v 1 (q := .A) rfl (pv 1)) (da_cons (de_vl 6 (q := .A) rfl (pv 6)) da_nil))) (aCons_len (aCons_len (aCons_len aNil_len))))) rfl rfl) pa_nil)))
 (dss_cons (Γ1 := [.fz .U, .fz .A, .fz .A, .fz .A, .fz .A, .fz .A, .ow .A, .ow .A, .ow .A, .no]) (ds_append 8 (q := .A) rfl (pe_bm PySem.F.plainAttrs_list PySem.F.slot_list_append PySem.F.type_list_append mt_append (pv 8) (pa_cons (de_lam (Γ' := [.fz .U, .fz .A, .fz .A, .fz .A, .fz .A, .fz .A, .fl .A, .fl .A, .fl .A, .no]) o__law_said hr (by rfl) TB__law_of_lines rfl (.tail _ (.tail _ (.tail _ (.head _)))) (tabs_nd (l := (tb a_Order a_NoLine a_NoPlace a_NoDownset a_NoThing P_walker P__law_of_downsets P_leader P__law_of_lines).t) PN (.tail _ (.tail _ (.tail _ (.head _))))) (LamX.lamS_by (by first | decide +kernel | kernel_rfl | rfl)) rfl (fun _ _ _ _ _ => rfl) (fun A outer s H E f0 c' hr tk => (dx_call o_leader_X tk hr (by rfl) (da_cons (de_v 0 (q := .U) rfl (pv 0)) (da_cons (de_vl 6 (q := .A) rfl (pv 6)) da_nil)) (aCons_len (aCons_len aNil_len)))) rfl rfl) pa_nil)))
 (dss_cons (Γ1 := [.fz .U, .fz .A, .fz .A, .fz .A, .fz .A, .fz .A, .ow .A, .ow .A, .ow .A, .os (.clo 1)]) (ds_mkclo (i := 9) sc__law_of_lines.nd rfl (by first | exact Or.inl rfl | exact Or.inr rfl) o_leader hr (by rfl) (de_v 0 (q := .U) rfl (pv 0)) (de_slL (q := .A) (de_vo 6 (q := .A) rfl (pv 6)) do_no (do_yes (de_neg (q := .A) (de_int (q := .A))))))
 (dss_cons (Γ1 := [.fz .U, .fz .A, .fz .A, .fz .A, .fz .A, .fz .A, .ow .A, .ow .A, .ow .A, .os (.clo 1)]) (ds_append 8 (q := .A) rfl (pe_bm PySem.F.plainAttrs_list PySem.F.slot_list_append PySem.F.type_list_append mt_append (pv 8) (pa_cons (de_lam (Γ' := [.fz .U, .fz .A, .fz .A, .fz .A, .fz .A, .fz .A, .fl .A, .fl .A, .fl .A, .os (.clo 1)]) o__law_said hr (by rfl) TB__law_of_lines rfl (.tail _ (.tail _ (.tail _ (.head _)))) (tabs_nd (l := (tb a_Order a_NoLine a_NoPlace a_NoDownset a_NoThing P_walker P__law_of_downsets P_leader P__law_of_lines).t) PN (.tail _ (.tail _ (.tail _ (.head _))))) (LamX.lamS_by (by first | decide +kernel | kernel_rfl | rfl)) rfl (fun _ _ _ _ _ => rfl) (fun A outer s H E f0 c' hr tk => (dx_clo 9 rfl o_leader_lead_X tk hr rfl (by first | exact Or.inl rfl | exact Or.inr (Or.inl rfl) | exact Or.inr (Or.inr rfl)) (da_cons (de_v 2 (q := .A) rfl (pv 2)) da_nil) (aCons_len aNil_len))) rfl rfl) pa_nil)))
 (dss_one (Γ1 := [.fz .U, .fz .A, .fz .A, .fz .A, .no, .no, .no, .no, .no, .no]) (ds_ret (q := .A) (de_cmp (q := .A) (op_eqD hr.units) (de_vo 8 (q := .A) rfl (pv 8)) (de_vo 7 (q := .A) rfl (pv 7)) (nomark _) (cs_eqD rfl))) rfl)))))))))))))
theorem ok__law_no_line (F : FtF K mg "_law_no_line" "_law_no_line" (topS 56) ["_law_line_here", "_law_under_here", "_law_cell"]) (z_len : mg "len" = none) (z_range : mg "range" = none) : OkFZ P w K mg base (tb a_Order a_NoLine a_NoPlace a_NoDownset a_NoThing P_walker P__law_of_downsets P_leader P__law_of_lines) 1 "_law_no_line" ["_law_line_here", "_law_under_here", "_law_cell"] den__law_no_line :=
 mk_okfz (k := 0) (Γn := [.os (.clo 1000), .fl .U, .fz .A, .no, .no, .no, .no]) F sc__law_no_line rfl rfl rfl fun f cdv A outer s H E hr =>
 (dss_cons (Γ1 := [.os (.clo 1000), .fl .U, .fz .A, .fz .A, .no, .no, .no]) (ds_set (i := 3) (q := .A) sc__law_no_line.nd rfl (by first | exact Or.inl rfl | exact Or.inr rfl) (de_len (q := .A) (by rfl) z_len (de_vtz 0 (q := .A) rfl (pv 0))))
 (dss_cons (Γ1 := [.os (.clo 1000), .fl .U, .fz .A, .fz .A, .ow .A, .no, .no]) (ds_seto (i := 4) (q := .A) sc__law_no_line.nd rfl (by first | exact Or.inl rfl | exact Or.inr rfl) (de_lst (q := .A) (dq_cons (q := .A) (de_slT (q := .A) (de_vtz 0 (q := .A) rfl (pv 0)) (do_yes (de_int (q := .A))) do_no) (dq_cons (q := .A) (de_catT (q := .A) (de_vtz 0 (q := .A) rfl (pv 0)) (de_tup (q := .A) (dq_cons (q := .A) (de_int (q := .A)) dq_nil))) (dq_cons (q := .A) (de_catT (q := .A) (de_slT (q := .A) (de_vtz 0 (q := .A) rfl (pv 0)) do_no (do_yes (de_neg (q := .A) (de_int (q := .A))))) (de_tup (q := .A) (dq_cons (q := .A) (de_v 3 (q := .A) rfl (pv 3)) dq_nil))) (dq_cons (q := .A) (de_catT (q := .A) (de_tup (q := .A) (dq_cons (q := .A) (de_sub (q := .A) (de_int (q := .A)) (de_int (q := .A))) dq_nil)) (de_slT (q := .A) (de_vtz 0 (q := .A) rfl (pv 0)) (do_yes (de_int (q := .A))) do_no)) dq_nil))))))
 (dss_cons (Γ1 := [.os (.clo 1000), .fl .U, .fz .A, .fz .A, .ow .A, .no, .no]) (ds_if (Γn := [.os (.clo 1000), .fl .U, .fz .A, .fz .A, .ow .A, .no, .no]) (dt_cmp op_gt (de_v 3 (q := .A) rfl (pv 3)) (de_int (q := .A)) (nomark _) (cs_gt rfl)) (dss_one (Γ1 := [.os (.clo 1000), .fl .U, .fz .A, .fz .A, .ow .A, .no, .no]) (ds_append 4 (q := .A) rfl (pe_bm PySem.F.plainAttrs_list PySem.F.slot_list_append PySem.F.type_list_append mt_append (pv 4) (pa_cons (de_catT (q := .A) (de_slT (q := .A) (de_vtz 0 (q := .A) rfl (pv 0)) do_no (do_yes (de_neg (q := .A) (de_int (q := .A))))) (de_slT (q := .A) (de_vtz 0 (q := .A) rfl (pv 0)) do_no (do_yes (de_int (q := .A))))) pa_nil))) rfl) (dss_nil rfl))
 (dss_cons (Γ1 := [.os (.clo 1000), .fl .U, .fz .A, .fz .A, .ow .A, .no, .no]) (ds_for (cl := [5, 6]) (Γ1 := [.os (.clo 1000), .fl .U, .fz .A, .fz .A, .ow .A, .fz .A, .no]) PassesOwn.never rfl (di_range1 (q := .A) (by rfl) z_range (de_v 3 (q := .A) rfl (pv 3))) (pg_name (i := 5) sc__law_no_line.nd rfl (by first | exact Or.inl rfl | exact Or.inr rfl)) (tgs_n (q := .A) (by decide)) (dss_one (Γ1 := [.os (.clo 1000), .fl .U, .fz .A, .fz .A, .ow .A, .fz .A, .no]) (ds_if (Γn := [.os (.clo 1000), .fl .U, .fz .A, .fz .A, .ow .A, .fz .A, .no]) (dt_cmp op_gt (de_len (q := .A) (by rfl) z_len (de_ix (de_vl 1 (q := .U) rfl (pv 1)) (de_v 5 (q := .A) rfl (pv 5)))) (de_int (q := .A)) (nomark _) (cs_gt rfl)) (dss_clr (cl := [6]) (dss_cons (Γ1 := [.os (.clo 1000), .fl .U, .fz .A, .fz .A, .ow .A, .fz .A, .fz .A]) (ds_set (i := 6) (q := .A) sc__law_no_line.nd rfl (by first | exact Or.inl rfl | exact Or.inr rfl) (de_tindex 0 (q := .A) rfl (pv 0) (de_v 5 (q := .A) rfl (pv 5))))
 (dss_one (Γ1 := [.os (.clo 1000), .fl .U, .fz .A, .fz .A, .ow .A, .fz .A, .fz .A]) (ds_append 4 (q := .A) rfl (pe_bm PySem.F.plainAttrs_list PySem.F.slot_list_append PySem.F.type_list_append mt_append (pv 4) (pa_cons (de_catT (q := .A) (de_catT (q := .A) (de_tup (q := .A) (dq_cons (q := .A) (de_v 5 (q := .A) rfl (pv 5)) dq_nil)) (de_slT (q := .A) (de_vtz 0 (q := .A) rfl (pv 0)) do_no (do_yes (de_v 6 (q := .A) rfl (pv 6))))) (de_slT (q := .A) (de_vtz 0 (q := .A) rfl (pv 0)) (do_yes (de_add (q := .A) (de_v 6 (q := .A) rfl (pv 6)) (de_int (q := .A)))) do_no)) pa_nil))) rfl)) (by decide)) (dss_clr (cl := [6]) (dss_nil rfl) (by decide))) rfl) (by decide))
 (dss_one (Γ1 := [.os (.clo 1000), .fl .U, .fz .A, .no, .no, .no, .no]) (ds_ret (q := .A) (de_ix (de_vo 4 (q := .A) rfl (pv 4)) (de_mod (q := .A) (de_v 2 (q := .A) rfl (pv 2)) (de_len (q := .A) (by rfl) z_len (de_vo 4 (q := .A) rfl (pv 4)))))) rfl)))))
theorem fn_law {f : Addr} {fd : FuncData} (F : Fun K "law" "law" (topS 59) f fd) (o__law_drawn : OkF P w K mg base (tb a_Order a_NoLine a_NoPlace a_NoDownset a_NoThing P_walker P__law_of_downsets P_leader P__law_of_lines) 3 "_law_drawn" ["_law_script", "_law_most"] den__law_drawn_v2 (.q .L)) (o__law_under : OkF P w K mg base (tb a_Order a_NoLine a_NoPlace a_NoDownset a_NoThing P_walker P__law_of_downsets P_leader P__law_of_lines) 1 "_law_under" ["_law_many", "_law_pairs"] den__law_under (.q .L)) (o_Order_init : OkC P w K mg base (tb a_Order a_NoLine a_NoPlace a_NoDownset a_NoThing P_walker P__law_of_downsets P_leader P__law_of_lines) 2 0 "Order" 2 den_Order_init .L) (o__law_line : OkF P w K mg base (tb a_Order a_NoLine a_NoPlace a_NoDownset a_NoThing P_walker P__law_of_downsets P_leader P__law_of_lines) 2 "_law_line" ["_law_under_here", "_law_script", "_law_at"] den__law_line (.od (.clo 1000))) (o__law_no_downset : OkF P w K mg base (tb a_Order a_NoLine a_NoPlace a_NoDownset a_NoThing P_walker P__law_of_downsets P_leader P__law_of_lines) 2 "_law_no_downset" ["_law_under_here", "_law_cell"] den__law_no_downset (.q .A)) (o__law_free : OkF P w K mg base (tb a_Order a_NoLine a_NoPlace a_NoDownset a_NoThing P_walker P__law_of_downsets P_leader P__law_of_lines) 2 "_law_free" ["_law_script", "_law_k"] den__law_free (.q .A)) (o__law_of_downsets : OkF P w K mg base (tb a_Order a_NoLine a_NoPlace a_NoDownset a_NoThing P_walker P__law_of_downsets P_leader P__law_of_lines) 11 "_law_of_downsets" ["_law_order", "_law_bits_here", "_law_bad", "_law_many", "_law_cell"] den__law_of_downsets (.q .A)) (o__law_bits_v2 : OkF P w K mg base (tb a_Order a_NoLine a_NoPlace a_NoDownset a_NoThing P_walker P__law_of_downsets P_leader P__law_of_lines) 1 "_law_bits" ["_law_things"] den__law_bits_v3 (.q .A)) (o__law_of_lines : OkF P w K mg base (tb a_Order a_NoLine a_NoPlace a_NoDownset a_NoThing P_walker P__law_of_downsets P_leader P__law_of_lines) 9 "_law_of_lines" ["_law_order", "_law_line_here", "_law_bad", "_law_cell"] den__law_of_lines_v2 (.q .A)) (o__law_no_line : OkFZ P w K mg base (tb a_Order a_NoLine a_NoPlace a_NoDownset a_NoThing P_walker P__law_of_downsets P_leader P__law_of_lines) 1 "_law_no_line" ["_law_line_here", "_law_under_here", "_law_cell"] den__law_no_line) (z_list : mg "list" = none) : FnOk P w K mg base CX0 12 f fd ["_law_script"] (spD K (tb a_Order a_NoLine a_NoPlace a_NoDownset a_NoThing P_walker P__law_of_downsets P_leader P__law_of_lines) 1 den_law (.q .A)) :=
 fn_body (k := 11) (Γn := [.fz .U, .no, .no, .no, .no, .no, .no]) F sc_law rfl rfl (fun _ => ⟨_, rfl⟩) fun f cdv A outer s H E hr =>
 (dss_cons (Γ1 := [.fz .U, .no, .no, .no, .no, .fz .L, .fz .L]) (ds_tg (q := .L) (Γ1 := [.fz .U, .no, .no, .no, .no, .fz .L, .fz .L]) (de_call o__law_drawn hr (by rfl) (da_cons (de_v 0 (q := .U) rfl (pv 0)) (da_cons (de_int (q := .A)) da_nil)) (aCons_len (aCons_len aNil_len))) (pg_tup rfl (pgs_cons (pg_name (i := 5) sc_law.nd rfl (by first | exact Or.inl rfl | exact Or.inr rfl)) (pgs_cons (pg_name (i := 6) sc_law.nd rfl (by first | exact Or.inl rfl | exact Or.inr rfl)) pgs_nil))) (tgs_t (is := [5, 6]) (q := .L) (by decide)))
 (dss_cons (Γ1 := [.fz .U, .fz .L, .no, .no, .no, .fz .L, .fz .L]) (ds_set (i := 1) (q := .L) sc_law.nd rfl (by first | exact Or.inl rfl | exact Or.inr rfl) (de_call o__law_under hr (by rfl) (da_cons (de_v 5 (q := .L) rfl (pv 5)) (da_cons (de_v 6 (q := .L) rfl (pv 6)) da_nil)) (aCons_len (aCons_len aNil_len))))
 (dss_cons (Γ1 := [.fz .U, .fz .L, .fz .L, .no, .no, .fz .L, .fz .L]) (ds_set (i := 2) (q := .L) sc_law.nd rfl (by first | exact Or.inl rfl | exact Or.inr rfl) (de_make (cl := 0) o_Order_init hr (by rfl) (da_cons (de_v 5 (q := .L) rfl (pv 5)) (da_cons (de_list (q := .L) (by rfl) z_list (de_v 6 (q := .L) rfl (pv 6))) da_nil)) (aCons_len (aCons_len aNil_len))))
 (dss_cons (Γ1 := [.fz .U, .fz .L, .fz .L, .os (.clo 1000), .no, .fz .L, .fz .L]) (ds_calltz (i := 3) sc_law.nd rfl (by first | exact Or.inl rfl | exact Or.inr rfl) o__law_line hr (by rfl) (da_cons (de_v 1 (q := .L) rfl (pv 1)) (da_cons (de_v 0 (q := .U) rfl (pv 0)) (da_cons (de_int (q := .A)) da_nil))) (aCons_len (aCons_len (aCons_len aNil_len))))
 (dss_cons (Γ1 := [.fz .U, .fz .L, .fz .L, .os (.clo 1000), .fz .A, .fz .L, .fz .L]) (ds_set (i := 4) (q := .A) sc_law.nd rfl (by first | exact Or.inl rfl | exact Or.inr rfl) (de_call o__law_no_downset hr (by rfl) (da_cons (de_v 1 (q := .L) rfl (pv 1)) (da_cons (de_call o__law_free hr (by rfl) (da_cons (de_v 0 (q := .U) rfl (pv 0)) (da_cons (de_int (q := .A)) da_nil)) (aCons_len (aCons_len aNil_len))) da_nil)) (aCons_len (aCons_len aNil_len))))
 (dss_cons (Γ1 := [.fz .U, .fz .L, .fz .L, .os (.clo 1000), .fz .A, .fz .L, .fz .L]) (ds_if (Γn := [.fz .U, .fz .L, .fz .L, .os (.clo 1000), .fz .A, .fz .L, .fz .L]) (dt_not (dt_val (de_call o__law_of_downsets hr (by rfl) (da_cons (de_v 2 (q := .L) rfl (pv 2)) (da_cons (de_call o__law_bits_v2 hr (by rfl) (da_cons (de_slT (q := .A) (de_vtz 3 (q := .A) rfl (pv 3)) do_no (do_yes (de_int (q := .A)))) da_nil) (aCons_len aNil_len)) (da_cons (de_v 4 (q := .A) rfl (pv 4)) (da_cons (de_v 5 (q := .L) rfl (pv 5)) (da_cons (de_call o__law_free hr (by rfl) (da_cons (de_v 0 (q := .U) rfl (pv 0)) (da_cons (de_int (q := .A)) da_nil)) (aCons_len (aCons_len aNil_len))) da_nil))))) (aCons_len (aCons_len (aCons_len (aCons_len (aCons_len aNil_len)))))))) (dss_one (Γ1 := [.fz .U, .fz .L, .fz .L, .os (.clo 1000), .fz .A, .fz .L, .fz .L]) (ds_ret (q := .A) (de_bl (q := .A))) rfl) (dss_nil rfl))
 (dss_one (Γ1 := [.fz .U, .no, .no, .no, .no, .no, .no]) (ds_ret (q := .A) (de_call o__law_of_lines hr (by rfl) (da_cons (de_v 2 (q := .L) rfl (pv 2)) (da_cons (de_vtz 3 (q := .A) rfl (pv 3)) (da_cons (de_callZ (i := 3) o__law_no_line hr (by rfl) (daz_here 3 rfl (pv 3) (da_cons (de_v 1 (q := .L) rfl (pv 1)) (da_cons (de_call o__law_free hr (by rfl) (da_cons (de_v 0 (q := .U) rfl (pv 0)) (da_cons (de_int (q := .A)) da_nil)) (aCons_len (aCons_len aNil_len))) da_nil))) (aCons_len (aCons_len (aCons_len aNil_len)))) (da_cons (de_call o__law_free hr (by rfl) (da_cons (de_v 0 (q := .U) rfl (pv 0)) (da_cons (de_int (q := .A)) da_nil)) (aCons_len (aCons_len aNil_len))) da_nil)))) (aCons_len (aCons_len (aCons_len (aCons_len aNil_len)))))) rfl)))))))
end
theorem all_mk {l : PySem.W.OpenLaw} {w : World} {K : PySem.W.Frag} {h : Heap} {mg : Str → Option Value} {fa : Addr} (X : K.In h) (G : h.Ns mainGlobals mg) (hfa : mg "law" = some (.ref fa))
 (hφ : ∀ ns : List Int, ns.length ≤ 63 → den_law [.scr (ns.map .int)] = some (.bl true))
 {a_NoText : Addr}
 {a_NoRow : Addr}
 {a_NoPair : Addr}
 {a_NoNumber : Addr}
 {a_NoField : Addr}
 {a_NoCount : Addr}
 {a_TooMany : Addr}
 {a_NothingDone : Addr}
 {a_ToggleError : Addr}
 {a_NoLine : Addr}
 {a_NoPlace : Addr}
 {a_NoDownset : Addr}
 {a_NoThing : Addr}
 (a_c_NoText : PySem.W.nsIn K mainGlobals "NoText" = some (some (.ref a_NoText)))
 (a_c_NoRow : PySem.W.nsIn K mainGlobals "NoRow" = some (some (.ref a_NoRow)))
 (a_c_NoPair : PySem.W.nsIn K mainGlobals "NoPair" = some (some (.ref a_NoPair)))
 (a_c_NoNumber : PySem.W.nsIn K mainGlobals "NoNumber" = some (some (.ref a_NoNumber)))
 (a_c_NoField : PySem.W.nsIn K mainGlobals "NoField" = some (some (.ref a_NoField)))
 (a_c_NoCount : PySem.W.nsIn K mainGlobals "NoCount" = some (some (.ref a_NoCount)))
 (a_c_TooMany : PySem.W.nsIn K mainGlobals "TooMany" = some (some (.ref a_TooMany)))
 (a_c_NothingDone : PySem.W.nsIn K mainGlobals "NothingDone" = some (some (.ref a_NothingDone)))
 (a_c_ToggleError : PySem.W.nsIn K mainGlobals "ToggleError" = some (some (.ref a_ToggleError)))
 (a_c_NoLine : PySem.W.nsIn K mainGlobals "NoLine" = some (some (.ref a_NoLine)))
 (a_c_NoPlace : PySem.W.nsIn K mainGlobals "NoPlace" = some (some (.ref a_NoPlace)))
 (a_c_NoDownset : PySem.W.nsIn K mainGlobals "NoDownset" = some (some (.ref a_NoDownset)))
 (a_c_NoThing : PySem.W.nsIn K mainGlobals "NoThing" = some (some (.ref a_NoThing)))
 {a_Order : Addr}
 (a_c_Order : PySem.W.nsIn K mainGlobals "Order" = some (some (.ref a_Order))) (pg_Order : PySem.W.plainGet K a_Order Str.empty = true) (hd_Order : PySem.W.hasDictIn K a_Order = true) (po_Order : PySem.W.plainOver K a_Order = true) (sa_Order : PySem.W.findIn K (.ref a_Order) "__setattr__" = some (some (.builtin "object.__setattr__"))) (mk_Order : PySem.W.makesIn K a_Order = true) (kc_Order : PySem.W.keepIn K (.ref a_Order) = true)
 (xa_NoLine : PySem.W.findIn K (.ref a_NoLine) "__getattribute__" = some (some (.builtin "BaseException.__getattribute__")))
 (xb_NoLine : PySem.W.findIn K (.ref a_NoLine) "__getattr__" = some none)
 (xs_NoLine : PySem.W.subIn K (.ref a_NoLine) (.type "BaseException") = some true)
 (xd_NoLine : PySem.W.hasDictIn K a_NoLine = true)
 (xc_NoLine : PySem.W.findIn K (.ref a_NoLine) "__class__" = some (some (.builtin "object.__class__")))
 (xg : PySem.W.specialIn K (.builtin "object.__class__") "__get__" = some (some (.builtin "getset_descriptor.__get__")))
 (xt : PySem.W.takesIn K (.builtin "object.__class__") = some true)
 (xo_NoLine : PySem.W.mroIn K a_NoLine (.type "object") = some true)
 (kt_NoLine_NoCount : PySem.W.kitOne K (.ref a_NoLine) (.ref a_NoCount) = some false)
 (kt_NoLine_NoField : PySem.W.kitOne K (.ref a_NoLine) (.ref a_NoField) = some false)
 (kt_NoLine_NoNumber : PySem.W.kitOne K (.ref a_NoLine) (.ref a_NoNumber) = some false)
 (kt_NoLine_NoPair : PySem.W.kitOne K (.ref a_NoLine) (.ref a_NoPair) = some false)
 (kt_NoLine_NoRow : PySem.W.kitOne K (.ref a_NoLine) (.ref a_NoRow) = some false)
 (kt_NoLine_NoText : PySem.W.kitOne K (.ref a_NoLine) (.ref a_NoText) = some false)
 (xa_NoPlace : PySem.W.findIn K (.ref a_NoPlace) "__getattribute__" = some (some (.builtin "BaseException.__getattribute__")))
 (xb_NoPlace : PySem.W.findIn K (.ref a_NoPlace) "__getattr__" = some none)
 (xs_NoPlace : PySem.W.subIn K (.ref a_NoPlace) (.type "BaseException") = some true)
 (xd_NoPlace : PySem.W.hasDictIn K a_NoPlace = true)
 (xc_NoPlace : PySem.W.findIn K (.ref a_NoPlace) "__class__" = some (some (.builtin "object.__class__")))
 (xo_NoPlace : PySem.W.mroIn K a_NoPlace (.type "object") = some true)
 (kt_NoPlace_NoCount : PySem.W.kitOne K (.ref a_NoPlace) (.ref a_NoCount) = some false)
 (kt_NoPlace_NoField : PySem.W.kitOne K (.ref a_NoPlace) (.ref a_NoField) = some false)
 (kt_NoPlace_NoNumber : PySem.W.kitOne K (.ref a_NoPlace) (.ref a_NoNumber) = some false)
 (kt_NoPlace_NoPair : PySem.W.kitOne K (.ref a_NoPlace) (.ref a_NoPair) = some false)
 (kt_NoPlace_NoRow : PySem.W.kitOne K (.ref a_NoPlace) (.ref a_NoRow) = some false)
 (kt_NoPlace_NoText : PySem.W.kitOne K (.ref a_NoPlace) (.ref a_NoText) = some false)
 (xa_NoDownset : PySem.W.findIn K (.ref a_NoDownset) "__getattribute__" = some (some (.builtin "BaseException.__getattribute__")))
 (xb_NoDownset : PySem.W.findIn K (.ref a_NoDownset) "__getattr__" = some none)
 (xs_NoDownset : PySem.W.subIn K (.ref a_NoDownset) (.type "BaseException") = some true)
 (xd_NoDownset : PySem.W.hasDictIn K a_NoDownset = true)
 (xc_NoDownset : PySem.W.findIn K (.ref a_NoDownset) "__class__" = some (some (.builtin "object.__class__")))
 (xo_NoDownset : PySem.W.mroIn K a_NoDownset (.type "object") = some true)
 (kt_NoDownset_NoCount : PySem.W.kitOne K (.ref a_NoDownset) (.ref a_NoCount) = some false)
 (kt_NoDownset_NoField : PySem.W.kitOne K (.ref a_NoDownset) (.ref a_NoField) = some false)
 (kt_NoDownset_NoNumber : PySem.W.kitOne K (.ref a_NoDownset) (.ref a_NoNumber) = some false)
 (kt_NoDownset_NoPair : PySem.W.kitOne K (.ref a_NoDownset) (.ref a_NoPair) = some false)
 (kt_NoDownset_NoRow : PySem.W.kitOne K (.ref a_NoDownset) (.ref a_NoRow) = some false)
 (kt_NoDownset_NoText : PySem.W.kitOne K (.ref a_NoDownset) (.ref a_NoText) = some false)
 (xa_NoThing : PySem.W.findIn K (.ref a_NoThing) "__getattribute__" = some (some (.builtin "BaseException.__getattribute__")))
 (xb_NoThing : PySem.W.findIn K (.ref a_NoThing) "__getattr__" = some none)
 (xs_NoThing : PySem.W.subIn K (.ref a_NoThing) (.type "BaseException") = some true)
 (xd_NoThing : PySem.W.hasDictIn K a_NoThing = true)
 (xc_NoThing : PySem.W.findIn K (.ref a_NoThing) "__class__" = some (some (.builtin "object.__class__")))
 (xo_NoThing : PySem.W.mroIn K a_NoThing (.type "object") = some true)
 (kt_NoThing_NoCount : PySem.W.kitOne K (.ref a_NoThing) (.ref a_NoCount) = some false)
 (kt_NoThing_NoField : PySem.W.kitOne K (.ref a_NoThing) (.ref a_NoField) = some false)
 (kt_NoThing_NoNumber : PySem.W.kitOne K (.ref a_NoThing) (.ref a_NoNumber) = some false)
 (kt_NoThing_NoPair : PySem.W.kitOne K (.ref a_NoThing) (.ref a_NoPair) = some false)
 (kt_NoThing_NoRow : PySem.W.kitOne K (.ref a_NoThing) (.ref a_NoRow) = some false)
 (kt_NoThing_NoText : PySem.W.kitOne K (.ref a_NoThing) (.ref a_NoText) = some false)
 (kt_NoLine_NothingDone : PySem.W.kitOne K (.ref a_NoLine) (.ref a_NothingDone) = some false)
 (kt_NoLine_TooMany : PySem.W.kitOne K (.ref a_NoLine) (.ref a_TooMany) = some false)
 (kt_NoPlace_NothingDone : PySem.W.kitOne K (.ref a_NoPlace) (.ref a_NothingDone) = some false)
 (kt_NoPlace_TooMany : PySem.W.kitOne K (.ref a_NoPlace) (.ref a_TooMany) = some false)
 (kt_NoDownset_NothingDone : PySem.W.kitOne K (.ref a_NoDownset) (.ref a_NothingDone) = some false)
 (kt_NoDownset_TooMany : PySem.W.kitOne K (.ref a_NoDownset) (.ref a_TooMany) = some false)
 (kt_NoThing_NothingDone : PySem.W.kitOne K (.ref a_NoThing) (.ref a_NothingDone) = some false)
 (kt_NoThing_TooMany : PySem.W.kitOne K (.ref a_NoThing) (.ref a_TooMany) = some false)
 (kt_NoLine_NoDownset : PySem.W.kitOne K (.ref a_NoLine) (.ref a_NoDownset) = some false)
 (kt_NoPlace_NoDownset : PySem.W.kitOne K (.ref a_NoPlace) (.ref a_NoDownset) = some false)
 (kt_NoDownset_NoDownset : PySem.W.kitOne K (.ref a_NoDownset) (.ref a_NoDownset) = some true)
 (kt_NoThing_NoDownset : PySem.W.kitOne K (.ref a_NoThing) (.ref a_NoDownset) = some false)
 (kt_NoLine_NoThing : PySem.W.kitOne K (.ref a_NoLine) (.ref a_NoThing) = some false)
 (kt_NoPlace_NoThing : PySem.W.kitOne K (.ref a_NoPlace) (.ref a_NoThing) = some false)
 (kt_NoDownset_NoThing : PySem.W.kitOne K (.ref a_NoDownset) (.ref a_NoThing) = some false)
 (kt_NoThing_NoThing : PySem.W.kitOne K (.ref a_NoThing) (.ref a_NoThing) = some true)
 (kt_NoLine_NoLine : PySem.W.kitOne K (.ref a_NoLine) (.ref a_NoLine) = some true)
 (kt_NoPlace_NoLine : PySem.W.kitOne K (.ref a_NoPlace) (.ref a_NoLine) = some false)
 (kt_NoDownset_NoLine : PySem.W.kitOne K (.ref a_NoDownset) (.ref a_NoLine) = some false)
 (kt_NoThing_NoLine : PySem.W.kitOne K (.ref a_NoThing) (.ref a_NoLine) = some false)
 (kt_NoLine_NoPlace : PySem.W.kitOne K (.ref a_NoLine) (.ref a_NoPlace) = some false)
 (kt_NoPlace_NoPlace : PySem.W.kitOne K (.ref a_NoPlace) (.ref a_NoPlace) = some true)
 (kt_NoDownset_NoPlace : PySem.W.kitOne K (.ref a_NoDownset) (.ref a_NoPlace) = some false)
 (kt_NoThing_NoPlace : PySem.W.kitOne K (.ref a_NoThing) (.ref a_NoPlace) = some false)
 (kt_NoLine_ValueError : PySem.W.kitOne K (.ref a_NoLine) (.type "ValueError") = some true)
 (kt_NoPlace_ValueError : PySem.W.kitOne K (.ref a_NoPlace) (.type "ValueError") = some true)
 (kt_NoDownset_ValueError : PySem.W.kitOne K (.ref a_NoDownset) (.type "ValueError") = some true)
 (kt_NoThing_ValueError : PySem.W.kitOne K (.ref a_NoThing) (.type "ValueError") = some true)
 (xf_NoDownset_bits : PySem.W.findIn K (.ref a_NoDownset) "bits" = some none)
 (xf_NoThing_thing : PySem.W.findIn K (.ref a_NoThing) "thing" = some none)
 (xf_NoPlace_place : PySem.W.findIn K (.ref a_NoPlace) "place" = some none)
 (xm_NoLine_ToggleError : PySem.W.exmOne K (.ref a_NoLine) (.ref a_ToggleError) = some true)
 (xm_NoPlace_ToggleError : PySem.W.exmOne K (.ref a_NoPlace) (.ref a_ToggleError) = some true)
 (xm_NoDownset_ToggleError : PySem.W.exmOne K (.ref a_NoDownset) (.ref a_ToggleError) = some true)
 (xm_NoThing_ToggleError : PySem.W.exmOne K (.ref a_NoThing) (.ref a_ToggleError) = some true)
 (xy_NoDownset : PySem.W.typeIn K (.ref a_NoDownset) = some (.type "type"))
 (xk_NoDownset : PySem.W.keepIn K (.ref a_NoDownset) = true)
 {nm_NoDownset q_NoDownset : Str} {N_NoDownset : Addr} {bs_NoDownset bm_NoDownset : List Value} {sn_NoDownset : List Str} {su_NoDownset : List Value} {ab_NoDownset : Bool} {co_NoDownset : Option Bool} {dd_NoDownset : Option Addr} {m0_NoDownset m1_NoDownset m2_NoDownset m3_NoDownset m5_NoDownset : Option Value}
 (xl_NoDownset : K.lookup a_NoDownset = some (excClassObj nm_NoDownset q_NoDownset a_NoDownset N_NoDownset bs_NoDownset bm_NoDownset true sn_NoDownset su_NoDownset ab_NoDownset co_NoDownset dd_NoDownset m0_NoDownset m1_NoDownset m2_NoDownset m3_NoDownset m5_NoDownset "ValueError.__new__"))
 (rv_NoDownset : PySem.HandSPX.refsVE bm_NoDownset = true)
 (xe_NoDownset : PySem.W.findIn K (.ref a_NoDownset) "__setattr__" = some (some (.builtin "object.__setattr__")))
 {f_NoDownset_init : Addr} {od_NoDownset_init an_NoDownset_init : Option Addr} {sl_NoDownset_init : Array (Option Value)} {oc_NoDownset_init kV_NoDownset_init dc_NoDownset_init pm_NoDownset_init ct_NoDownset_init cd_NoDownset_init : Value}
 (a_NoDownset_init : PySem.W.findIn K (.ref a_NoDownset) "__init__" = some (some (.ref f_NoDownset_init)))
 (ty_NoDownset_init : PySem.W.typeIn K (.ref f_NoDownset_init) = some (.type "function"))
 (l_NoDownset_init : K.lookup f_NoDownset_init = some ⟨oc_NoDownset_init, od_NoDownset_init, .func (PySem.W.fnOf "__init__" "NoDownset.__init__" (defArgs (inClass (topS 7) 0)) (defBody (inClass (topS 7) 0)) (defScope (inClass (topS 7) 0)) .none kV_NoDownset_init dc_NoDownset_init pm_NoDownset_init an_NoDownset_init cd_NoDownset_init ct_NoDownset_init), sl_NoDownset_init⟩)
 (c_NoDownset_init : PySem.W.codeIn K cd_NoDownset_init "NoDownset.__init__" = true)
 (k_NoDownset_init : PySem.W.keepIn K (.ref f_NoDownset_init) = true)
 (xy_NoThing : PySem.W.typeIn K (.ref a_NoThing) = some (.type "type"))
 (xk_NoThing : PySem.W.keepIn K (.ref a_NoThing) = true)
 {nm_NoThing q_NoThing : Str} {N_NoThing : Addr} {bs_NoThing bm_NoThing : List Value} {sn_NoThing : List Str} {su_NoThing : List Value} {ab_NoThing : Bool} {co_NoThing : Option Bool} {dd_NoThing : Option Addr} {m0_NoThing m1_NoThing m2_NoThing m3_NoThing m5_NoThing : Option Value}
 (xl_NoThing : K.lookup a_NoThing = some (excClassObj nm_NoThing q_NoThing a_NoThing N_NoThing bs_NoThing bm_NoThing true sn_NoThing su_NoThing ab_NoThing co_NoThing dd_NoThing m0_NoThing m1_NoThing m2_NoThing m3_NoThing m5_NoThing "ValueError.__new__"))
 (rv_NoThing : PySem.HandSPX.refsVE bm_NoThing = true)
 (xe_NoThing : PySem.W.findIn K (.ref a_NoThing) "__setattr__" = some (some (.builtin "object.__setattr__")))
 {f_NoThing_init : Addr} {od_NoThing_init an_NoThing_init : Option Addr} {sl_NoThing_init : Array (Option Value)} {oc_NoThing_init kV_NoThing_init dc_NoThing_init pm_NoThing_init ct_NoThing_init cd_NoThing_init : Value}
 (a_NoThing_init : PySem.W.findIn K (.ref a_NoThing) "__init__" = some (some (.ref f_NoThing_init)))
 (ty_NoThing_init : PySem.W.typeIn K (.ref f_NoThing_init) = some (.type "function"))
 (l_NoThing_init : K.lookup f_NoThing_init = some ⟨oc_NoThing_init, od_NoThing_init, .func (PySem.W.fnOf "__init__" "NoThing.__init__" (defArgs (inClass (topS 5) 0)) (defBody (inClass (topS 5) 0)) (defScope (inClass (topS 5) 0)) .none kV_NoThing_init dc_NoThing_init pm_NoThing_init an_NoThing_init cd_NoThing_init ct_NoThing_init), sl_NoThing_init⟩)
 (c_NoThing_init : PySem.W.codeIn K cd_NoThing_init "NoThing.__init__" = true)
 (k_NoThing_init : PySem.W.keepIn K (.ref f_NoThing_init) = true)
 (xy_NoLine : PySem.W.typeIn K (.ref a_NoLine) = some (.type "type"))
 (xk_NoLine : PySem.W.keepIn K (.ref a_NoLine) = true)
 (xi_NoLine : PySem.W.excIn K a_NoLine [.type "ValueError", .type "Exception", .type "BaseException", .type "object"] "ValueError.__new__" = true)
 (xy_NoPlace : PySem.W.typeIn K (.ref a_NoPlace) = some (.type "type"))
 (xk_NoPlace : PySem.W.keepIn K (.ref a_NoPlace) = true)
 {nm_NoPlace q_NoPlace : Str} {N_NoPlace : Addr} {bs_NoPlace bm_NoPlace : List Value} {sn_NoPlace : List Str} {su_NoPlace : List Value} {ab_NoPlace : Bool} {co_NoPlace : Option Bool} {dd_NoPlace : Option Addr} {m0_NoPlace m1_NoPlace m2_NoPlace m3_NoPlace m5_NoPlace : Option Value}
 (xl_NoPlace : K.lookup a_NoPlace = some (excClassObj nm_NoPlace q_NoPlace a_NoPlace N_NoPlace bs_NoPlace bm_NoPlace true sn_NoPlace su_NoPlace ab_NoPlace co_NoPlace dd_NoPlace m0_NoPlace m1_NoPlace m2_NoPlace m3_NoPlace m5_NoPlace "ValueError.__new__"))
 (rv_NoPlace : PySem.HandSPX.refsVE bm_NoPlace = true)
 (xe_NoPlace : PySem.W.findIn K (.ref a_NoPlace) "__setattr__" = some (some (.builtin "object.__setattr__")))
 {f_NoPlace_init : Addr} {od_NoPlace_init an_NoPlace_init : Option Addr} {sl_NoPlace_init : Array (Option Value)} {oc_NoPlace_init kV_NoPlace_init dc_NoPlace_init pm_NoPlace_init ct_NoPlace_init cd_NoPlace_init : Value}
 (a_NoPlace_init : PySem.W.findIn K (.ref a_NoPlace) "__init__" = some (some (.ref f_NoPlace_init)))
 (ty_NoPlace_init : PySem.W.typeIn K (.ref f_NoPlace_init) = some (.type "function"))
 (l_NoPlace_init : K.lookup f_NoPlace_init = some ⟨oc_NoPlace_init, od_NoPlace_init, .func (PySem.W.fnOf "__init__" "NoPlace.__init__" (defArgs (inClass (topS 8) 0)) (defBody (inClass (topS 8) 0)) (defScope (inClass (topS 8) 0)) .none kV_NoPlace_init dc_NoPlace_init pm_NoPlace_init an_NoPlace_init cd_NoPlace_init ct_NoPlace_init), sl_NoPlace_init⟩)
 (c_NoPlace_init : PySem.W.codeIn K cd_NoPlace_init "NoPlace.__init__" = true)
 (k_NoPlace_init : PySem.W.keepIn K (.ref f_NoPlace_init) = true)
 (n_Order_kept_many : PySem.W.findIn K (.ref a_Order) "kept_many" = some none)
 (n_Order_kept_lows : PySem.W.findIn K (.ref a_Order) "kept_lows" = some none)
 {f__law_raw : Addr} {od__law_raw an__law_raw : Option Addr} {sl__law_raw : Array (Option Value)} {oc__law_raw kV__law_raw dc__law_raw pm__law_raw ct__law_raw : Value} {cd__law_raw : Value}
 (a__law_raw : PySem.W.nsIn K mainGlobals "_law_raw" = some (some (.ref f__law_raw)))
 (l__law_raw : K.lookup f__law_raw = some ⟨oc__law_raw, od__law_raw, .func (PySem.W.fnOf "_law_raw" "_law_raw" (defArgs (topS 44)) (defBody (topS 44)) (defScope (topS 44)) .none kV__law_raw dc__law_raw pm__law_raw an__law_raw cd__law_raw ct__law_raw), sl__law_raw⟩) (c__law_raw : PySem.W.codeIn K cd__law_raw "_law_raw" = true) (k__law_raw : PySem.W.keepIn K (.ref f__law_raw) = true)
 {f__law_any : Addr} {od__law_any an__law_any : Option Addr} {sl__law_any : Array (Option Value)} {oc__law_any kV__law_any dc__law_any pm__law_any ct__law_any : Value} {cd__law_any : Value}
 (a__law_any : PySem.W.nsIn K mainGlobals "_law_any" = some (some (.ref f__law_any)))
 (l__law_any : K.lookup f__law_any = some ⟨oc__law_any, od__law_any, .func (PySem.W.fnOf "_law_any" "_law_any" (defArgs (topS 46)) (defBody (topS 46)) (defScope (topS 46)) .none kV__law_any dc__law_any pm__law_any an__law_any cd__law_any ct__law_any), sl__law_any⟩) (c__law_any : PySem.W.codeIn K cd__law_any "_law_any" = true) (k__law_any : PySem.W.keepIn K (.ref f__law_any) = true)
 {f__law_cell_at : Addr} {od__law_cell_at an__law_cell_at : Option Addr} {sl__law_cell_at : Array (Option Value)} {oc__law_cell_at kV__law_cell_at dc__law_cell_at pm__law_cell_at ct__law_cell_at : Value} {cd__law_cell_at : Value}
 (a__law_cell_at : PySem.W.nsIn K mainGlobals "_law_cell_at" = some (some (.ref f__law_cell_at)))
 (l__law_cell_at : K.lookup f__law_cell_at = some ⟨oc__law_cell_at, od__law_cell_at, .func (PySem.W.fnOf "_law_cell_at" "_law_cell_at" (defArgs (topS 43)) (defBody (topS 43)) (defScope (topS 43)) .none kV__law_cell_at dc__law_cell_at pm__law_cell_at an__law_cell_at cd__law_cell_at ct__law_cell_at), sl__law_cell_at⟩) (c__law_cell_at : PySem.W.codeIn K cd__law_cell_at "_law_cell_at" = true) (k__law_cell_at : PySem.W.keepIn K (.ref f__law_cell_at) = true)
 {f__law_field : Addr} {od__law_field an__law_field : Option Addr} {sl__law_field : Array (Option Value)} {oc__law_field kV__law_field dc__law_field pm__law_field ct__law_field : Value} {cd__law_field : Value}
 (a__law_field : PySem.W.nsIn K mainGlobals "_law_field" = some (some (.ref f__law_field)))
 (l__law_field : K.lookup f__law_field = some ⟨oc__law_field, od__law_field, .func (PySem.W.fnOf "_law_field" "_law_field" (defArgs (topS 47)) (defBody (topS 47)) (defScope (topS 47)) .none kV__law_field dc__law_field pm__law_field an__law_field cd__law_field ct__law_field), sl__law_field⟩) (c__law_field : PySem.W.codeIn K cd__law_field "_law_field" = true) (k__law_field : PySem.W.keepIn K (.ref f__law_field) = true)
 {f__law_drawn : Addr} {od__law_drawn an__law_drawn : Option Addr} {sl__law_drawn : Array (Option Value)} {oc__law_drawn kV__law_drawn dc__law_drawn pm__law_drawn ct__law_drawn : Value} {cd__law_drawn : Value}
 (a__law_drawn : PySem.W.nsIn K mainGlobals "_law_drawn" = some (some (.ref f__law_drawn)))
 (l__law_drawn : K.lookup f__law_drawn = some ⟨oc__law_drawn, od__law_drawn, .func (PySem.W.fnOf "_law_drawn" "_law_drawn" (defArgs (topS 48)) (defBody (topS 48)) (defScope (topS 48)) .none kV__law_drawn dc__law_drawn pm__law_drawn an__law_drawn cd__law_drawn ct__law_drawn), sl__law_drawn⟩) (c__law_drawn : PySem.W.codeIn K cd__law_drawn "_law_drawn" = true) (k__law_drawn : PySem.W.keepIn K (.ref f__law_drawn) = true)
 {f__law_under : Addr} {od__law_under an__law_under : Option Addr} {sl__law_under : Array (Option Value)} {oc__law_under kV__law_under dc__law_under pm__law_under ct__law_under : Value} {cd__law_under : Value}
 (a__law_under : PySem.W.nsIn K mainGlobals "_law_under" = some (some (.ref f__law_under)))
 (l__law_under : K.lookup f__law_under = some ⟨oc__law_under, od__law_under, .func (PySem.W.fnOf "_law_under" "_law_under" (defArgs (topS 49)) (defBody (topS 49)) (defScope (topS 49)) .none kV__law_under dc__law_under pm__law_under an__law_under cd__law_under ct__law_under), sl__law_under⟩) (c__law_under : PySem.W.codeIn K cd__law_under "_law_under" = true) (k__law_under : PySem.W.keepIn K (.ref f__law_under) = true)
 {f_bit_of : Addr} {od_bit_of an_bit_of : Option Addr} {sl_bit_of : Array (Option Value)} {oc_bit_of kV_bit_of dc_bit_of pm_bit_of ct_bit_of : Value} {cd_bit_of : Value}
 (a_bit_of : PySem.W.nsIn K mainGlobals "bit_of" = some (some (.ref f_bit_of)))
 (l_bit_of : K.lookup f_bit_of = some ⟨oc_bit_of, od_bit_of, .func (PySem.W.fnOf "bit_of" "bit_of" (defArgs (topS 18)) (defBody (topS 18)) (defScope (topS 18)) .none kV_bit_of dc_bit_of pm_bit_of an_bit_of cd_bit_of ct_bit_of), sl_bit_of⟩) (c_bit_of : PySem.W.codeIn K cd_bit_of "bit_of" = true) (k_bit_of : PySem.W.keepIn K (.ref f_bit_of) = true)
 {f_Order_init : Addr} {od_Order_init an_Order_init : Option Addr} {sl_Order_init : Array (Option Value)} {oc_Order_init kV_Order_init dc_Order_init pm_Order_init ct_Order_init : Value} {cd_Order_init : Value}
 (a_Order_init : PySem.W.findIn K (.ref a_Order) "__init__" = some (some (.ref f_Order_init))) (i_Order_init : PySem.W.isFn K (.ref f_Order_init) = true)
 (l_Order_init : K.lookup f_Order_init = some ⟨oc_Order_init, od_Order_init, .func (PySem.W.fnOf "__init__" "Order.__init__" (defArgs (inClass (topS 19) 0)) (defBody (inClass (topS 19) 0)) (defScope (inClass (topS 19) 0)) .none kV_Order_init dc_Order_init pm_Order_init an_Order_init cd_Order_init ct_Order_init), sl_Order_init⟩) (c_Order_init : PySem.W.codeIn K cd_Order_init "Order.__init__" = true) (k_Order_init : PySem.W.keepIn K (.ref f_Order_init) = true)
 {f__law_line : Addr} {od__law_line an__law_line : Option Addr} {sl__law_line : Array (Option Value)} {oc__law_line kV__law_line dc__law_line pm__law_line ct__law_line : Value} {cd__law_line : Value}
 (a__law_line : PySem.W.nsIn K mainGlobals "_law_line" = some (some (.ref f__law_line)))
 (l__law_line : K.lookup f__law_line = some ⟨oc__law_line, od__law_line, .func (PySem.W.fnOf "_law_line" "_law_line" (defArgs (topS 51)) (defBody (topS 51)) (defScope (topS 51)) .none kV__law_line dc__law_line pm__law_line an__law_line cd__law_line ct__law_line), sl__law_line⟩) (c__law_line : PySem.W.codeIn K cd__law_line "_law_line" = true) (k__law_line : PySem.W.keepIn K (.ref f__law_line) = true)
 {f__law_bits : Addr} {od__law_bits an__law_bits : Option Addr} {sl__law_bits : Array (Option Value)} {oc__law_bits kV__law_bits dc__law_bits pm__law_bits ct__law_bits : Value} {cd__law_bits : Value}
 (a__law_bits : PySem.W.nsIn K mainGlobals "_law_bits" = some (some (.ref f__law_bits)))
 (l__law_bits : K.lookup f__law_bits = some ⟨oc__law_bits, od__law_bits, .func (PySem.W.fnOf "_law_bits" "_law_bits" (defArgs (topS 50)) (defBody (topS 50)) (defScope (topS 50)) .none kV__law_bits dc__law_bits pm__law_bits an__law_bits cd__law_bits ct__law_bits), sl__law_bits⟩) (c__law_bits : PySem.W.codeIn K cd__law_bits "_law_bits" = true) (k__law_bits : PySem.W.keepIn K (.ref f__law_bits) = true)
 {f__law_no_downset : Addr} {od__law_no_downset an__law_no_downset : Option Addr} {sl__law_no_downset : Array (Option Value)} {oc__law_no_downset kV__law_no_downset dc__law_no_downset pm__law_no_downset ct__law_no_downset : Value} {cd__law_no_downset : Value}
 (a__law_no_downset : PySem.W.nsIn K mainGlobals "_law_no_downset" = some (some (.ref f__law_no_downset)))
 (l__law_no_downset : K.lookup f__law_no_downset = some ⟨oc__law_no_downset, od__law_no_downset, .func (PySem.W.fnOf "_law_no_downset" "_law_no_downset" (defArgs (topS 55)) (defBody (topS 55)) (defScope (topS 55)) .none kV__law_no_downset dc__law_no_downset pm__law_no_downset an__law_no_downset cd__law_no_downset ct__law_no_downset), sl__law_no_downset⟩) (c__law_no_downset : PySem.W.codeIn K cd__law_no_downset "_law_no_downset" = true) (k__law_no_downset : PySem.W.keepIn K (.ref f__law_no_downset) = true)
 {f__law_free : Addr} {od__law_free an__law_free : Option Addr} {sl__law_free : Array (Option Value)} {oc__law_free kV__law_free dc__law_free pm__law_free ct__law_free : Value} {cd__law_free : Value}
 (a__law_free : PySem.W.nsIn K mainGlobals "_law_free" = some (some (.ref f__law_free)))
 (l__law_free : K.lookup f__law_free = some ⟨oc__law_free, od__law_free, .func (PySem.W.fnOf "_law_free" "_law_free" (defArgs (topS 45)) (defBody (topS 45)) (defScope (topS 45)) .none kV__law_free dc__law_free pm__law_free an__law_free cd__law_free ct__law_free), sl__law_free⟩) (c__law_free : PySem.W.codeIn K cd__law_free "_law_free" = true) (k__law_free : PySem.W.keepIn K (.ref f__law_free) = true)
 {f__law_others : Addr} {od__law_others an__law_others : Option Addr} {sl__law_others : Array (Option Value)} {oc__law_others kV__law_others dc__law_others pm__law_others ct__law_others : Value} {cd__law_others : Value}
 (a__law_others : PySem.W.nsIn K mainGlobals "_law_others" = some (some (.ref f__law_others)))
 (l__law_others : K.lookup f__law_others = some ⟨oc__law_others, od__law_others, .func (PySem.W.fnOf "_law_others" "_law_others" (defArgs (topS 52)) (defBody (topS 52)) (defScope (topS 52)) .none kV__law_others dc__law_others pm__law_others an__law_others cd__law_others ct__law_others), sl__law_others⟩) (c__law_others : PySem.W.codeIn K cd__law_others "_law_others" = true) (k__law_others : PySem.W.keepIn K (.ref f__law_others) = true)
 {f__law_kinds : Addr} {od__law_kinds an__law_kinds : Option Addr} {sl__law_kinds : Array (Option Value)} {oc__law_kinds kV__law_kinds dc__law_kinds pm__law_kinds ct__law_kinds : Value} {cd__law_kinds : Value}
 (a__law_kinds : PySem.W.nsIn K mainGlobals "_law_kinds" = some (some (.ref f__law_kinds)))
 (l__law_kinds : K.lookup f__law_kinds = some ⟨oc__law_kinds, od__law_kinds, .func (PySem.W.fnOf "_law_kinds" "_law_kinds" (defArgs (topS 53)) (defBody (topS 53)) (defScope (topS 53)) .none kV__law_kinds dc__law_kinds pm__law_kinds an__law_kinds cd__law_kinds ct__law_kinds), sl__law_kinds⟩) (c__law_kinds : PySem.W.codeIn K cd__law_kinds "_law_kinds" = true) (k__law_kinds : PySem.W.keepIn K (.ref f__law_kinds) = true)
 {f__law_said : Addr} {od__law_said an__law_said : Option Addr} {sl__law_said : Array (Option Value)} {oc__law_said kV__law_said dc__law_said pm__law_said ct__law_said : Value} {cd__law_said : Value}
 (a__law_said : PySem.W.nsIn K mainGlobals "_law_said" = some (some (.ref f__law_said)))
 (l__law_said : K.lookup f__law_said = some ⟨oc__law_said, od__law_said, .func (PySem.W.fnOf "_law_said" "_law_said" (defArgs (topS 54)) (defBody (topS 54)) (defScope (topS 54)) .none kV__law_said dc__law_said pm__law_said an__law_said cd__law_said ct__law_said), sl__law_said⟩) (c__law_said : PySem.W.codeIn K cd__law_said "_law_said" = true) (k__law_said : PySem.W.keepIn K (.ref f__law_said) = true)
 {f_Order_size : Addr} {od_Order_size an_Order_size : Option Addr} {sl_Order_size : Array (Option Value)} {oc_Order_size kV_Order_size dc_Order_size pm_Order_size ct_Order_size : Value} {cd_Order_size : Value}
 (a_Order_size : PySem.W.findIn K (.ref a_Order) "size" = some (some (.ref f_Order_size))) (i_Order_size : PySem.W.isFn K (.ref f_Order_size) = true)
 (l_Order_size : K.lookup f_Order_size = some ⟨oc_Order_size, od_Order_size, .func (PySem.W.fnOf "size" "Order.size" (defArgs (inClass (topS 19) 1)) (defBody (inClass (topS 19) 1)) (defScope (inClass (topS 19) 1)) .none kV_Order_size dc_Order_size pm_Order_size an_Order_size cd_Order_size ct_Order_size), sl_Order_size⟩) (c_Order_size : PySem.W.codeIn K cd_Order_size "Order.size" = true) (k_Order_size : PySem.W.keepIn K (.ref f_Order_size) = true)
 {f_things_of : Addr} {od_things_of an_things_of : Option Addr} {sl_things_of : Array (Option Value)} {oc_things_of kV_things_of dc_things_of pm_things_of ct_things_of : Value} {cd_things_of : Value}
 (a_things_of : PySem.W.nsIn K mainGlobals "things_of" = some (some (.ref f_things_of)))
 (l_things_of : K.lookup f_things_of = some ⟨oc_things_of, od_things_of, .func (PySem.W.fnOf "things_of" "things_of" (defArgs (topS 21)) (defBody (topS 21)) (defScope (topS 21)) .none kV_things_of dc_things_of pm_things_of an_things_of cd_things_of ct_things_of), sl_things_of⟩) (c_things_of : PySem.W.codeIn K cd_things_of "things_of" = true) (k_things_of : PySem.W.keepIn K (.ref f_things_of) = true)
 {f_Order_lows_of : Addr} {od_Order_lows_of an_Order_lows_of : Option Addr} {sl_Order_lows_of : Array (Option Value)} {oc_Order_lows_of kV_Order_lows_of dc_Order_lows_of pm_Order_lows_of ct_Order_lows_of : Value} {cd_Order_lows_of : Value}
 (a_Order_lows_of : PySem.W.findIn K (.ref a_Order) "lows_of" = some (some (.ref f_Order_lows_of))) (i_Order_lows_of : PySem.W.isFn K (.ref f_Order_lows_of) = true)
 (l_Order_lows_of : K.lookup f_Order_lows_of = some ⟨oc_Order_lows_of, od_Order_lows_of, .func (PySem.W.fnOf "lows_of" "Order.lows_of" (defArgs (inClass (topS 19) 3)) (defBody (inClass (topS 19) 3)) (defScope (inClass (topS 19) 3)) .none kV_Order_lows_of dc_Order_lows_of pm_Order_lows_of an_Order_lows_of cd_Order_lows_of ct_Order_lows_of), sl_Order_lows_of⟩) (c_Order_lows_of : PySem.W.codeIn K cd_Order_lows_of "Order.lows_of" = true) (k_Order_lows_of : PySem.W.keepIn K (.ref f_Order_lows_of) = true)
 {f_has_lows : Addr} {od_has_lows an_has_lows : Option Addr} {sl_has_lows : Array (Option Value)} {oc_has_lows kV_has_lows dc_has_lows pm_has_lows ct_has_lows : Value} {cd_has_lows : Value}
 (a_has_lows : PySem.W.nsIn K mainGlobals "has_lows" = some (some (.ref f_has_lows)))
 (l_has_lows : K.lookup f_has_lows = some ⟨oc_has_lows, od_has_lows, .func (PySem.W.fnOf "has_lows" "has_lows" (defArgs (topS 23)) (defBody (topS 23)) (defScope (topS 23)) .none kV_has_lows dc_has_lows pm_has_lows an_has_lows cd_has_lows ct_has_lows), sl_has_lows⟩) (c_has_lows : PySem.W.codeIn K cd_has_lows "has_lows" = true) (k_has_lows : PySem.W.keepIn K (.ref f_has_lows) = true)
 {f_is_downset : Addr} {od_is_downset an_is_downset : Option Addr} {sl_is_downset : Array (Option Value)} {oc_is_downset kV_is_downset dc_is_downset pm_is_downset ct_is_downset : Value} {cd_is_downset : Value}
 (a_is_downset : PySem.W.nsIn K mainGlobals "is_downset" = some (some (.ref f_is_downset)))
 (l_is_downset : K.lookup f_is_downset = some ⟨oc_is_downset, od_is_downset, .func (PySem.W.fnOf "is_downset" "is_downset" (defArgs (topS 24)) (defBody (topS 24)) (defScope (topS 24)) .none kV_is_downset dc_is_downset pm_is_downset an_is_downset cd_is_downset ct_is_downset), sl_is_downset⟩) (c_is_downset : PySem.W.codeIn K cd_is_downset "is_downset" = true) (k_is_downset : PySem.W.keepIn K (.ref f_is_downset) = true)
 {f_needs_downset : Addr} {od_needs_downset an_needs_downset : Option Addr} {sl_needs_downset : Array (Option Value)} {oc_needs_downset kV_needs_downset dc_needs_downset pm_needs_downset ct_needs_downset : Value} {cd_needs_downset : Value}
 (a_needs_downset : PySem.W.nsIn K mainGlobals "needs_downset" = some (some (.ref f_needs_downset)))
 (l_needs_downset : K.lookup f_needs_downset = some ⟨oc_needs_downset, od_needs_downset, .func (PySem.W.fnOf "needs_downset" "needs_downset" (defArgs (topS 25)) (defBody (topS 25)) (defScope (topS 25)) .none kV_needs_downset dc_needs_downset pm_needs_downset an_needs_downset cd_needs_downset ct_needs_downset), sl_needs_downset⟩) (c_needs_downset : PySem.W.codeIn K cd_needs_downset "needs_downset" = true) (k_needs_downset : PySem.W.keepIn K (.ref f_needs_downset) = true)
 {f_needs_things : Addr} {od_needs_things an_needs_things : Option Addr} {sl_needs_things : Array (Option Value)} {oc_needs_things kV_needs_things dc_needs_things pm_needs_things ct_needs_things : Value} {cd_needs_things : Value}
 (a_needs_things : PySem.W.nsIn K mainGlobals "needs_things" = some (some (.ref f_needs_things)))
 (l_needs_things : K.lookup f_needs_things = some ⟨oc_needs_things, od_needs_things, .func (PySem.W.fnOf "needs_things" "needs_things" (defArgs (topS 32)) (defBody (topS 32)) (defScope (topS 32)) .none kV_needs_things dc_needs_things pm_needs_things an_needs_things cd_needs_things ct_needs_things), sl_needs_things⟩) (c_needs_things : PySem.W.codeIn K cd_needs_things "needs_things" = true) (k_needs_things : PySem.W.keepIn K (.ref f_needs_things) = true)
 {f_set_of : Addr} {od_set_of an_set_of : Option Addr} {sl_set_of : Array (Option Value)} {oc_set_of kV_set_of dc_set_of pm_set_of ct_set_of : Value} {cd_set_of : Value}
 (a_set_of : PySem.W.nsIn K mainGlobals "set_of" = some (some (.ref f_set_of)))
 (l_set_of : K.lookup f_set_of = some ⟨oc_set_of, od_set_of, .func (PySem.W.fnOf "set_of" "set_of" (defArgs (topS 22)) (defBody (topS 22)) (defScope (topS 22)) .none kV_set_of dc_set_of pm_set_of an_set_of cd_set_of ct_set_of), sl_set_of⟩) (c_set_of : PySem.W.codeIn K cd_set_of "set_of" = true) (k_set_of : PySem.W.keepIn K (.ref f_set_of) = true)
 {f_brim : Addr} {od_brim an_brim : Option Addr} {sl_brim : Array (Option Value)} {oc_brim kV_brim dc_brim pm_brim ct_brim : Value} {cd_brim : Value}
 (a_brim : PySem.W.nsIn K mainGlobals "brim" = some (some (.ref f_brim)))
 (l_brim : K.lookup f_brim = some ⟨oc_brim, od_brim, .func (PySem.W.fnOf "brim" "brim" (defArgs (topS 26)) (defBody (topS 26)) (defScope (topS 26)) .none kV_brim dc_brim pm_brim an_brim cd_brim ct_brim), sl_brim⟩) (c_brim : PySem.W.codeIn K cd_brim "brim" = true) (k_brim : PySem.W.keepIn K (.ref f_brim) = true)
 {f_doors : Addr} {od_doors an_doors : Option Addr} {sl_doors : Array (Option Value)} {oc_doors kV_doors dc_doors pm_doors ct_doors : Value} {cd_doors : Value}
 (a_doors : PySem.W.nsIn K mainGlobals "doors" = some (some (.ref f_doors)))
 (l_doors : K.lookup f_doors = some ⟨oc_doors, od_doors, .func (PySem.W.fnOf "doors" "doors" (defArgs (topS 27)) (defBody (topS 27)) (defScope (topS 27)) .none kV_doors dc_doors pm_doors an_doors cd_doors ct_doors), sl_doors⟩) (c_doors : PySem.W.codeIn K cd_doors "doors" = true) (k_doors : PySem.W.keepIn K (.ref f_doors) = true)
 {f_put_or_taken : Addr} {od_put_or_taken an_put_or_taken : Option Addr} {sl_put_or_taken : Array (Option Value)} {oc_put_or_taken kV_put_or_taken dc_put_or_taken pm_put_or_taken ct_put_or_taken : Value} {cd_put_or_taken : Value}
 (a_put_or_taken : PySem.W.nsIn K mainGlobals "put_or_taken" = some (some (.ref f_put_or_taken)))
 (l_put_or_taken : K.lookup f_put_or_taken = some ⟨oc_put_or_taken, od_put_or_taken, .func (PySem.W.fnOf "put_or_taken" "put_or_taken" (defArgs (topS 34)) (defBody (topS 34)) (defScope (topS 34)) .none kV_put_or_taken dc_put_or_taken pm_put_or_taken an_put_or_taken cd_put_or_taken ct_put_or_taken), sl_put_or_taken⟩) (c_put_or_taken : PySem.W.codeIn K cd_put_or_taken "put_or_taken" = true) (k_put_or_taken : PySem.W.keepIn K (.ref f_put_or_taken) = true)
 {f_walked : Addr} {od_walked an_walked : Option Addr} {sl_walked : Array (Option Value)} {oc_walked kV_walked dc_walked pm_walked ct_walked : Value} {cd_walked : Value}
 (a_walked : PySem.W.nsIn K mainGlobals "walked" = some (some (.ref f_walked)))
 (l_walked : K.lookup f_walked = some ⟨oc_walked, od_walked, .func (PySem.W.fnOf "walked" "walked" (defArgs (topS 37)) (defBody (topS 37)) (defScope (topS 37)) .none kV_walked dc_walked pm_walked an_walked cd_walked ct_walked), sl_walked⟩) (c_walked : PySem.W.codeIn K cd_walked "walked" = true) (k_walked : PySem.W.keepIn K (.ref f_walked) = true)
 {f_toggled : Addr} {od_toggled an_toggled : Option Addr} {sl_toggled : Array (Option Value)} {oc_toggled kV_toggled dc_toggled pm_toggled ct_toggled : Value} {cd_toggled : Value}
 (a_toggled : PySem.W.nsIn K mainGlobals "toggled" = some (some (.ref f_toggled)))
 (l_toggled : K.lookup f_toggled = some ⟨oc_toggled, od_toggled, .func (PySem.W.fnOf "toggled" "toggled" (defArgs (topS 36)) (defBody (topS 36)) (defScope (topS 36)) .none kV_toggled dc_toggled pm_toggled an_toggled cd_toggled ct_toggled), sl_toggled⟩) (c_toggled : PySem.W.codeIn K cd_toggled "toggled" = true) (k_toggled : PySem.W.keepIn K (.ref f_toggled) = true)
 {f_walker : Addr} {od_walker an_walker : Option Addr} {sl_walker : Array (Option Value)} {oc_walker kV_walker dc_walker pm_walker ct_walker : Value}
 (a_walker : PySem.W.nsIn K mainGlobals "walker" = some (some (.ref f_walker)))
 {ca_walker P_walker : Addr}
 (l_walker : K.lookup f_walker = some ⟨oc_walker, od_walker, .func (PySem.W.fnOf "walker" "walker" (defArgs (topS 38)) (defBody (topS 38)) (defScope (topS 38)) .none kV_walker dc_walker pm_walker an_walker (.ref ca_walker) ct_walker), sl_walker⟩) (c_walker : PySem.W.codeIn K (.ref ca_walker) "walker" = true) (k_walker : PySem.W.keepIn K (.ref f_walker) = true)
 {o2_walker : Value} {d2_walker : Option Addr} {v2_walker : Array Value} {s2_walker : Array (Option Value)} (lc_walker : K.lookup ca_walker = some ⟨o2_walker, d2_walker, .fields v2_walker, s2_walker⟩) (t2_walker : v2_walker[11]? = some (.ref P_walker)) (h2_walker : PySem.W.codeHdIn K ca_walker P_walker = true) (n2_walker : K.lookup P_walker = none) (e2_walker : h.get? P_walker = some { cls := .none, data := .fields #[] })
 {f__law_of_downsets : Addr} {od__law_of_downsets an__law_of_downsets : Option Addr} {sl__law_of_downsets : Array (Option Value)} {oc__law_of_downsets kV__law_of_downsets dc__law_of_downsets pm__law_of_downsets ct__law_of_downsets : Value}
 (a__law_of_downsets : PySem.W.nsIn K mainGlobals "_law_of_downsets" = some (some (.ref f__law_of_downsets)))
 {ca__law_of_downsets P__law_of_downsets : Addr}
 (l__law_of_downsets : K.lookup f__law_of_downsets = some ⟨oc__law_of_downsets, od__law_of_downsets, .func (PySem.W.fnOf "_law_of_downsets" "_law_of_downsets" (defArgs (topS 57)) (defBody (topS 57)) (defScope (topS 57)) .none kV__law_of_downsets dc__law_of_downsets pm__law_of_downsets an__law_of_downsets (.ref ca__law_of_downsets) ct__law_of_downsets), sl__law_of_downsets⟩) (c__law_of_downsets : PySem.W.codeIn K (.ref ca__law_of_downsets) "_law_of_downsets" = true) (k__law_of_downsets : PySem.W.keepIn K (.ref f__law_of_downsets) = true)
 {o2__law_of_downsets : Value} {d2__law_of_downsets : Option Addr} {v2__law_of_downsets : Array Value} {s2__law_of_downsets : Array (Option Value)} (lc__law_of_downsets : K.lookup ca__law_of_downsets = some ⟨o2__law_of_downsets, d2__law_of_downsets, .fields v2__law_of_downsets, s2__law_of_downsets⟩) (t2__law_of_downsets : v2__law_of_downsets[11]? = some (.ref P__law_of_downsets)) (h2__law_of_downsets : PySem.W.codeHdIn K ca__law_of_downsets P__law_of_downsets = true) (n2__law_of_downsets : K.lookup P__law_of_downsets = none) (e2__law_of_downsets : h.get? P__law_of_downsets = some { cls := .none, data := .fields #[] })
 {f__law_bits_v2 : Addr} {od__law_bits_v2 an__law_bits_v2 : Option Addr} {sl__law_bits_v2 : Array (Option Value)} {oc__law_bits_v2 kV__law_bits_v2 dc__law_bits_v2 pm__law_bits_v2 ct__law_bits_v2 : Value} {cd__law_bits_v2 : Value}
 (a__law_bits_v2 : PySem.W.nsIn K mainGlobals "_law_bits" = some (some (.ref f__law_bits_v2)))
 (l__law_bits_v2 : K.lookup f__law_bits_v2 = some ⟨oc__law_bits_v2, od__law_bits_v2, .func (PySem.W.fnOf "_law_bits" "_law_bits" (defArgs (topS 50)) (defBody (topS 50)) (defScope (topS 50)) .none kV__law_bits_v2 dc__law_bits_v2 pm__law_bits_v2 an__law_bits_v2 cd__law_bits_v2 ct__law_bits_v2), sl__law_bits_v2⟩) (c__law_bits_v2 : PySem.W.codeIn K cd__law_bits_v2 "_law_bits" = true) (k__law_bits_v2 : PySem.W.keepIn K (.ref f__law_bits_v2) = true)
 {f_Order_needs_thing : Addr} {od_Order_needs_thing an_Order_needs_thing : Option Addr} {sl_Order_needs_thing : Array (Option Value)} {oc_Order_needs_thing kV_Order_needs_thing dc_Order_needs_thing pm_Order_needs_thing ct_Order_needs_thing : Value} {cd_Order_needs_thing : Value}
 (a_Order_needs_thing : PySem.W.findIn K (.ref a_Order) "needs_thing" = some (some (.ref f_Order_needs_thing))) (i_Order_needs_thing : PySem.W.isFn K (.ref f_Order_needs_thing) = true)
 (l_Order_needs_thing : K.lookup f_Order_needs_thing = some ⟨oc_Order_needs_thing, od_Order_needs_thing, .func (PySem.W.fnOf "needs_thing" "Order.needs_thing" (defArgs (inClass (topS 19) 2)) (defBody (inClass (topS 19) 2)) (defScope (inClass (topS 19) 2)) .none kV_Order_needs_thing dc_Order_needs_thing pm_Order_needs_thing an_Order_needs_thing cd_Order_needs_thing ct_Order_needs_thing), sl_Order_needs_thing⟩) (c_Order_needs_thing : PySem.W.codeIn K cd_Order_needs_thing "Order.needs_thing" = true) (k_Order_needs_thing : PySem.W.keepIn K (.ref f_Order_needs_thing) = true)
 {f_Order_below : Addr} {od_Order_below an_Order_below : Option Addr} {sl_Order_below : Array (Option Value)} {oc_Order_below kV_Order_below dc_Order_below pm_Order_below ct_Order_below : Value} {cd_Order_below : Value}
 (a_Order_below : PySem.W.findIn K (.ref a_Order) "below" = some (some (.ref f_Order_below))) (i_Order_below : PySem.W.isFn K (.ref f_Order_below) = true)
 (l_Order_below : K.lookup f_Order_below = some ⟨oc_Order_below, od_Order_below, .func (PySem.W.fnOf "below" "Order.below" (defArgs (inClass (topS 19) 4)) (defBody (inClass (topS 19) 4)) (defScope (inClass (topS 19) 4)) .none kV_Order_below dc_Order_below pm_Order_below an_Order_below cd_Order_below ct_Order_below), sl_Order_below⟩) (c_Order_below : PySem.W.codeIn K cd_Order_below "Order.below" = true) (k_Order_below : PySem.W.keepIn K (.ref f_Order_below) = true)
 {f_is_line : Addr} {od_is_line an_is_line : Option Addr} {sl_is_line : Array (Option Value)} {oc_is_line kV_is_line dc_is_line pm_is_line ct_is_line : Value} {cd_is_line : Value}
 (a_is_line : PySem.W.nsIn K mainGlobals "is_line" = some (some (.ref f_is_line)))
 (l_is_line : K.lookup f_is_line = some ⟨oc_is_line, od_is_line, .func (PySem.W.fnOf "is_line" "is_line" (defArgs (topS 29)) (defBody (topS 29)) (defScope (topS 29)) .none kV_is_line dc_is_line pm_is_line an_is_line cd_is_line ct_is_line), sl_is_line⟩) (c_is_line : PySem.W.codeIn K cd_is_line "is_line" = true) (k_is_line : PySem.W.keepIn K (.ref f_is_line) = true)
 {f_needs_line : Addr} {od_needs_line an_needs_line : Option Addr} {sl_needs_line : Array (Option Value)} {oc_needs_line kV_needs_line dc_needs_line pm_needs_line ct_needs_line : Value} {cd_needs_line : Value}
 (a_needs_line : PySem.W.nsIn K mainGlobals "needs_line" = some (some (.ref f_needs_line)))
 (l_needs_line : K.lookup f_needs_line = some ⟨oc_needs_line, od_needs_line, .func (PySem.W.fnOf "needs_line" "needs_line" (defArgs (topS 30)) (defBody (topS 30)) (defScope (topS 30)) .none kV_needs_line dc_needs_line pm_needs_line an_needs_line cd_needs_line ct_needs_line), sl_needs_line⟩) (c_needs_line : PySem.W.codeIn K cd_needs_line "needs_line" = true) (k_needs_line : PySem.W.keepIn K (.ref f_needs_line) = true)
 {f_needs_places : Addr} {od_needs_places an_needs_places : Option Addr} {sl_needs_places : Array (Option Value)} {oc_needs_places kV_needs_places dc_needs_places pm_needs_places ct_needs_places : Value} {cd_needs_places : Value}
 (a_needs_places : PySem.W.nsIn K mainGlobals "needs_places" = some (some (.ref f_needs_places)))
 (l_needs_places : K.lookup f_needs_places = some ⟨oc_needs_places, od_needs_places, .func (PySem.W.fnOf "needs_places" "needs_places" (defArgs (topS 33)) (defBody (topS 33)) (defScope (topS 33)) .none kV_needs_places dc_needs_places pm_needs_places an_needs_places cd_needs_places ct_needs_places), sl_needs_places⟩) (c_needs_places : PySem.W.codeIn K cd_needs_places "needs_places" = true) (k_needs_places : PySem.W.keepIn K (.ref f_needs_places) = true)
 {f_exchanged : Addr} {od_exchanged an_exchanged : Option Addr} {sl_exchanged : Array (Option Value)} {oc_exchanged kV_exchanged dc_exchanged pm_exchanged ct_exchanged : Value} {cd_exchanged : Value}
 (a_exchanged : PySem.W.nsIn K mainGlobals "exchanged" = some (some (.ref f_exchanged)))
 (l_exchanged : K.lookup f_exchanged = some ⟨oc_exchanged, od_exchanged, .func (PySem.W.fnOf "exchanged" "exchanged" (defArgs (topS 35)) (defBody (topS 35)) (defScope (topS 35)) .none kV_exchanged dc_exchanged pm_exchanged an_exchanged cd_exchanged ct_exchanged), sl_exchanged⟩) (c_exchanged : PySem.W.codeIn K cd_exchanged "exchanged" = true) (k_exchanged : PySem.W.keepIn K (.ref f_exchanged) = true)
 {f_led : Addr} {od_led an_led : Option Addr} {sl_led : Array (Option Value)} {oc_led kV_led dc_led pm_led ct_led : Value} {cd_led : Value}
 (a_led : PySem.W.nsIn K mainGlobals "led" = some (some (.ref f_led)))
 (l_led : K.lookup f_led = some ⟨oc_led, od_led, .func (PySem.W.fnOf "led" "led" (defArgs (topS 40)) (defBody (topS 40)) (defScope (topS 40)) .none kV_led dc_led pm_led an_led cd_led ct_led), sl_led⟩) (c_led : PySem.W.codeIn K cd_led "led" = true) (k_led : PySem.W.keepIn K (.ref f_led) = true)
 {f_swapped : Addr} {od_swapped an_swapped : Option Addr} {sl_swapped : Array (Option Value)} {oc_swapped kV_swapped dc_swapped pm_swapped ct_swapped : Value} {cd_swapped : Value}
 (a_swapped : PySem.W.nsIn K mainGlobals "swapped" = some (some (.ref f_swapped)))
 (l_swapped : K.lookup f_swapped = some ⟨oc_swapped, od_swapped, .func (PySem.W.fnOf "swapped" "swapped" (defArgs (topS 39)) (defBody (topS 39)) (defScope (topS 39)) .none kV_swapped dc_swapped pm_swapped an_swapped cd_swapped ct_swapped), sl_swapped⟩) (c_swapped : PySem.W.codeIn K cd_swapped "swapped" = true) (k_swapped : PySem.W.keepIn K (.ref f_swapped) = true)
 {f_leader : Addr} {od_leader an_leader : Option Addr} {sl_leader : Array (Option Value)} {oc_leader kV_leader dc_leader pm_leader ct_leader : Value}
 (a_leader : PySem.W.nsIn K mainGlobals "leader" = some (some (.ref f_leader)))
 {ca_leader P_leader : Addr}
 (l_leader : K.lookup f_leader = some ⟨oc_leader, od_leader, .func (PySem.W.fnOf "leader" "leader" (defArgs (topS 41)) (defBody (topS 41)) (defScope (topS 41)) .none kV_leader dc_leader pm_leader an_leader (.ref ca_leader) ct_leader), sl_leader⟩) (c_leader : PySem.W.codeIn K (.ref ca_leader) "leader" = true) (k_leader : PySem.W.keepIn K (.ref f_leader) = true)
 {o2_leader : Value} {d2_leader : Option Addr} {v2_leader : Array Value} {s2_leader : Array (Option Value)} (lc_leader : K.lookup ca_leader = some ⟨o2_leader, d2_leader, .fields v2_leader, s2_leader⟩) (t2_leader : v2_leader[11]? = some (.ref P_leader)) (h2_leader : PySem.W.codeHdIn K ca_leader P_leader = true) (n2_leader : K.lookup P_leader = none) (e2_leader : h.get? P_leader = some { cls := .none, data := .fields #[] })
 {f__law_of_lines : Addr} {od__law_of_lines an__law_of_lines : Option Addr} {sl__law_of_lines : Array (Option Value)} {oc__law_of_lines kV__law_of_lines dc__law_of_lines pm__law_of_lines ct__law_of_lines : Value}
 (a__law_of_lines : PySem.W.nsIn K mainGlobals "_law_of_lines" = some (some (.ref f__law_of_lines)))
 {ca__law_of_lines P__law_of_lines : Addr}
 (l__law_of_lines : K.lookup f__law_of_lines = some ⟨oc__law_of_lines, od__law_of_lines, .func (PySem.W.fnOf "_law_of_lines" "_law_of_lines" (defArgs (topS 58)) (defBody (topS 58)) (defScope (topS 58)) .none kV__law_of_lines dc__law_of_lines pm__law_of_lines an__law_of_lines (.ref ca__law_of_lines) ct__law_of_lines), sl__law_of_lines⟩) (c__law_of_lines : PySem.W.codeIn K (.ref ca__law_of_lines) "_law_of_lines" = true) (k__law_of_lines : PySem.W.keepIn K (.ref f__law_of_lines) = true)
 {o2__law_of_lines : Value} {d2__law_of_lines : Option Addr} {v2__law_of_lines : Array Value} {s2__law_of_lines : Array (Option Value)} (lc__law_of_lines : K.lookup ca__law_of_lines = some ⟨o2__law_of_lines, d2__law_of_lines, .fields v2__law_of_lines, s2__law_of_lines⟩) (t2__law_of_lines : v2__law_of_lines[11]? = some (.ref P__law_of_lines)) (h2__law_of_lines : PySem.W.codeHdIn K ca__law_of_lines P__law_of_lines = true) (n2__law_of_lines : K.lookup P__law_of_lines = none) (e2__law_of_lines : h.get? P__law_of_lines = some { cls := .none, data := .fields #[] })
 {f__law_no_line : Addr} {od__law_no_line an__law_no_line : Option Addr} {sl__law_no_line : Array (Option Value)} {oc__law_no_line kV__law_no_line dc__law_no_line pm__law_no_line ct__law_no_line : Value} {cd__law_no_line : Value}
 (a__law_no_line : PySem.W.nsIn K mainGlobals "_law_no_line" = some (some (.ref f__law_no_line)))
 (l__law_no_line : K.lookup f__law_no_line = some ⟨oc__law_no_line, od__law_no_line, .func (PySem.W.fnOf "_law_no_line" "_law_no_line" (defArgs (topS 56)) (defBody (topS 56)) (defScope (topS 56)) .none kV__law_no_line dc__law_no_line pm__law_no_line an__law_no_line cd__law_no_line ct__law_no_line), sl__law_no_line⟩) (c__law_no_line : PySem.W.codeIn K cd__law_no_line "_law_no_line" = true) (k__law_no_line : PySem.W.keepIn K (.ref f__law_no_line) = true)
 {f_law : Addr} {od_law an_law : Option Addr} {sl_law : Array (Option Value)} {oc_law kV_law dc_law pm_law ct_law : Value} {cd_law : Value}
 (a_law : PySem.W.nsIn K mainGlobals "law" = some (some (.ref f_law)))
 (l_law : K.lookup f_law = some ⟨oc_law, od_law, .func (PySem.W.fnOf "law" "law" (defArgs (topS 59)) (defBody (topS 59)) (defScope (topS 59)) .none kV_law dc_law pm_law an_law cd_law ct_law), sl_law⟩) (c_law : PySem.W.codeIn K cd_law "law" = true) (k_law : PySem.W.keepIn K (.ref f_law) = true)
 (PN : [P_walker, P__law_of_downsets, P_leader, P__law_of_lines].Nodup)
 (y_len : PySem.W.nsIn K mainGlobals "len" = some none)
 (y_range : PySem.W.nsIn K mainGlobals "range" = some none)
 (y_sorted : PySem.W.nsIn K mainGlobals "sorted" = some none)
 (y_set : PySem.W.nsIn K mainGlobals "set" = some none)
 (y_all : PySem.W.nsIn K mainGlobals "all" = some none)
 (y_tuple : PySem.W.nsIn K mainGlobals "tuple" = some none)
 (y_list : PySem.W.nsIn K mainGlobals "list" = some none)
 (y_isinstance : PySem.W.nsIn K mainGlobals "isinstance" = some none)
 (y_int : PySem.W.nsIn K mainGlobals "int" = some none)
 (y_sum : PySem.W.nsIn K mainGlobals "sum" = some none)
 (y_ValueError : PySem.W.nsIn K mainGlobals "ValueError" = some none)
 (y_enumerate : PySem.W.nsIn K mainGlobals "enumerate" = some none)
 {p_BITS : Addr} (d_BITS : PySem.W.nsIn K mainGlobals "BITS" = some (some (.ref p_BITS))) (r_BITS : TupK K p_BITS [1, 2, 4, 8, 16, 32, 64, 128, 256, 512])
 {t_MOST_THINGS : Tok} (d_MOST_THINGS : PySem.W.nsIn K mainGlobals "MOST_THINGS" = some (some (.int 9 t_MOST_THINGS))) :
 LamX.LawAtS l w K CX0 12 63 "_law_script" mg fa h := by
  have z_len := PySem.W.mg_none_of X G y_len
  have z_range := PySem.W.mg_none_of X G y_range
  have z_sorted := PySem.W.mg_none_of X G y_sorted
  have z_set := PySem.W.mg_none_of X G y_set
  have z_all := PySem.W.mg_none_of X G y_all
  have z_tuple := PySem.W.mg_none_of X G y_tuple
  have z_list := PySem.W.mg_none_of X G y_list
  have z_isinstance := PySem.W.mg_none_of X G y_isinstance
  have z_int := PySem.W.mg_none_of X G y_int
  have z_sum := PySem.W.mg_none_of X G y_sum
  have z_ValueError := PySem.W.mg_none_of X G y_ValueError
  have z_enumerate := PySem.W.mg_none_of X G y_enumerate
  have g_BITS := PySem.W.mg_of X G d_BITS
  have g_MOST_THINGS := PySem.W.mg_of X G d_MOST_THINGS
  have cl_Order : Cls K a_Order := ⟨pg_Order, hd_Order, po_Order, sa_Order⟩
  have C_Order_kept_many : ClsF K (tb a_Order a_NoLine a_NoPlace a_NoDownset a_NoThing P_walker P__law_of_downsets P_leader P__law_of_lines) 0 0 "kept_many" := ⟨cl_Order, n_Order_kept_many, rfl, fd_Order⟩
  have C_Order_kept_lows : ClsF K (tb a_Order a_NoLine a_NoPlace a_NoDownset a_NoThing P_walker P__law_of_downsets P_leader P__law_of_lines) 0 1 "kept_lows" := ⟨cl_Order, n_Order_kept_lows, rfl, fd_Order⟩
  have m_NoText := PySem.W.mg_of X G a_c_NoText
  have m_NoRow := PySem.W.mg_of X G a_c_NoRow
  have m_NoPair := PySem.W.mg_of X G a_c_NoPair
  have m_NoNumber := PySem.W.mg_of X G a_c_NoNumber
  have m_NoField := PySem.W.mg_of X G a_c_NoField
  have m_NoCount := PySem.W.mg_of X G a_c_NoCount
  have m_TooMany := PySem.W.mg_of X G a_c_TooMany
  have m_NothingDone := PySem.W.mg_of X G a_c_NothingDone
  have m_ToggleError := PySem.W.mg_of X G a_c_ToggleError
  have m_NoLine := PySem.W.mg_of X G a_c_NoLine
  have m_NoPlace := PySem.W.mg_of X G a_c_NoPlace
  have m_NoDownset := PySem.W.mg_of X G a_c_NoDownset
  have m_NoThing := PySem.W.mg_of X G a_c_NoThing
  have X_NoLine : L2.ExcC K a_NoLine := ⟨xa_NoLine, xb_NoLine, xs_NoLine, xd_NoLine, xc_NoLine, xg, xt, xo_NoLine⟩
  have X_NoPlace : L2.ExcC K a_NoPlace := ⟨xa_NoPlace, xb_NoPlace, xs_NoPlace, xd_NoPlace, xc_NoPlace, xg, xt, xo_NoPlace⟩
  have X_NoDownset : L2.ExcC K a_NoDownset := ⟨xa_NoDownset, xb_NoDownset, xs_NoDownset, xd_NoDownset, xc_NoDownset, xg, xt, xo_NoDownset⟩
  have X_NoThing : L2.ExcC K a_NoThing := ⟨xa_NoThing, xb_NoThing, xs_NoThing, xd_NoThing, xc_NoThing, xg, xt, xo_NoThing⟩
  have E_NoLine : OkE0 K mg (tb a_Order a_NoLine a_NoPlace a_NoDownset a_NoThing P_walker P__law_of_downsets P_leader P__law_of_lines) 15 "NoLine" := ⟨m_NoLine, xk_NoLine, xy_NoLine, xs_NoLine, ⟨_, xi_NoLine, _, _, PySem.F.excBase_ValueError⟩, rfl⟩
  have F__law_raw : FtF K mg "_law_raw" "_law_raw" (topS 44) ["_law_script", "_law_k"] := ft_mk X G ⟨_, _, _, _, _, _, _, _, _, _, a__law_raw, l__law_raw, c__law_raw, k__law_raw⟩ fun _ _ _ _ _ _ us hl => match us, hl with | [_, _], _ => rfl
  have F__law_any : FtF K mg "_law_any" "_law_any" (topS 46) ["_law_script", "_law_most"] := ft_mk X G ⟨_, _, _, _, _, _, _, _, _, _, a__law_any, l__law_any, c__law_any, k__law_any⟩ fun _ _ _ _ _ _ us hl => match us, hl with | [_, _], _ => rfl
  have F__law_cell_at : FtF K mg "_law_cell_at" "_law_cell_at" (topS 43) ["_law_script", "_law_k"] := ft_mk X G ⟨_, _, _, _, _, _, _, _, _, _, a__law_cell_at, l__law_cell_at, c__law_cell_at, k__law_cell_at⟩ fun _ _ _ _ _ _ us hl => match us, hl with | [_, _], _ => rfl
  have F__law_field : FtF K mg "_law_field" "_law_field" (topS 47) ["_law_first", "_law_most"] := ft_mk X G ⟨_, _, _, _, _, _, _, _, _, _, a__law_field, l__law_field, c__law_field, k__law_field⟩ fun _ _ _ _ _ _ us hl => match us, hl with | [_, _], _ => rfl
  have F__law_drawn : FtF K mg "_law_drawn" "_law_drawn" (topS 48) ["_law_script", "_law_most"] := ft_mk X G ⟨_, _, _, _, _, _, _, _, _, _, a__law_drawn, l__law_drawn, c__law_drawn, k__law_drawn⟩ fun _ _ _ _ _ _ us hl => match us, hl with | [_, _], _ => rfl
  have F__law_under : FtF K mg "_law_under" "_law_under" (topS 49) ["_law_many", "_law_pairs"] := ft_mk X G ⟨_, _, _, _, _, _, _, _, _, _, a__law_under, l__law_under, c__law_under, k__law_under⟩ fun _ _ _ _ _ _ us hl => match us, hl with | [_, _], _ => rfl
  have F_bit_of : FtF K mg "bit_of" "bit_of" (topS 18) ["thing"] := ft_mk X G ⟨_, _, _, _, _, _, _, _, _, _, a_bit_of, l_bit_of, c_bit_of, k_bit_of⟩ fun _ _ _ _ _ _ us hl => match us, hl with | [_], _ => rfl
  have F_Order_init : FtI K mg (tb a_Order a_NoLine a_NoPlace a_NoDownset a_NoThing P_walker P__law_of_downsets P_leader P__law_of_lines) 0 "Order" "Order.__init__" (inClass (topS 19) 0) ["self", "many", "pairs"] := ⟨⟨f_Order_init, _, fun_mk l_Order_init c_Order_init k_Order_init, (fun_mk l_Order_init c_Order_init k_Order_init).binds (fun _ _ _ _ _ _ us hl => match us, hl with | [_, _, _], _ => rfl), ⟨mk_Order, a_Order_init, i_Order_init, kc_Order⟩⟩, PySem.W.mg_of X G a_c_Order⟩
  have F__law_line : FtF K mg "_law_line" "_law_line" (topS 51) ["_law_under_here", "_law_script", "_law_at"] := ft_mk X G ⟨_, _, _, _, _, _, _, _, _, _, a__law_line, l__law_line, c__law_line, k__law_line⟩ fun _ _ _ _ _ _ us hl => match us, hl with | [_, _, _], _ => rfl
  have F__law_bits : FtF K mg "_law_bits" "_law_bits" (topS 50) ["_law_things"] := ft_mk X G ⟨_, _, _, _, _, _, _, _, _, _, a__law_bits, l__law_bits, c__law_bits, k__law_bits⟩ fun _ _ _ _ _ _ us hl => match us, hl with | [_], _ => rfl
  have F__law_no_downset : FtF K mg "_law_no_downset" "_law_no_downset" (topS 55) ["_law_under_here", "_law_cell"] := ft_mk X G ⟨_, _, _, _, _, _, _, _, _, _, a__law_no_downset, l__law_no_downset, c__law_no_downset, k__law_no_downset⟩ fun _ _ _ _ _ _ us hl => match us, hl with | [_, _], _ => rfl
  have F__law_free : FtF K mg "_law_free" "_law_free" (topS 45) ["_law_script", "_law_k"] := ft_mk X G ⟨_, _, _, _, _, _, _, _, _, _, a__law_free, l__law_free, c__law_free, k__law_free⟩ fun _ _ _ _ _ _ us hl => match us, hl with | [_, _], _ => rfl
  have F__law_others : FtF K mg "_law_others" "_law_others" (topS 52) ["_law_e"] := ft_mk X G ⟨_, _, _, _, _, _, _, _, _, _, a__law_others, l__law_others, c__law_others, k__law_others⟩ fun _ _ _ _ _ _ us hl => match us, hl with | [_], _ => rfl
  have F__law_kinds : FtF K mg "_law_kinds" "_law_kinds" (topS 53) ["_law_e"] := ft_mk X G ⟨_, _, _, _, _, _, _, _, _, _, a__law_kinds, l__law_kinds, c__law_kinds, k__law_kinds⟩ fun _ _ _ _ _ _ us hl => match us, hl with | [_], _ => rfl
  have F__law_said : FtF K mg "_law_said" "_law_said" (topS 54) ["_law_deed"] := ft_mk X G ⟨_, _, _, _, _, _, _, _, _, _, a__law_said, l__law_said, c__law_said, k__law_said⟩ fun _ _ _ _ _ _ us hl => match us, hl with | [_], _ => rfl
  have F_Order_size : FtM K (tb a_Order a_NoLine a_NoPlace a_NoDownset a_NoThing P_walker P__law_of_downsets P_leader P__law_of_lines) 0 "size" "Order.size" (inClass (topS 19) 1) ["self"] := ⟨⟨f_Order_size, _, fun_mk l_Order_size c_Order_size k_Order_size, (fun_mk l_Order_size c_Order_size k_Order_size).binds (fun _ _ _ _ _ _ us hl => match us, hl with | [_], _ => rfl), ⟨a_Order_size, i_Order_size, k_Order_size⟩⟩, cl_Order, no_Order_size⟩
  have F_things_of : FtF K mg "things_of" "things_of" (topS 21) ["bits"] := ft_mk X G ⟨_, _, _, _, _, _, _, _, _, _, a_things_of, l_things_of, c_things_of, k_things_of⟩ fun _ _ _ _ _ _ us hl => match us, hl with | [_], _ => rfl
  have F_Order_lows_of : FtM K (tb a_Order a_NoLine a_NoPlace a_NoDownset a_NoThing P_walker P__law_of_downsets P_leader P__law_of_lines) 0 "lows_of" "Order.lows_of" (inClass (topS 19) 3) ["self", "thing"] := ⟨⟨f_Order_lows_of, _, fun_mk l_Order_lows_of c_Order_lows_of k_Order_lows_of, (fun_mk l_Order_lows_of c_Order_lows_of k_Order_lows_of).binds (fun _ _ _ _ _ _ us hl => match us, hl with | [_, _], _ => rfl), ⟨a_Order_lows_of, i_Order_lows_of, k_Order_lows_of⟩⟩, cl_Order, no_Order_lows_of⟩
  have F_has_lows : FtF K mg "has_lows" "has_lows" (topS 23) ["order", "bits", "thing"] := ft_mk X G ⟨_, _, _, _, _, _, _, _, _, _, a_has_lows, l_has_lows, c_has_lows, k_has_lows⟩ fun _ _ _ _ _ _ us hl => match us, hl with | [_, _, _], _ => rfl
  have F_is_downset : FtF K mg "is_downset" "is_downset" (topS 24) ["order", "bits"] := ft_mk X G ⟨_, _, _, _, _, _, _, _, _, _, a_is_downset, l_is_downset, c_is_downset, k_is_downset⟩ fun _ _ _ _ _ _ us hl => match us, hl with | [_, _], _ => rfl
  have F_needs_downset : FtF K mg "needs_downset" "needs_downset" (topS 25) ["order", "bits"] := ft_mk X G ⟨_, _, _, _, _, _, _, _, _, _, a_needs_downset, l_needs_downset, c_needs_downset, k_needs_downset⟩ fun _ _ _ _ _ _ us hl => match us, hl with | [_, _], _ => rfl
  have F_needs_things : FtF K mg "needs_things" "needs_things" (topS 32) ["order", "word"] := ft_mk X G ⟨_, _, _, _, _, _, _, _, _, _, a_needs_things, l_needs_things, c_needs_things, k_needs_things⟩ fun _ _ _ _ _ _ us hl => match us, hl with | [_, _], _ => rfl
  have F_set_of : FtF K mg "set_of" "set_of" (topS 22) ["things"] := ft_mk X G ⟨_, _, _, _, _, _, _, _, _, _, a_set_of, l_set_of, c_set_of, k_set_of⟩ fun _ _ _ _ _ _ us hl => match us, hl with | [_], _ => rfl
  have F_brim : FtF K mg "brim" "brim" (topS 26) ["order", "bits"] := ft_mk X G ⟨_, _, _, _, _, _, _, _, _, _, a_brim, l_brim, c_brim, k_brim⟩ fun _ _ _ _ _ _ us hl => match us, hl with | [_, _], _ => rfl
  have F_doors : FtF K mg "doors" "doors" (topS 27) ["order", "bits"] := ft_mk X G ⟨_, _, _, _, _, _, _, _, _, _, a_doors, l_doors, c_doors, k_doors⟩ fun _ _ _ _ _ _ us hl => match us, hl with | [_, _], _ => rfl
  have F_put_or_taken : FtF K mg "put_or_taken" "put_or_taken" (topS 34) ["order", "bits", "thing"] := ft_mk X G ⟨_, _, _, _, _, _, _, _, _, _, a_put_or_taken, l_put_or_taken, c_put_or_taken, k_put_or_taken⟩ fun _ _ _ _ _ _ us hl => match us, hl with | [_, _, _], _ => rfl
  have F_walked : FtF K mg "walked" "walked" (topS 37) ["order", "bits", "word"] := ft_mk X G ⟨_, _, _, _, _, _, _, _, _, _, a_walked, l_walked, c_walked, k_walked⟩ fun _ _ _ _ _ _ us hl => match us, hl with | [_, _, _], _ => rfl
  have F_toggled : FtF K mg "toggled" "toggled" (topS 36) ["order", "bits", "thing"] := ft_mk X G ⟨_, _, _, _, _, _, _, _, _, _, a_toggled, l_toggled, c_toggled, k_toggled⟩ fun _ _ _ _ _ _ us hl => match us, hl with | [_, _, _], _ => rfl
  have F_walker : FtT K mg "walker" "walker" (topS 38) ["order", "word"] ca_walker P_walker := ⟨f_walker, _, _, _, _, _, _, _, _, l_walker, c_walker, k_walker, (fun_mk l_walker c_walker k_walker).binds (fun _ _ _ _ _ _ us hl => match us, hl with | [_, _], _ => rfl), PySem.W.mg_of X G a_walker⟩
  have F__law_of_downsets : FtT K mg "_law_of_downsets" "_law_of_downsets" (topS 57) ["_law_order", "_law_bits_here", "_law_bad", "_law_many", "_law_cell"] ca__law_of_downsets P__law_of_downsets := ⟨f__law_of_downsets, _, _, _, _, _, _, _, _, l__law_of_downsets, c__law_of_downsets, k__law_of_downsets, (fun_mk l__law_of_downsets c__law_of_downsets k__law_of_downsets).binds (fun _ _ _ _ _ _ us hl => match us, hl with | [_, _, _, _, _], _ => rfl), PySem.W.mg_of X G a__law_of_downsets⟩
  have F__law_bits_v2 : FtF K mg "_law_bits" "_law_bits" (topS 50) ["_law_things"] := ft_mk X G ⟨_, _, _, _, _, _, _, _, _, _, a__law_bits_v2, l__law_bits_v2, c__law_bits_v2, k__law_bits_v2⟩ fun _ _ _ _ _ _ us hl => match us, hl with | [_], _ => rfl
  have F_Order_needs_thing : FtM K (tb a_Order a_NoLine a_NoPlace a_NoDownset a_NoThing P_walker P__law_of_downsets P_leader P__law_of_lines) 0 "needs_thing" "Order.needs_thing" (inClass (topS 19) 2) ["self", "thing"] := ⟨⟨f_Order_needs_thing, _, fun_mk l_Order_needs_thing c_Order_needs_thing k_Order_needs_thing, (fun_mk l_Order_needs_thing c_Order_needs_thing k_Order_needs_thing).binds (fun _ _ _ _ _ _ us hl => match us, hl with | [_, _], _ => rfl), ⟨a_Order_needs_thing, i_Order_needs_thing, k_Order_needs_thing⟩⟩, cl_Order, no_Order_needs_thing⟩
  have F_Order_below : FtM K (tb a_Order a_NoLine a_NoPlace a_NoDownset a_NoThing P_walker P__law_of_downsets P_leader P__law_of_lines) 0 "below" "Order.below" (inClass (topS 19) 4) ["self", "one", "other"] := ⟨⟨f_Order_below, _, fun_mk l_Order_below c_Order_below k_Order_below, (fun_mk l_Order_below c_Order_below k_Order_below).binds (fun _ _ _ _ _ _ us hl => match us, hl with | [_, _, _], _ => rfl), ⟨a_Order_below, i_Order_below, k_Order_below⟩⟩, cl_Order, no_Order_below⟩
  have F_is_line : FtF K mg "is_line" "is_line" (topS 29) ["order", "line"] := ft_mk X G ⟨_, _, _, _, _, _, _, _, _, _, a_is_line, l_is_line, c_is_line, k_is_line⟩ fun _ _ _ _ _ _ us hl => match us, hl with | [_, _], _ => rfl
  have F_needs_line : FtF K mg "needs_line" "needs_line" (topS 30) ["order", "line"] := ft_mk X G ⟨_, _, _, _, _, _, _, _, _, _, a_needs_line, l_needs_line, c_needs_line, k_needs_line⟩ fun _ _ _ _ _ _ us hl => match us, hl with | [_, _], _ => rfl
  have F_needs_places : FtF K mg "needs_places" "needs_places" (topS 33) ["order", "word"] := ft_mk X G ⟨_, _, _, _, _, _, _, _, _, _, a_needs_places, l_needs_places, c_needs_places, k_needs_places⟩ fun _ _ _ _ _ _ us hl => match us, hl with | [_, _], _ => rfl
  have F_exchanged : FtF K mg "exchanged" "exchanged" (topS 35) ["order", "line", "place"] := ft_mk X G ⟨_, _, _, _, _, _, _, _, _, _, a_exchanged, l_exchanged, c_exchanged, k_exchanged⟩ fun _ _ _ _ _ _ us hl => match us, hl with | [_, _, _], _ => rfl
  have F_led : FtF K mg "led" "led" (topS 40) ["order", "line", "word"] := ft_mk X G ⟨_, _, _, _, _, _, _, _, _, _, a_led, l_led, c_led, k_led⟩ fun _ _ _ _ _ _ us hl => match us, hl with | [_, _, _], _ => rfl
  have F_swapped : FtF K mg "swapped" "swapped" (topS 39) ["order", "line", "place"] := ft_mk X G ⟨_, _, _, _, _, _, _, _, _, _, a_swapped, l_swapped, c_swapped, k_swapped⟩ fun _ _ _ _ _ _ us hl => match us, hl with | [_, _, _], _ => rfl
  have F_leader : FtT K mg "leader" "leader" (topS 41) ["order", "word"] ca_leader P_leader := ⟨f_leader, _, _, _, _, _, _, _, _, l_leader, c_leader, k_leader, (fun_mk l_leader c_leader k_leader).binds (fun _ _ _ _ _ _ us hl => match us, hl with | [_, _], _ => rfl), PySem.W.mg_of X G a_leader⟩
  have F__law_of_lines : FtT K mg "_law_of_lines" "_law_of_lines" (topS 58) ["_law_order", "_law_line_here", "_law_bad", "_law_cell"] ca__law_of_lines P__law_of_lines := ⟨f__law_of_lines, _, _, _, _, _, _, _, _, l__law_of_lines, c__law_of_lines, k__law_of_lines, (fun_mk l__law_of_lines c__law_of_lines k__law_of_lines).binds (fun _ _ _ _ _ _ us hl => match us, hl with | [_, _, _, _], _ => rfl), PySem.W.mg_of X G a__law_of_lines⟩
  have F__law_no_line : FtF K mg "_law_no_line" "_law_no_line" (topS 56) ["_law_line_here", "_law_under_here", "_law_cell"] := ft_mk X G ⟨_, _, _, _, _, _, _, _, _, _, a__law_no_line, l__law_no_line, c__law_no_line, k__law_no_line⟩ fun _ _ _ _ _ _ us hl => match us, hl with | [_, _, _], _ => rfl
  refine lawAt_of (cs := [(ca_walker, P_walker), (ca__law_of_downsets, P__law_of_downsets), (ca_leader, P_leader), (ca__law_of_lines, P__law_of_lines)]) (tt := (tb a_Order a_NoLine a_NoPlace a_NoDownset a_NoThing P_walker P__law_of_downsets P_leader P__law_of_lines).t) X (fun p hp => by cases hp with | head => exact e2_walker | tail _ hp =>  cases hp with | head => exact e2__law_of_downsets | tail _ hp =>  cases hp with | head => exact e2_leader | tail _ hp =>  cases hp with | head => exact e2__law_of_lines | tail _ hp => cases hp) (fun p hp => by cases hp with | head => exact n2_walker | tail _ hp =>  cases hp with | head => exact n2__law_of_downsets | tail _ hp =>  cases hp with | head => exact n2_leader | tail _ hp =>  cases hp with | head => exact n2__law_of_lines | tail _ hp => cases hp) (fun p hp => by cases hp with | head => exact h2_walker | tail _ hp =>  cases hp with | head => exact h2__law_of_downsets | tail _ hp =>  cases hp with | head => exact h2_leader | tail _ hp =>  cases hp with | head => exact h2__law_of_lines | tail _ hp => cases hp) (fun p hp => ?_) (ft_lawT X G hfa ⟨_, _, _, _, _, _, _, _, _, _, a_law, l_law, c_law, k_law⟩ (fun _ _ _ _ _ _ s v => .of_eq rfl) fun fd base TBS F => ?_)
  · cases hp with | head => exact ⟨ca_walker, by simp⟩ | tail _ hp =>  cases hp with | head => exact ⟨ca__law_of_downsets, by simp⟩ | tail _ hp =>  cases hp with | head => exact ⟨ca_leader, by simp⟩ | tail _ hp =>  cases hp with | head => exact ⟨ca__law_of_lines, by simp⟩ | tail _ hp => cases hp
  have TB_walker := TBS (ca_walker, P_walker) (by simp)
  have TB__law_of_downsets := TBS (ca__law_of_downsets, P__law_of_downsets) (by simp)
  have TB_leader := TBS (ca_leader, P_leader) (by simp)
  have TB__law_of_lines := TBS (ca__law_of_lines, P__law_of_lines) (by simp)
  have E_NoDownset : OkE l.prog w K mg base (tb a_Order a_NoLine a_NoPlace a_NoDownset a_NoThing P_walker P__law_of_downsets P_leader P__law_of_lines) 12 "NoDownset" ["bits"] := ⟨⟨⟨_, _, _, _, _, _, _, _, _, _, _, _, _, _, _, xl_NoDownset, rv_NoDownset⟩, xe_NoDownset, xs_NoDownset, xy_NoDownset, xk_NoDownset⟩, m_NoDownset, rfl, xf_NoDownset_bits, ⟨f_NoDownset_init, _, ["self", "bits"], a_NoDownset_init, ty_NoDownset_init, (fun_mk l_NoDownset_init c_NoDownset_init k_NoDownset_init).binds (fun _ _ _ _ _ _ us hl => match us, hl with | [_, _], _ => rfl), fn_e1 (N := ["self", "bits"]) (ps := ["self", "bits"]) (fun_mk l_NoDownset_init c_NoDownset_init k_NoDownset_init) ⟨rfl, rfl, rfl, by decide +kernel, rfl, by decide +kernel, by decide +kernel⟩ rfl fun f cdv A outer s H E => pss_one (ps_ost (pv 0) (pv 1))⟩⟩
  have E_NoThing : OkE l.prog w K mg base (tb a_Order a_NoLine a_NoPlace a_NoDownset a_NoThing P_walker P__law_of_downsets P_leader P__law_of_lines) 10 "NoThing" ["thing"] := ⟨⟨⟨_, _, _, _, _, _, _, _, _, _, _, _, _, _, _, xl_NoThing, rv_NoThing⟩, xe_NoThing, xs_NoThing, xy_NoThing, xk_NoThing⟩, m_NoThing, rfl, xf_NoThing_thing, ⟨f_NoThing_init, _, ["self", "thing"], a_NoThing_init, ty_NoThing_init, (fun_mk l_NoThing_init c_NoThing_init k_NoThing_init).binds (fun _ _ _ _ _ _ us hl => match us, hl with | [_, _], _ => rfl), fn_e1 (N := ["self", "thing"]) (ps := ["self", "thing"]) (fun_mk l_NoThing_init c_NoThing_init k_NoThing_init) ⟨rfl, rfl, rfl, by decide +kernel, rfl, by decide +kernel, by decide +kernel⟩ rfl fun f cdv A outer s H E => pss_one (ps_ost (pv 0) (pv 1))⟩⟩
  have E_NoPlace : OkE l.prog w K mg base (tb a_Order a_NoLine a_NoPlace a_NoDownset a_NoThing P_walker P__law_of_downsets P_leader P__law_of_lines) 13 "NoPlace" ["place"] := ⟨⟨⟨_, _, _, _, _, _, _, _, _, _, _, _, _, _, _, xl_NoPlace, rv_NoPlace⟩, xe_NoPlace, xs_NoPlace, xy_NoPlace, xk_NoPlace⟩, m_NoPlace, rfl, xf_NoPlace_place, ⟨f_NoPlace_init, _, ["self", "place"], a_NoPlace_init, ty_NoPlace_init, (fun_mk l_NoPlace_init c_NoPlace_init k_NoPlace_init).binds (fun _ _ _ _ _ _ us hl => match us, hl with | [_, _], _ => rfl), fn_e1 (N := ["self", "place"]) (ps := ["self", "place"]) (fun_mk l_NoPlace_init c_NoPlace_init k_NoPlace_init) ⟨rfl, rfl, rfl, by decide +kernel, rfl, by decide +kernel, by decide +kernel⟩ rfl fun f cdv A outer s H E => pss_one (ps_ost (pv 0) (pv 1))⟩⟩
  have o__law_raw := ok__law_raw (P := l.prog) (w := w) (base := base) (mg := mg) (a_Order := a_Order) (a_NoLine := a_NoLine) (a_NoPlace := a_NoPlace) (a_NoDownset := a_NoDownset) (a_NoThing := a_NoThing) (P_walker := P_walker) (P__law_of_downsets := P__law_of_downsets) (P_leader := P_leader) (P__law_of_lines := P__law_of_lines) F__law_raw  z_len
  have o__law_any := ok__law_any (P := l.prog) (w := w) (base := base) (mg := mg) (a_Order := a_Order) (a_NoLine := a_NoLine) (a_NoPlace := a_NoPlace) (a_NoDownset := a_NoDownset) (a_NoThing := a_NoThing) (P_walker := P_walker) (P__law_of_downsets := P__law_of_downsets) (P_leader := P_leader) (P__law_of_lines := P__law_of_lines) F__law_any  o__law_raw z_range
  have o__law_cell_at := ok__law_cell_at (P := l.prog) (w := w) (base := base) (mg := mg) (a_Order := a_Order) (a_NoLine := a_NoLine) (a_NoPlace := a_NoPlace) (a_NoDownset := a_NoDownset) (a_NoThing := a_NoThing) (P_walker := P_walker) (P__law_of_downsets := P__law_of_downsets) (P_leader := P_leader) (P__law_of_lines := P__law_of_lines) F__law_cell_at  z_len
  have o__law_field := ok__law_field (P := l.prog) (w := w) (base := base) (mg := mg) (a_Order := a_Order) (a_NoLine := a_NoLine) (a_NoPlace := a_NoPlace) (a_NoDownset := a_NoDownset) (a_NoThing := a_NoThing) (P_walker := P_walker) (P__law_of_downsets := P__law_of_downsets) (P_leader := P_leader) (P__law_of_lines := P__law_of_lines) F__law_field  z_range
  have o__law_drawn := ok__law_drawn (P := l.prog) (w := w) (base := base) (mg := mg) (a_Order := a_Order) (a_NoLine := a_NoLine) (a_NoPlace := a_NoPlace) (a_NoDownset := a_NoDownset) (a_NoThing := a_NoThing) (P_walker := P_walker) (P__law_of_downsets := P__law_of_downsets) (P_leader := P_leader) (P__law_of_lines := P__law_of_lines) F__law_drawn  o__law_raw o__law_any o__law_cell_at o__law_field z_range
  have o__law_under := ok__law_under (P := l.prog) (w := w) (base := base) (mg := mg) (a_Order := a_Order) (a_NoLine := a_NoLine) (a_NoPlace := a_NoPlace) (a_NoDownset := a_NoDownset) (a_NoThing := a_NoThing) (P_walker := P_walker) (P__law_of_downsets := P__law_of_downsets) (P_leader := P_leader) (P__law_of_lines := P__law_of_lines) F__law_under  z_range z_sorted z_set
  have o_bit_of := ok_bit_of (P := l.prog) (w := w) (base := base) (mg := mg) (a_Order := a_Order) (a_NoLine := a_NoLine) (a_NoPlace := a_NoPlace) (a_NoDownset := a_NoDownset) (a_NoThing := a_NoThing) (P_walker := P_walker) (P__law_of_downsets := P__law_of_downsets) (P_leader := P_leader) (P__law_of_lines := P__law_of_lines) F_bit_of  g_BITS r_BITS
  have o_Order_init := ok_Order_init (P := l.prog) (w := w) (base := base) (mg := mg) (a_Order := a_Order) (a_NoLine := a_NoLine) (a_NoPlace := a_NoPlace) (a_NoDownset := a_NoDownset) (a_NoThing := a_NoThing) (P_walker := P_walker) (P__law_of_downsets := P__law_of_downsets) (P_leader := P_leader) (P__law_of_lines := P__law_of_lines) F_Order_init  o_bit_of g_MOST_THINGS C_Order_kept_many C_Order_kept_lows z_range
  have o__law_line := ok__law_line (P := l.prog) (w := w) (base := base) (mg := mg) (a_Order := a_Order) (a_NoLine := a_NoLine) (a_NoPlace := a_NoPlace) (a_NoDownset := a_NoDownset) (a_NoThing := a_NoThing) (P_walker := P_walker) (P__law_of_downsets := P__law_of_downsets) (P_leader := P_leader) (P__law_of_lines := P__law_of_lines) F__law_line  o__law_raw o__law_cell_at z_len z_range z_all z_tuple
  have o__law_bits := ok__law_bits (P := l.prog) (w := w) (base := base) (mg := mg) (a_Order := a_Order) (a_NoLine := a_NoLine) (a_NoPlace := a_NoPlace) (a_NoDownset := a_NoDownset) (a_NoThing := a_NoThing) (P_walker := P_walker) (P__law_of_downsets := P__law_of_downsets) (P_leader := P_leader) (P__law_of_lines := P__law_of_lines) F__law_bits  z_range
  have o__law_no_downset := ok__law_no_downset (P := l.prog) (w := w) (base := base) (mg := mg) (a_Order := a_Order) (a_NoLine := a_NoLine) (a_NoPlace := a_NoPlace) (a_NoDownset := a_NoDownset) (a_NoThing := a_NoThing) (P_walker := P_walker) (P__law_of_downsets := P__law_of_downsets) (P_leader := P_leader) (P__law_of_lines := P__law_of_lines) F__law_no_downset  o__law_bits z_len z_list z_range
  have o__law_free := ok__law_free (P := l.prog) (w := w) (base := base) (mg := mg) (a_Order := a_Order) (a_NoLine := a_NoLine) (a_NoPlace := a_NoPlace) (a_NoDownset := a_NoDownset) (a_NoThing := a_NoThing) (P_walker := P_walker) (P__law_of_downsets := P__law_of_downsets) (P_leader := P_leader) (P__law_of_lines := P__law_of_lines) F__law_free  o__law_raw o__law_cell_at
  have o__law_others := ok__law_others (P := l.prog) (w := w) (base := base) (mg := mg) (a_Order := a_Order) (a_NoLine := a_NoLine) (a_NoPlace := a_NoPlace) (a_NoDownset := a_NoDownset) (a_NoThing := a_NoThing) (P_walker := P_walker) (P__law_of_downsets := P__law_of_downsets) (P_leader := P_leader) (P__law_of_lines := P__law_of_lines) F__law_others  z_isinstance m_NoText m_NoRow m_NoPair m_NoNumber m_NoField m_NoCount X_NoLine kt_NoLine_NoCount kt_NoLine_NoField kt_NoLine_NoNumber kt_NoLine_NoPair kt_NoLine_NoRow kt_NoLine_NoText X_NoPlace kt_NoPlace_NoCount kt_NoPlace_NoField kt_NoPlace_NoNumber kt_NoPlace_NoPair kt_NoPlace_NoRow kt_NoPlace_NoText X_NoDownset kt_NoDownset_NoCount kt_NoDownset_NoField kt_NoDownset_NoNumber kt_NoDownset_NoPair kt_NoDownset_NoRow kt_NoDownset_NoText X_NoThing kt_NoThing_NoCount kt_NoThing_NoField kt_NoThing_NoNumber kt_NoThing_NoPair kt_NoThing_NoRow kt_NoThing_NoText m_TooMany m_NothingDone kt_NoLine_NothingDone kt_NoLine_TooMany kt_NoPlace_NothingDone kt_NoPlace_TooMany kt_NoDownset_NothingDone kt_NoDownset_TooMany kt_NoThing_NothingDone kt_NoThing_TooMany z_int
  have o__law_kinds := ok__law_kinds (P := l.prog) (w := w) (base := base) (mg := mg) (a_Order := a_Order) (a_NoLine := a_NoLine) (a_NoPlace := a_NoPlace) (a_NoDownset := a_NoDownset) (a_NoThing := a_NoThing) (P_walker := P_walker) (P__law_of_downsets := P__law_of_downsets) (P_leader := P_leader) (P__law_of_lines := P__law_of_lines) F__law_kinds  o__law_others z_isinstance m_NoDownset X_NoLine kt_NoLine_NoDownset X_NoPlace kt_NoPlace_NoDownset X_NoDownset kt_NoDownset_NoDownset X_NoThing kt_NoThing_NoDownset m_NoThing kt_NoLine_NoThing kt_NoPlace_NoThing kt_NoDownset_NoThing kt_NoThing_NoThing m_NoLine kt_NoLine_NoLine kt_NoPlace_NoLine kt_NoDownset_NoLine kt_NoThing_NoLine m_NoPlace kt_NoLine_NoPlace kt_NoPlace_NoPlace kt_NoDownset_NoPlace kt_NoThing_NoPlace z_int z_sum z_ValueError kt_NoLine_ValueError kt_NoPlace_ValueError kt_NoDownset_ValueError kt_NoThing_ValueError xf_NoDownset_bits xf_NoThing_thing xf_NoPlace_place
  have o__law_said := ok__law_said (P := l.prog) (w := w) (base := base) (mg := mg) (a_Order := a_Order) (a_NoLine := a_NoLine) (a_NoPlace := a_NoPlace) (a_NoDownset := a_NoDownset) (a_NoThing := a_NoThing) (P_walker := P_walker) (P__law_of_downsets := P__law_of_downsets) (P_leader := P_leader) (P__law_of_lines := P__law_of_lines) F__law_said  o__law_kinds m_ToggleError xm_NoLine_ToggleError xm_NoPlace_ToggleError xm_NoDownset_ToggleError xm_NoThing_ToggleError
  have o_Order_size := ok_Order_size (P := l.prog) (w := w) (base := base) (mg := mg) (a_Order := a_Order) (a_NoLine := a_NoLine) (a_NoPlace := a_NoPlace) (a_NoDownset := a_NoDownset) (a_NoThing := a_NoThing) (P_walker := P_walker) (P__law_of_downsets := P__law_of_downsets) (P_leader := P_leader) (P__law_of_lines := P__law_of_lines) F_Order_size  C_Order_kept_many
  have o_things_of := ok_things_of (P := l.prog) (w := w) (base := base) (mg := mg) (a_Order := a_Order) (a_NoLine := a_NoLine) (a_NoPlace := a_NoPlace) (a_NoDownset := a_NoDownset) (a_NoThing := a_NoThing) (P_walker := P_walker) (P__law_of_downsets := P__law_of_downsets) (P_leader := P_leader) (P__law_of_lines := P__law_of_lines) F_things_of  z_range g_MOST_THINGS g_BITS r_BITS
  have o_Order_lows_of := ok_Order_lows_of (P := l.prog) (w := w) (base := base) (mg := mg) (a_Order := a_Order) (a_NoLine := a_NoLine) (a_NoPlace := a_NoPlace) (a_NoDownset := a_NoDownset) (a_NoThing := a_NoThing) (P_walker := P_walker) (P__law_of_downsets := P__law_of_downsets) (P_leader := P_leader) (P__law_of_lines := P__law_of_lines) F_Order_lows_of  C_Order_kept_lows
  have o_has_lows := ok_has_lows (P := l.prog) (w := w) (base := base) (mg := mg) (a_Order := a_Order) (a_NoLine := a_NoLine) (a_NoPlace := a_NoPlace) (a_NoDownset := a_NoDownset) (a_NoThing := a_NoThing) (P_walker := P_walker) (P__law_of_downsets := P__law_of_downsets) (P_leader := P_leader) (P__law_of_lines := P__law_of_lines) F_has_lows  o_Order_lows_of
  have o_is_downset := ok_is_downset (P := l.prog) (w := w) (base := base) (mg := mg) (a_Order := a_Order) (a_NoLine := a_NoLine) (a_NoPlace := a_NoPlace) (a_NoDownset := a_NoDownset) (a_NoThing := a_NoThing) (P_walker := P_walker) (P__law_of_downsets := P__law_of_downsets) (P_leader := P_leader) (P__law_of_lines := P__law_of_lines) F_is_downset  o_bit_of o_Order_size o_things_of o_has_lows z_all
  have o_needs_downset_X := ok_needs_downset_X (P := l.prog) (w := w) (base := base) (mg := mg) (a_Order := a_Order) (a_NoLine := a_NoLine) (a_NoPlace := a_NoPlace) (a_NoDownset := a_NoDownset) (a_NoThing := a_NoThing) (P_walker := P_walker) (P__law_of_downsets := P__law_of_downsets) (P_leader := P_leader) (P__law_of_lines := P__law_of_lines) F_needs_downset  o_is_downset E_NoDownset
  have o_needs_things_X := ok_needs_things_X (P := l.prog) (w := w) (base := base) (mg := mg) (a_Order := a_Order) (a_NoLine := a_NoLine) (a_NoPlace := a_NoPlace) (a_NoDownset := a_NoDownset) (a_NoThing := a_NoThing) (P_walker := P_walker) (P__law_of_downsets := P__law_of_downsets) (P_leader := P_leader) (P__law_of_lines := P__law_of_lines) F_needs_things  o_Order_size E_NoThing
  have o_set_of := ok_set_of (P := l.prog) (w := w) (base := base) (mg := mg) (a_Order := a_Order) (a_NoLine := a_NoLine) (a_NoPlace := a_NoPlace) (a_NoDownset := a_NoDownset) (a_NoThing := a_NoThing) (P_walker := P_walker) (P__law_of_downsets := P__law_of_downsets) (P_leader := P_leader) (P__law_of_lines := P__law_of_lines) F_set_of  o_bit_of
  have o_needs_downset := ok_needs_downset (P := l.prog) (w := w) (base := base) (mg := mg) (a_Order := a_Order) (a_NoLine := a_NoLine) (a_NoPlace := a_NoPlace) (a_NoDownset := a_NoDownset) (a_NoThing := a_NoThing) (P_walker := P_walker) (P__law_of_downsets := P__law_of_downsets) (P_leader := P_leader) (P__law_of_lines := P__law_of_lines) F_needs_downset  o_is_downset
  have o_brim := ok_brim (P := l.prog) (w := w) (base := base) (mg := mg) (a_Order := a_Order) (a_NoLine := a_NoLine) (a_NoPlace := a_NoPlace) (a_NoDownset := a_NoDownset) (a_NoThing := a_NoThing) (P_walker := P_walker) (P__law_of_downsets := P__law_of_downsets) (P_leader := P_leader) (P__law_of_lines := P__law_of_lines) F_brim  o_needs_downset o_things_of o_Order_lows_of
  have o_doors := ok_doors (P := l.prog) (w := w) (base := base) (mg := mg) (a_Order := a_Order) (a_NoLine := a_NoLine) (a_NoPlace := a_NoPlace) (a_NoDownset := a_NoDownset) (a_NoThing := a_NoThing) (P_walker := P_walker) (P__law_of_downsets := P__law_of_downsets) (P_leader := P_leader) (P__law_of_lines := P__law_of_lines) F_doors  o_needs_downset o_Order_size o_has_lows o_set_of z_range g_BITS r_BITS
  have o_put_or_taken := ok_put_or_taken (P := l.prog) (w := w) (base := base) (mg := mg) (a_Order := a_Order) (a_NoLine := a_NoLine) (a_NoPlace := a_NoPlace) (a_NoDownset := a_NoDownset) (a_NoThing := a_NoThing) (P_walker := P_walker) (P__law_of_downsets := P__law_of_downsets) (P_leader := P_leader) (P__law_of_lines := P__law_of_lines) F_put_or_taken  o_set_of o_brim o_doors
  have o_walked_X := ok_walked_X (P := l.prog) (w := w) (base := base) (mg := mg) (a_Order := a_Order) (a_NoLine := a_NoLine) (a_NoPlace := a_NoPlace) (a_NoDownset := a_NoDownset) (a_NoThing := a_NoThing) (P_walker := P_walker) (P__law_of_downsets := P__law_of_downsets) (P_leader := P_leader) (P__law_of_lines := P__law_of_lines) F_walked  o_needs_downset_X o_needs_things_X o_put_or_taken
  have o_toggled_X := ok_toggled_X (P := l.prog) (w := w) (base := base) (mg := mg) (a_Order := a_Order) (a_NoLine := a_NoLine) (a_NoPlace := a_NoPlace) (a_NoDownset := a_NoDownset) (a_NoThing := a_NoThing) (P_walker := P_walker) (P__law_of_downsets := P__law_of_downsets) (P_leader := P_leader) (P__law_of_lines := P__law_of_lines) F_toggled  o_walked_X
  have o_walker_X := ok_walker_X (P := l.prog) (w := w) (base := base) (mg := mg) (a_Order := a_Order) (a_NoLine := a_NoLine) (a_NoPlace := a_NoPlace) (a_NoDownset := a_NoDownset) (a_NoThing := a_NoThing) (P_walker := P_walker) (P__law_of_downsets := P__law_of_downsets) (P_leader := P_leader) (P__law_of_lines := P__law_of_lines) F_walker.toF  o_needs_things_X z_list
  have o_needs_things := ok_needs_things (P := l.prog) (w := w) (base := base) (mg := mg) (a_Order := a_Order) (a_NoLine := a_NoLine) (a_NoPlace := a_NoPlace) (a_NoDownset := a_NoDownset) (a_NoThing := a_NoThing) (P_walker := P_walker) (P__law_of_downsets := P__law_of_downsets) (P_leader := P_leader) (P__law_of_lines := P__law_of_lines) F_needs_things  o_Order_size
  have o_walker := ok_walker (P := l.prog) (w := w) (base := base) (mg := mg) (a_Order := a_Order) (a_NoLine := a_NoLine) (a_NoPlace := a_NoPlace) (a_NoDownset := a_NoDownset) (a_NoThing := a_NoThing) (P_walker := P_walker) (P__law_of_downsets := P__law_of_downsets) (P_leader := P_leader) (P__law_of_lines := P__law_of_lines) F_walker TB_walker PN o_needs_things z_list
  have o_walker_walk_X := ok_walker_walk_X (P := l.prog) (w := w) (base := base) (mg := mg) (a_Order := a_Order) (a_NoLine := a_NoLine) (a_NoPlace := a_NoPlace) (a_NoDownset := a_NoDownset) (a_NoThing := a_NoThing) (P_walker := P_walker) (P__law_of_downsets := P__law_of_downsets) (P_leader := P_leader) (P__law_of_lines := P__law_of_lines) o_walked_X
  have o__law_of_downsets := ok__law_of_downsets (P := l.prog) (w := w) (base := base) (mg := mg) (a_Order := a_Order) (a_NoLine := a_NoLine) (a_NoPlace := a_NoPlace) (a_NoDownset := a_NoDownset) (a_NoThing := a_NoThing) (P_walker := P_walker) (P__law_of_downsets := P__law_of_downsets) (P_leader := P_leader) (P__law_of_lines := P__law_of_lines) F__law_of_downsets TB__law_of_downsets PN o__law_said o_toggled_X o_walked_X o_walker_X o_walker o_walker_walk_X
  have o__law_bits_v2 := ok__law_bits_v2 (P := l.prog) (w := w) (base := base) (mg := mg) (a_Order := a_Order) (a_NoLine := a_NoLine) (a_NoPlace := a_NoPlace) (a_NoDownset := a_NoDownset) (a_NoThing := a_NoThing) (P_walker := P_walker) (P__law_of_downsets := P__law_of_downsets) (P_leader := P_leader) (P__law_of_lines := P__law_of_lines) F__law_bits_v2  z_range
  have o_Order_needs_thing := ok_Order_needs_thing (P := l.prog) (w := w) (base := base) (mg := mg) (a_Order := a_Order) (a_NoLine := a_NoLine) (a_NoPlace := a_NoPlace) (a_NoDownset := a_NoDownset) (a_NoThing := a_NoThing) (P_walker := P_walker) (P__law_of_downsets := P__law_of_downsets) (P_leader := P_leader) (P__law_of_lines := P__law_of_lines) F_Order_needs_thing  C_Order_kept_many
  have o_Order_below := ok_Order_below (P := l.prog) (w := w) (base := base) (mg := mg) (a_Order := a_Order) (a_NoLine := a_NoLine) (a_NoPlace := a_NoPlace) (a_NoDownset := a_NoDownset) (a_NoThing := a_NoThing) (P_walker := P_walker) (P__law_of_downsets := P__law_of_downsets) (P_leader := P_leader) (P__law_of_lines := P__law_of_lines) F_Order_below  o_Order_needs_thing C_Order_kept_lows g_BITS r_BITS
  have o_is_line := ok_is_line (P := l.prog) (w := w) (base := base) (mg := mg) (a_Order := a_Order) (a_NoLine := a_NoLine) (a_NoPlace := a_NoPlace) (a_NoDownset := a_NoDownset) (a_NoThing := a_NoThing) (P_walker := P_walker) (P__law_of_downsets := P__law_of_downsets) (P_leader := P_leader) (P__law_of_lines := P__law_of_lines) F_is_line  o_Order_size o_Order_below z_sorted z_list z_range z_enumerate
  have o_needs_line_X := ok_needs_line_X (P := l.prog) (w := w) (base := base) (mg := mg) (a_Order := a_Order) (a_NoLine := a_NoLine) (a_NoPlace := a_NoPlace) (a_NoDownset := a_NoDownset) (a_NoThing := a_NoThing) (P_walker := P_walker) (P__law_of_downsets := P__law_of_downsets) (P_leader := P_leader) (P__law_of_lines := P__law_of_lines) F_needs_line  o_is_line E_NoLine
  have o_needs_places_X := ok_needs_places_X (P := l.prog) (w := w) (base := base) (mg := mg) (a_Order := a_Order) (a_NoLine := a_NoLine) (a_NoPlace := a_NoPlace) (a_NoDownset := a_NoDownset) (a_NoThing := a_NoThing) (P_walker := P_walker) (P__law_of_downsets := P__law_of_downsets) (P_leader := P_leader) (P__law_of_lines := P__law_of_lines) F_needs_places  o_Order_size E_NoPlace
  have o_exchanged := ok_exchanged (P := l.prog) (w := w) (base := base) (mg := mg) (a_Order := a_Order) (a_NoLine := a_NoLine) (a_NoPlace := a_NoPlace) (a_NoDownset := a_NoDownset) (a_NoThing := a_NoThing) (P_walker := P_walker) (P__law_of_downsets := P__law_of_downsets) (P_leader := P_leader) (P__law_of_lines := P__law_of_lines) F_exchanged  o_Order_below
  have o_led_X := ok_led_X (P := l.prog) (w := w) (base := base) (mg := mg) (a_Order := a_Order) (a_NoLine := a_NoLine) (a_NoPlace := a_NoPlace) (a_NoDownset := a_NoDownset) (a_NoThing := a_NoThing) (P_walker := P_walker) (P__law_of_downsets := P__law_of_downsets) (P_leader := P_leader) (P__law_of_lines := P__law_of_lines) F_led  o_needs_line_X o_needs_places_X o_exchanged
  have o_swapped_X := ok_swapped_X (P := l.prog) (w := w) (base := base) (mg := mg) (a_Order := a_Order) (a_NoLine := a_NoLine) (a_NoPlace := a_NoPlace) (a_NoDownset := a_NoDownset) (a_NoThing := a_NoThing) (P_walker := P_walker) (P__law_of_downsets := P__law_of_downsets) (P_leader := P_leader) (P__law_of_lines := P__law_of_lines) F_swapped  o_led_X
  have o_leader_X := ok_leader_X (P := l.prog) (w := w) (base := base) (mg := mg) (a_Order := a_Order) (a_NoLine := a_NoLine) (a_NoPlace := a_NoPlace) (a_NoDownset := a_NoDownset) (a_NoThing := a_NoThing) (P_walker := P_walker) (P__law_of_downsets := P__law_of_downsets) (P_leader := P_leader) (P__law_of_lines := P__law_of_lines) F_leader.toF  o_needs_places_X z_list
  have o_needs_places := ok_needs_places (P := l.prog) (w := w) (base := base) (mg := mg) (a_Order := a_Order) (a_NoLine := a_NoLine) (a_NoPlace := a_NoPlace) (a_NoDownset := a_NoDownset) (a_NoThing := a_NoThing) (P_walker := P_walker) (P__law_of_downsets := P__law_of_downsets) (P_leader := P_leader) (P__law_of_lines := P__law_of_lines) F_needs_places  o_Order_size
  have o_leader := ok_leader (P := l.prog) (w := w) (base := base) (mg := mg) (a_Order := a_Order) (a_NoLine := a_NoLine) (a_NoPlace := a_NoPlace) (a_NoDownset := a_NoDownset) (a_NoThing := a_NoThing) (P_walker := P_walker) (P__law_of_downsets := P__law_of_downsets) (P_leader := P_leader) (P__law_of_lines := P__law_of_lines) F_leader TB_leader PN o_needs_places z_list
  have o_leader_lead_X := ok_leader_lead_X (P := l.prog) (w := w) (base := base) (mg := mg) (a_Order := a_Order) (a_NoLine := a_NoLine) (a_NoPlace := a_NoPlace) (a_NoDownset := a_NoDownset) (a_NoThing := a_NoThing) (P_walker := P_walker) (P__law_of_downsets := P__law_of_downsets) (P_leader := P_leader) (P__law_of_lines := P__law_of_lines) o_led_X
  have o__law_of_lines := ok__law_of_lines (P := l.prog) (w := w) (base := base) (mg := mg) (a_Order := a_Order) (a_NoLine := a_NoLine) (a_NoPlace := a_NoPlace) (a_NoDownset := a_NoDownset) (a_NoThing := a_NoThing) (P_walker := P_walker) (P__law_of_downsets := P__law_of_downsets) (P_leader := P_leader) (P__law_of_lines := P__law_of_lines) F__law_of_lines TB__law_of_lines PN o__law_said o_swapped_X o_led_X o_leader_X o_leader o_leader_lead_X z_len
  have o__law_no_line := ok__law_no_line (P := l.prog) (w := w) (base := base) (mg := mg) (a_Order := a_Order) (a_NoLine := a_NoLine) (a_NoPlace := a_NoPlace) (a_NoDownset := a_NoDownset) (a_NoThing := a_NoThing) (P_walker := P_walker) (P__law_of_downsets := P__law_of_downsets) (P_leader := P_leader) (P__law_of_lines := P__law_of_lines) F__law_no_line  z_len z_range
  exact law_ok (fn_law (a_Order := a_Order) (a_NoLine := a_NoLine) (a_NoPlace := a_NoPlace) (a_NoDownset := a_NoDownset) (a_NoThing := a_NoThing) (P_walker := P_walker) (P__law_of_downsets := P__law_of_downsets) (P_leader := P_leader) (P__law_of_lines := P__law_of_lines) F o__law_drawn o__law_under o_Order_init o__law_line o__law_no_downset o__law_free o__law_of_downsets o__law_bits_v2 o__law_of_lines o__law_no_line z_list) hφ
end Lw
open PySem PySem.W PyProof.Rows
set_option maxHeartbeats 0 in
theorem PySem.Challenge.cw_toggleclock_k38_toggles_refused_holds : PySem.Challenge.rw_toggleclock_k38_toggles_refused.Holds := by
  w_on; o_law; k_head; (case hw => w_witness2)
  k_fill
  refine LamX.walk_ofTs (l := PySem.Challenge.rw_toggleclock_k38_toggles_refused) (n := 63) (k := 12) (x := "_law_script") (CX := fun _ => L2.CX0) rfl (by decide) rfl ⟨rfl, by decide, by decide⟩ (fun w h Y => PySem.W.km_in_of Y) ?F (fun _ _ _ _ _ h => h)
  case F =>
    intro w mg fa h Y KX G hmg
    refine' Lw.all_mk KX G hmg Lw.law_true ?a_c_NoText ?a_c_NoRow ?a_c_NoPair ?a_c_NoNumber ?a_c_NoField ?a_c_NoCount ?a_c_TooMany ?a_c_NothingDone ?a_c_ToggleError ?a_c_NoLine ?a_c_NoPlace ?a_c_NoDownset ?a_c_NoThing ?a_c_Order ?pg_Order ?hd_Order ?po_Order ?sa_Order ?mk_Order ?kc_Order ?xa_NoLine ?xb_NoLine ?xs_NoLine ?xd_NoLine ?xc_NoLine ?xg ?xt ?xo_NoLine ?kt_NoLine_NoCount ?kt_NoLine_NoField ?kt_NoLine_NoNumber ?kt_NoLine_NoPair ?kt_NoLine_NoRow ?kt_NoLine_NoText ?xa_NoPlace ?xb_NoPlace ?xs_NoPlace ?xd_NoPlace ?xc_NoPlace ?xo_NoPlace ?kt_NoPlace_NoCount ?kt_NoPlace_NoField ?kt_NoPlace_NoNumber ?kt_NoPlace_NoPair ?kt_NoPlace_NoRow ?kt_NoPlace_NoText ?xa_NoDownset ?xb_NoDownset ?xs_NoDownset ?xd_NoDownset ?xc_NoDownset ?xo_NoDownset ?kt_NoDownset_NoCount ?kt_NoDownset_NoField ?kt_NoDownset_NoNumber ?kt_NoDownset_NoPair ?kt_NoDownset_NoRow ?kt_NoDownset_NoText ?xa_NoThing ?xb_NoThing ?xs_NoThing ?xd_NoThing ?xc_NoThing ?xo_NoThing ?kt_NoThing_NoCount ?kt_NoThing_NoField ?kt_NoThing_NoNumber ?kt_NoThing_NoPair ?kt_NoThing_NoRow ?kt_NoThing_NoText ?kt_NoLine_NothingDone ?kt_NoLine_TooMany ?kt_NoPlace_NothingDone ?kt_NoPlace_TooMany ?kt_NoDownset_NothingDone ?kt_NoDownset_TooMany ?kt_NoThing_NothingDone ?kt_NoThing_TooMany ?kt_NoLine_NoDownset ?kt_NoPlace_NoDownset ?kt_NoDownset_NoDownset ?kt_NoThing_NoDownset ?kt_NoLine_NoThing ?kt_NoPlace_NoThing ?kt_NoDownset_NoThing ?kt_NoThing_NoThing ?kt_NoLine_NoLine ?kt_NoPlace_NoLine ?kt_NoDownset_NoLine ?kt_NoThing_NoLine ?kt_NoLine_NoPlace ?kt_NoPlace_NoPlace ?kt_NoDownset_NoPlace ?kt_NoThing_NoPlace ?kt_NoLine_ValueError ?kt_NoPlace_ValueError ?kt_NoDownset_ValueError ?kt_NoThing_ValueError ?xf_NoDownset_bits ?xf_NoThing_thing ?xf_NoPlace_place ?xm_NoLine_ToggleError ?xm_NoPlace_ToggleError ?xm_NoDownset_ToggleError ?xm_NoThing_ToggleError ?xy_NoDownset ?xk_NoDownset ?xl_NoDownset ?rv_NoDownset ?xe_NoDownset ?a_NoDownset_init ?ty_NoDownset_init ?l_NoDownset_init ?c_NoDownset_init ?k_NoDownset_init ?xy_NoThing ?xk_NoThing ?xl_NoThing ?rv_NoThing ?xe_NoThing ?a_NoThing_init ?ty_NoThing_init ?l_NoThing_init ?c_NoThing_init ?k_NoThing_init ?xy_NoLine ?xk_NoLine ?xi_NoLine ?xy_NoPlace ?xk_NoPlace ?xl_NoPlace ?rv_NoPlace ?xe_NoPlace ?a_NoPlace_init ?ty_NoPlace_init ?l_NoPlace_init ?c_NoPlace_init ?k_NoPlace_init ?n_Order_kept_many ?n_Order_kept_lows ?a__law_raw ?l__law_raw ?c__law_raw ?k__law_raw ?a__law_any ?l__law_any ?c__law_any ?k__law_any ?a__law_cell_at ?l__law_cell_at ?c__law_cell_at ?k__law_cell_at ?a__law_field ?l__law_field ?c__law_field ?k__law_field ?a__law_drawn ?l__law_drawn ?c__law_drawn ?k__law_drawn ?a__law_under ?l__law_under ?c__law_under ?k__law_under ?a_bit_of ?l_bit_of ?c_bit_of ?k_bit_of ?a_Order_init ?i_Order_init ?l_Order_init ?c_Order_init ?k_Order_init ?a__law_line ?l__law_line ?c__law_line ?k__law_line ?a__law_bits ?l__law_bits ?c__law_bits ?k__law_bits ?a__law_no_downset ?l__law_no_downset ?c__law_no_downset ?k__law_no_downset ?a__law_free ?l__law_free ?c__law_free ?k__law_free ?a__law_others ?l__law_others ?c__law_others ?k__law_others ?a__law_kinds ?l__law_kinds ?c__law_kinds ?k__law_kinds ?a__law_said ?l__law_said ?c__law_said ?k__law_said ?a_Order_size ?i_Order_size ?l_Order_size ?c_Order_size ?k_Order_size ?a_things_of ?l_things_of ?c_things_of ?k_things_of ?a_Order_lows_of ?i_Order_lows_of ?l_Order_lows_of ?c_Order_lows_of ?k_Order_lows_of ?a_has_lows ?l_has_lows ?c_has_lows ?k_has_lows ?a_is_downset ?l_is_downset ?c_is_downset ?k_is_downset ?a_needs_downset ?l_needs_downset ?c_needs_downset ?k_needs_downset ?a_needs_things ?l_needs_things ?c_needs_things ?k_needs_things ?a_set_of ?l_set_of ?c_set_of ?k_set_of ?a_brim ?l_brim ?c_brim ?k_brim ?a_doors ?l_doors ?c_doors ?k_doors ?a_put_or_taken ?l_put_or_taken ?c_put_or_taken ?k_put_or_taken ?a_walked ?l_walked ?c_walked ?k_walked ?a_toggled ?l_toggled ?c_toggled ?k_toggled ?a_walker ?l_walker ?c_walker ?k_walker ?lc_walker ?t2_walker ?h2_walker ?n2_walker ?e2_walker ?a__law_of_downsets ?l__law_of_downsets ?c__law_of_downsets ?k__law_of_downsets ?lc__law_of_downsets ?t2__law_of_downsets ?h2__law_of_downsets ?n2__law_of_downsets ?e2__law_of_downsets ?a__law_bits_v2 ?l__law_bits_v2 ?c__law_bits_v2 ?k__law_bits_v2 ?a_Order_needs_thing ?i_Order_needs_thing ?l_Order_needs_thing ?c_Order_needs_thing ?k_Order_needs_thing ?a_Order_below ?i_Order_below ?l_Order_below ?c_Order_below ?k_Order_below ?a_is_line ?l_is_line ?c_is_line ?k_is_line ?a_needs_line ?l_needs_line ?c_needs_line ?k_needs_line ?a_needs_places ?l_needs_places ?c_needs_places ?k_needs_places ?a_exchanged ?l_exchanged ?c_exchanged ?k_exchanged ?a_led ?l_led ?c_led ?k_led ?a_swapped ?l_swapped ?c_swapped ?k_swapped ?a_leader ?l_leader ?c_leader ?k_leader ?lc_leader ?t2_leader ?h2_leader ?n2_leader ?e2_leader ?a__law_of_lines ?l__law_of_lines ?c__law_of_lines ?k__law_of_lines ?lc__law_of_lines ?t2__law_of_lines ?h2__law_of_lines ?n2__law_of_lines ?e2__law_of_lines ?a__law_no_line ?l__law_no_line ?c__law_no_line ?k__law_no_line ?a_law ?l_law ?c_law ?k_law ?PN ?y_len ?y_range ?y_sorted ?y_set ?y_all ?y_tuple ?y_list ?y_isinstance ?y_int ?y_sum ?y_ValueError ?y_enumerate ?d_BITS ?r_BITS ?d_MOST_THINGS
    (case a_c_NoText => k_is)
    (case a_c_NoRow => k_is)
    (case a_c_NoPair => k_is)
    (case a_c_NoNumber => k_is)
    (case a_c_NoField => k_is)
    (case a_c_NoCount => k_is)
    (case a_c_TooMany => k_is)
    (case a_c_NothingDone => k_is)
    (case a_c_ToggleError => k_is)
    (case a_c_NoLine => k_is)
    (case a_c_NoPlace => k_is)
    (case a_c_NoDownset => k_is)
    (case a_c_NoThing => k_is)
    (case a_c_Order => k_is)
    (case pg_Order => k_is)
    (case hd_Order => k_is)
    (case po_Order => k_is)
    (case sa_Order => k_is)
    (case mk_Order => k_is)
    (case kc_Order => k_is)
    (case xa_NoLine => k_is)
    (case xb_NoLine => k_is)
    (case xs_NoLine => k_is)
    (case xd_NoLine => k_is)
    (case xc_NoLine => k_is)
    (case xg => k_is)
    (case xt => k_is)
    (case xo_NoLine => k_is)
    (case kt_NoLine_NoCount => first | k_is | rfl | kernel_rfl)
    (case kt_NoLine_NoField => first | k_is | rfl | kernel_rfl)
    (case kt_NoLine_NoNumber => first | k_is | rfl | kernel_rfl)
    (case kt_NoLine_NoPair => first | k_is | rfl | kernel_rfl)
    (case kt_NoLine_NoRow => first | k_is | rfl | kernel_rfl)
    (case kt_NoLine_NoText => first | k_is | rfl | kernel_rfl)
    (case xa_NoPlace => k_is)
    (case xb_NoPlace => k_is)
    (case xs_NoPlace => k_is)
    (case xd_NoPlace => k_is)
    (case xc_NoPlace => k_is)
    (case xo_NoPlace => k_is)
    (case kt_NoPlace_NoCount => first | k_is | rfl | kernel_rfl)
    (case kt_NoPlace_NoField => first | k_is | rfl | kernel_rfl)
    (case kt_NoPlace_NoNumber => first | k_is | rfl | kernel_rfl)
    (case kt_NoPlace_NoPair => first | k_is | rfl | kernel_rfl)
    (case kt_NoPlace_NoRow => first | k_is | rfl | kernel_rfl)
    (case kt_NoPlace_NoText => first | k_is | rfl | kernel_rfl)
    (case xa_NoDownset => k_is)
    (case xb_NoDownset => k_is)
    (case xs_NoDownset => k_is)
    (case xd_NoDownset => k_is)
    (case xc_NoDownset => k_is)
    (case xo_NoDownset => k_is)
    (case kt_NoDownset_NoCount => first | k_is | rfl | kernel_rfl)
    (case kt_NoDownset_NoField => first | k_is | rfl | kernel_rfl)
    (case kt_NoDownset_NoNumber => first | k_is | rfl | kernel_rfl)
    (case kt_NoDownset_NoPair => first | k_is | rfl | kernel_rfl)
    (case kt_NoDownset_NoRow => first | k_is | rfl | kernel_rfl)
    (case kt_NoDownset_NoText => first | k_is | rfl | kernel_rfl)
    (case xa_NoThing => k_is)
    (case xb_NoThing => k_is)
    (case xs_NoThing => k_is)
    (case xd_NoThing => k_is)
    (case xc_NoThing => k_is)
    (case xo_NoThing => k_is)
    (case kt_NoThing_NoCount => first | k_is | rfl | kernel_rfl)
    (case kt_NoThing_NoField => first | k_is | rfl | kernel_rfl)
    (case kt_NoThing_NoNumber => first | k_is | rfl | kernel_rfl)
    (case kt_NoThing_NoPair => first | k_is | rfl | kernel_rfl)
    (case kt_NoThing_NoRow => first | k_is | rfl | kernel_rfl)
    (case kt_NoThing_NoText => first | k_is | rfl | kernel_rfl)
    (case kt_NoLine_NothingDone => first | k_is | rfl | kernel_rfl)
    (case kt_NoLine_TooMany => first | k_is | rfl | kernel_rfl)
    (case kt_NoPlace_NothingDone => first | k_is | rfl | kernel_rfl)
    (case kt_NoPlace_TooMany => first | k_is | rfl | kernel_rfl)
    (case kt_NoDownset_NothingDone => first | k_is | rfl | kernel_rfl)
    (case kt_NoDownset_TooMany => first | k_is | rfl | kernel_rfl)
    (case kt_NoThing_NothingDone => first | k_is | rfl | kernel_rfl)
    (case kt_NoThing_TooMany => first | k_is | rfl | kernel_rfl)
    (case kt_NoLine_NoDownset => first | k_is | rfl | kernel_rfl)
    (case kt_NoPlace_NoDownset => first | k_is | rfl | kernel_rfl)
    (case kt_NoDownset_NoDownset => first | k_is | rfl | kernel_rfl)
    (case kt_NoThing_NoDownset => first | k_is | rfl | kernel_rfl)
    (case kt_NoLine_NoThing => first | k_is | rfl | kernel_rfl)
    (case kt_NoPlace_NoThing => first | k_is | rfl | kernel_rfl)
    (case kt_NoDownset_NoThing => first | k_is | rfl | kernel_rfl)
    (case kt_NoThing_NoThing => first | k_is | rfl | kernel_rfl)
    (case kt_NoLine_NoLine => first | k_is | rfl | kernel_rfl)
    (case kt_NoPlace_NoLine => first | k_is | rfl | kernel_rfl)
    (case kt_NoDownset_NoLine => first | k_is | rfl | kernel_rfl)
    (case kt_NoThing_NoLine => first | k_is | rfl | kernel_rfl)
    (case kt_NoLine_NoPlace => first | k_is | rfl | kernel_rfl)
    (case kt_NoPlace_NoPlace => first | k_is | rfl | kernel_rfl)
    (case kt_NoDownset_NoPlace => first | k_is | rfl | kernel_rfl)
    (case kt_NoThing_NoPlace => first | k_is | rfl | kernel_rfl)
    (case kt_NoLine_ValueError => first | k_is | rfl | kernel_rfl)
    (case kt_NoPlace_ValueError => first | k_is | rfl | kernel_rfl)
    (case kt_NoDownset_ValueError => first | k_is | rfl | kernel_rfl)
    (case kt_NoThing_ValueError => first | k_is | rfl | kernel_rfl)
    (case xf_NoDownset_bits => k_is)
    (case xf_NoThing_thing => k_is)
    (case xf_NoPlace_place => k_is)
    (case xm_NoLine_ToggleError => first | k_is | rfl | kernel_rfl)
    (case xm_NoPlace_ToggleError => first | k_is | rfl | kernel_rfl)
    (case xm_NoDownset_ToggleError => first | k_is | rfl | kernel_rfl)
    (case xm_NoThing_ToggleError => first | k_is | rfl | kernel_rfl)
    (case xy_NoDownset => k_is)
    (case xk_NoDownset => k_is)
    (case xl_NoDownset => k_is)
    (case rv_NoDownset => decide +kernel)
    (case xe_NoDownset => k_is)
    (case a_NoDownset_init => k_is)
    (case ty_NoDownset_init => k_is)
    (case l_NoDownset_init => k_is)
    (case c_NoDownset_init => k_is)
    (case k_NoDownset_init => k_is)
    (case xy_NoThing => k_is)
    (case xk_NoThing => k_is)
    (case xl_NoThing => k_is)
    (case rv_NoThing => decide +kernel)
    (case xe_NoThing => k_is)
    (case a_NoThing_init => k_is)
    (case ty_NoThing_init => k_is)
    (case l_NoThing_init => k_is)
    (case c_NoThing_init => k_is)
    (case k_NoThing_init => k_is)
    (case xy_NoLine => k_is)
    (case xk_NoLine => k_is)
    (case xi_NoLine => k_exc)
    (case xy_NoPlace => k_is)
    (case xk_NoPlace => k_is)
    (case xl_NoPlace => k_is)
    (case rv_NoPlace => decide +kernel)
    (case xe_NoPlace => k_is)
    (case a_NoPlace_init => k_is)
    (case ty_NoPlace_init => k_is)
    (case l_NoPlace_init => k_is)
    (case c_NoPlace_init => k_is)
    (case k_NoPlace_init => k_is)
    (case n_Order_kept_many => k_is)
    (case n_Order_kept_lows => k_is)
    (case a__law_raw => k_is)
    (case l__law_raw => k_is)
    (case c__law_raw => k_is)
    (case k__law_raw => k_is)
    (case a__law_any => k_is)
    (case l__law_any => k_is)
    (case c__law_any => k_is)
    (case k__law_any => k_is)
    (case a__law_cell_at => k_is)
    (case l__law_cell_at => k_is)
    (case c__law_cell_at => k_is)
    (case k__law_cell_at => k_is)
    (case a__law_field => k_is)
    (case l__law_field => k_is)
    (case c__law_field => k_is)
    (case k__law_field => k_is)
    (case a__law_drawn => k_is)
    (case l__law_drawn => k_is)
    (case c__law_drawn => k_is)
    (case k__law_drawn => k_is)
    (case a__law_under => k_is)
    (case l__law_under => k_is)
    (case c__law_under => k_is)
    (case k__law_under => k_is)
    (case a_bit_of => k_is)
    (case l_bit_of => k_is)
    (case c_bit_of => k_is)
    (case k_bit_of => k_is)
    (case a_Order_init => k_is)
    (case i_Order_init => k_is)
    (case l_Order_init => k_is)
    (case c_Order_init => k_is)
    (case k_Order_init => k_is)
    (case a__law_line => k_is)
    (case l__law_line => k_is)
    (case c__law_line => k_is)
    (case k__law_line => k_is)
    (case a__law_bits => k_is)
    (case l__law_bits => k_is)
    (case c__law_bits => k_is)
    (case k__law_bits => k_is)
    (case a__law_no_downset => k_is)
    (case l__law_no_downset => k_is)
    (case c__law_no_downset => k_is)
    (case k__law_no_downset => k_is)
    (case a__law_free => k_is)
    (case l__law_free => k_is)
    (case c__law_free => k_is)
    (case k__law_free => k_is)
    (case a__law_others => k_is)
    (case l__law_others => k_is)
    (case c__law_others => k_is)
    (case k__law_others => k_is)
    (case a__law_kinds => k_is)
    (case l__law_kinds => k_is)
    (case c__law_kinds => k_is)
    (case k__law_kinds => k_is)
    (case a__law_said => k_is)
    (case l__law_said => k_is)
    (case c__law_said => k_is)
    (case k__law_said => k_is)
    (case a_Order_size => k_is)
    (case i_Order_size => k_is)
    (case l_Order_size => k_is)
    (case c_Order_size => k_is)
    (case k_Order_size => k_is)
    (case a_things_of => k_is)
    (case l_things_of => k_is)
    (case c_things_of => k_is)
    (case k_things_of => k_is)
    (case a_Order_lows_of => k_is)
    (case i_Order_lows_of => k_is)
    (case l_Order_lows_of => k_is)
    (case c_Order_lows_of => k_is)
    (case k_Order_lows_of => k_is)
    (case a_has_lows => k_is)
    (case l_has_lows => k_is)
    (case c_has_lows => k_is)
    (case k_has_lows => k_is)
    (case a_is_downset => k_is)
    (case l_is_downset => k_is)
    (case c_is_downset => k_is)
    (case k_is_downset => k_is)
    (case a_needs_downset => k_is)
    (case l_needs_downset => k_is)
    (case c_needs_downset => k_is)
    (case k_needs_downset => k_is)
    (case a_needs_things => k_is)
    (case l_needs_things => k_is)
    (case c_needs_things => k_is)
    (case k_needs_things => k_is)
    (case a_set_of => k_is)
    (case l_set_of => k_is)
    (case c_set_of => k_is)
    (case k_set_of => k_is)
    (case a_brim => k_is)
    (case l_brim => k_is)
    (case c_brim => k_is)
    (case k_brim => k_is)
    (case a_doors => k_is)
    (case l_doors => k_is)
    (case c_doors => k_is)
    (case k_doors => k_is)
    (case a_put_or_taken => k_is)
    (case l_put_or_taken => k_is)
    (case c_put_or_taken => k_is)
    (case k_put_or_taken => k_is)
    (case a_walked => k_is)
    (case l_walked => k_is)
    (case c_walked => k_is)
    (case k_walked => k_is)
    (case a_toggled => k_is)
    (case l_toggled => k_is)
    (case c_toggled => k_is)
    (case k_toggled => k_is)
    (case a_walker => k_is)
    (case l_walker => k_is)
    (case c_walker => k_is)
    (case k_walker => k_is)
    (case lc_walker => k_is)
    (case t2_walker => rfl)
    (case h2_walker => kernel_rfl)
    (case n2_walker => kernel_rfl)
    (case e2_walker => exact PySem.W.km_tabs_of Y _ (by simp))
    (case a__law_of_downsets => k_is)
    (case l__law_of_downsets => k_is)
    (case c__law_of_downsets => k_is)
    (case k__law_of_downsets => k_is)
    (case lc__law_of_downsets => k_is)
    (case t2__law_of_downsets => rfl)
    (case h2__law_of_downsets => kernel_rfl)
    (case n2__law_of_downsets => kernel_rfl)
    (case e2__law_of_downsets => exact PySem.W.km_tabs_of Y _ (by simp))
    (case a__law_bits_v2 => k_is)
    (case l__law_bits_v2 => k_is)
    (case c__law_bits_v2 => k_is)
    (case k__law_bits_v2 => k_is)
    (case a_Order_needs_thing => k_is)
    (case i_Order_needs_thing => k_is)
    (case l_Order_needs_thing => k_is)
    (case c_Order_needs_thing => k_is)
    (case k_Order_needs_thing => k_is)
    (case a_Order_below => k_is)
    (case i_Order_below => k_is)
    (case l_Order_below => k_is)
    (case c_Order_below => k_is)
    (case k_Order_below => k_is)
    (case a_is_line => k_is)
    (case l_is_line => k_is)
    (case c_is_line => k_is)
    (case k_is_line => k_is)
    (case a_needs_line => k_is)
    (case l_needs_line => k_is)
    (case c_needs_line => k_is)
    (case k_needs_line => k_is)
    (case a_needs_places => k_is)
    (case l_needs_places => k_is)
    (case c_needs_places => k_is)
    (case k_needs_places => k_is)
    (case a_exchanged => k_is)
    (case l_exchanged => k_is)
    (case c_exchanged => k_is)
    (case k_exchanged => k_is)
    (case a_led => k_is)
    (case l_led => k_is)
    (case c_led => k_is)
    (case k_led => k_is)
    (case a_swapped => k_is)
    (case l_swapped => k_is)
    (case c_swapped => k_is)
    (case k_swapped => k_is)
    (case a_leader => k_is)
    (case l_leader => k_is)
    (case c_leader => k_is)
    (case k_leader => k_is)
    (case lc_leader => k_is)
    (case t2_leader => rfl)
    (case h2_leader => kernel_rfl)
    (case n2_leader => kernel_rfl)
    (case e2_leader => exact PySem.W.km_tabs_of Y _ (by simp))
    (case a__law_of_lines => k_is)
    (case l__law_of_lines => k_is)
    (case c__law_of_lines => k_is)
    (case k__law_of_lines => k_is)
    (case lc__law_of_lines => k_is)
    (case t2__law_of_lines => rfl)
    (case h2__law_of_lines => kernel_rfl)
    (case n2__law_of_lines => kernel_rfl)
    (case e2__law_of_lines => exact PySem.W.km_tabs_of Y _ (by simp))
    (case a__law_no_line => k_is)
    (case l__law_no_line => k_is)
    (case c__law_no_line => k_is)
    (case k__law_no_line => k_is)
    (case a_law => k_is)
    (case l_law => k_is)
    (case c_law => k_is)
    (case k_law => k_is)
    (case PN => decide +kernel)
    (case y_len => k_is)
    (case y_range => k_is)
    (case y_sorted => k_is)
    (case y_set => k_is)
    (case y_all => k_is)
    (case y_tuple => k_is)
    (case y_list => k_is)
    (case y_isinstance => k_is)
    (case y_int => k_is)
    (case y_sum => k_is)
    (case y_ValueError => k_is)
    (case y_enumerate => k_is)
    (case d_BITS => k_is)
    (case r_BITS => exact ⟨_, _, _, by k_is, rfl, rfl, by decide, by first | exact .nil | (repeat' constructor)⟩)
    (case d_MOST_THINGS => k_is)
#print axioms PySem.Challenge.cw_toggleclock_k38_toggles_refused_holds

