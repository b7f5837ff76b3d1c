import PyProof.Rows.All
import Wide.All
import OpenK.AllK
import Wide.FinOn
import HandS.ForMost
import HandS.Wide
import HandS.IsInst
import HandS.TupAny
import HandS.Deep
import HandS.SortInts
import HandS.SortRule
import HandS.Conv
import HandS.Zip
import HandS.Rev
import HandS.RevRange
import HandS.Strs
import HandS.Nested
import HandS.NestedK
import HandS.TupSets
import HandS.SetFor
import HandS.TupLe
import KE.GoesEnum
import HandS.SortKw
import KE.SortKeyHeap
import KE.KDictSum
import KE.KDictCopyH
import KE.KDictLaw
import HandS.EndTab
import KE.KNestM
import HandS.WordsExc
import HandS.ExcInit
import HandS.ExcOwn
import HandS.ExcIs
import HandS.ExcField
import KE.KExcIs
import HandS.Defaults
import HandS.Finally
import HandS.NamedTupSort
import HandS.RaiseMore
import KE.KDictDisplayH
import HandS.DictComp
import PySem.Challenge.RW_toggleclock_k86_whole_rounds_counted_ahe
set_option Elab.async false
set_option linter.all false
set_option maxRecDepth 100000
set_option maxHeartbeats 8000000
/-! DL: a value-semantics layer over HandS -/
namespace DL
open PySem PySem.Spec PyProof.Rows L2

/-- plain data -/
inductive D where
  | non | bl (b : Bool) | int (i : Int) | str (s : Str)
  | tup (ds : List D) | lst (ds : List D) | scr (ds : List D)
  | ins (c : Nat) (ds : List D)
  | dic (ks : List Key) (ds : List D) | dit (ks : List (List Key)) (ds : List D)
  | exn (c : Nat) (ds : List D)
deriving Inhabited

def isMut : HO → Bool
  | .lst _ => true
  | .dK _ => true
  | .dT _ => true
  | .ins _ _ _ => true
  | _ => false
/-- the own classes; the tables of code objects -/
structure Tb where
  c : Nat → Addr × List Str
  t : List (Addr × Str) := []
instance : CoeFun Tb (fun _ => Nat → Addr × List Str) := ⟨Tb.c⟩
def isT : HO → Bool
  | .tbl _ => true
  | _ => false
/-- all stays but the tables -/
structure Sm (H H' : Hp) : Prop where
  get : ∀ b o, H b = some o → isT o = false → H' b = some o
theorem Sm.fn {H H' : Hp} (e : Sm H H') (b : Addr) (o : HO) (h : H b = some o) (ht : isT o = false := by first | rfl | assumption) : H' b = some o := e.get b o h ht
instance {H H' : Hp} : CoeFun (Sm H H') (fun _ => ∀ (b : Addr) (o : HO) (h : H b = some o) (ht : isT o = false := by first | rfl | assumption), H' b = some o) := ⟨fun e => @Sm.fn _ _ e⟩
theorem Sm.refl (H : Hp) : Sm H H := ⟨fun _ _ h _ => h⟩
theorem Sm.trans {H H1 H2 : Hp} (a : Sm H H1) (b : Sm H1 H2) : Sm H H2 := ⟨fun c o h n => b.get c o (a.get c o h n) n⟩
theorem _root_.L2.Same.sm {H H' : Hp} (e : Same H H') : Sm H H' := ⟨fun b o h _ => e b o h⟩
instance {H H' : Hp} : Coe (Same H H') (Sm H H') := ⟨fun e => e.sm⟩
/-- no tables within -/
def NoT (F : Hp) : Prop := ∀ b o, F b = some o → isT o = false
theorem Sm.ofF {F H H' : Hp} (n : NoT F) (a : Same F H) (b : Sm H H') : Same F H' := fun c o h => b.get c o (a c o h) (n c o h)
theorem isT_mut {o : HO} (h : isMut o = true) : isT o = false := by cases o <;> first | rfl | cases h
theorem Sm.seq {K : PySem.W.Frag} {H H' : Hp} {a : Addr} {xs : List V} (e : Sm H H') (h : SqL K H a xs) : SqL K H' a xs := by
  rcases h with (h | ⟨o, h⟩) | h
  · exact .inl (.inl (e _ _ h))
  · exact .inl (.inr ⟨o, e _ _ h⟩)
  · exact .inr h
/-- the heap without its tables -/
def ntb (H : Hp) : Hp := fun b => match H b with
  | some (.tbl _) => none
  | o => o
theorem ntb_some {H : Hp} {b : Addr} {o : HO} (h : H b = some o) (n : isT o = false) : ntb H b = some o := by
  unfold ntb; rw [h]; cases o <;> first | rfl | cases n
theorem ntb_le {H : Hp} {b : Addr} {o : HO} (h : ntb H b = some o) : H b = some o := by
  unfold ntb at h
  split at h
  · cases h
  · exact h
theorem ntb_not {H : Hp} {b : Addr} {o : HO} (h : ntb H b = some o) : isT o = false := by
  unfold ntb at h
  split at h
  · cases h
  · rename_i x hx
    cases o <;> first | rfl | exact absurd h (hx _)

/-- a list that no one writes: the script -/
def SqS (K : PySem.W.Frag) (H : Hp) (a : Addr) (xs : List V) : Prop := (∃ o, H a = some (.frz o (.lst xs))) ∨
  ∃ (o : Obj) (its : Array Value) (n : Nat), K.lookup a = some o ∧ o.cls = .type "list" ∧ o.dict = none ∧ o.data = .seq its n ∧ its.size ≤ sizeLine ∧ Vals xs its.toList
theorem SqS.seq {K : PySem.W.Frag} {H : Hp} {a : Addr} {xs : List V} (h : SqS K H a xs) : SqL K H a xs := by
  rcases h with h | h
  · exact .inl (.inr h)
  · exact .inr h
/-- at a: a caught exception of the class at C, its dict at od -/
def ExC (a C : Addr) (od : Option Addr) : HO := .ext fun h => ∃ (oe : Obj) (vs : Array Value), h.get? a = some oe ∧ oe.cls = .ref C ∧ oe.dict = od ∧ oe.data = .fields vs
/-- the values that an exception has -/
def XdAt (F : Hp) (od : Option Addr) (fs : List (Str × V)) : Prop := (od = none ∧ fs = []) ∨ ∃ dx, od = some dx ∧ F dx = some (.xd fs)
mutual
/-- in the heap F the value v is the data d; every mutable object within stands at an address of N -/
inductive RepG (K : PySem.W.Frag) (T : Tb) (N : Addr → Prop) (F : Hp) : V → D → Prop
  | non : RepG K T N F .non .non
  | bl (b : Bool) : RepG K T N F (.bl b) (.bl b)
  | int (i : Int) : RepG K T N F (.int i) (.int i)
  | str (s : Str) : RepG K T N F (.str s) (.str s)
  | tup {a : Addr} {vs : List V} {ds : List D} : F a = some (.tup vs) → RepsG K T N F vs ds → RepG K T N F (.ref a) (.tup ds)
  | lst {a : Addr} {vs : List V} {ds : List D} : F a = some (.lst vs) → N a → RepsG K T N F vs ds → RepG K T N F (.ref a) (.lst ds)
  | scr {a : Addr} {vs : List V} {ds : List D} : SqS K F a vs → RepsG K T N F vs ds → RepG K T N F (.ref a) (.scr ds)
  | ins {a dx : Addr} {c : Nat} {fs : List (Str × V)} {ds : List D} : F a = some (.ins (T c).1 dx fs) → N a → fs.map (·.1) = (T c).2 → RepsG K T N F (fs.map (·.2)) ds → RepG K T N F (.ref a) (.ins c ds)
  | dic {a : Addr} {kvs : List (Key × V)} {ds : List D} : F a = some (.dK kvs) → N a → RepsG K T N F (kvs.map (·.2)) ds → RepG K T N F (.ref a) (.dic (kvs.map (·.1)) ds)
  | dit {a : Addr} {kvs : List (List Key × V)} {ds : List D} : F a = some (.dT kvs) → N a → RepsG K T N F (kvs.map (·.2)) ds → RepG K T N F (.ref a) (.dit (kvs.map (·.1)) ds)
  | exn {a : Addr} {c : Nat} {od : Option Addr} {fs : List (Str × V)} {ds : List D} : F a = some (ExC a (T c).1 od) → XdAt F od fs → fs.map (·.1) = (T c).2 → RepsG K T N F (fs.map (·.2)) ds → RepG K T N F (.ref a) (.exn c ds)
inductive RepsG (K : PySem.W.Frag) (T : Tb) (N : Addr → Prop) (F : Hp) : List V → List D → Prop
  | nil : RepsG K T N F [] []
  | cons {v : V} {vs : List V} {d : D} {ds : List D} : RepG K T N F v d → RepsG K T N F vs ds → RepsG K T N F (v :: vs) (d :: ds)
end

section
variable {K : PySem.W.Frag} {T : Tb} {N N' : Addr → Prop} {F F' : Hp}
theorem sm_rd {a : Addr} {u : HO} (e : Sm F F') (h : Rd F a u) (n : isT u = false := by rfl) : Rd F' a u := by
  rcases h with h | ⟨o, h⟩
  · exact .inl (e _ _ h)
  · exact .inr ⟨o, e _ _ h⟩
theorem same_rd {a : Addr} {u : HO} (e : Same F F') (h : Rd F a u) : Rd F' a u := by
  rcases h with h | ⟨o, h⟩
  · exact .inl (e _ _ h)
  · exact .inr ⟨o, e _ _ h⟩
theorem sm_sqT {a : Addr} {xs : List V} (e : Sm F F') (h : SqT K F a xs) : SqT K F' a xs := by
  rcases h with h | h
  · exact .inl (sm_rd e h)
  · exact .inr h
theorem same_sqT {a : Addr} {xs : List V} (e : Same F F') (h : SqT K F a xs) : SqT K F' a xs := sm_sqT e.sm h
theorem sm_sqS {a : Addr} {xs : List V} (e : Sm F F') (h : SqS K F a xs) : SqS K F' a xs := by
  rcases h with ⟨o, h⟩ | h
  · exact .inl ⟨o, e _ _ h⟩
  · exact .inr h
theorem same_sqS {a : Addr} {xs : List V} (e : Same F F') (h : SqS K F a xs) : SqS K F' a xs := sm_sqS e.sm h
theorem XdAt.monoS {od : Option Addr} {fs : List (Str × V)} (e : Sm F F') (h : XdAt F od fs) : XdAt F' od fs := by
  rcases h with h | ⟨dx, h1, h2⟩
  · exact .inl h
  · exact .inr ⟨dx, h1, e _ _ h2⟩
mutual
theorem RepG.monoS (e : Sm F F') (hn : ∀ a, N a → N' a) : ∀ {v : V} {d : D}, RepG K T N F v d → RepG K T N' F' v d
  | _, _, .non => .non
  | _, _, .bl b => .bl b
  | _, _, .int b => .int b
  | _, _, .str b => .str b
  | _, _, .tup h r => .tup (e _ _ h) (RepsG.monoS e hn r)
  | _, _, .lst h n r => .lst (e _ _ h) (hn _ n) (RepsG.monoS e hn r)
  | _, _, .scr h r => .scr (sm_sqS e h) (RepsG.monoS e hn r)
  | _, _, .ins h n q r => .ins (e _ _ h) (hn _ n) q (RepsG.monoS e hn r)
  | _, _, .dic h n r => .dic (e _ _ h) (hn _ n) (RepsG.monoS e hn r)
  | _, _, .dit h n r => .dit (e _ _ h) (hn _ n) (RepsG.monoS e hn r)
  | _, _, .exn h x q r => .exn (e _ _ h) (x.monoS e) q (RepsG.monoS e hn r)
theorem RepsG.monoS (e : Sm F F') (hn : ∀ a, N a → N' a) : ∀ {vs : List V} {ds : List D}, RepsG K T N F vs ds → RepsG K T N' F' vs ds
  | _, _, .nil => .nil
  | _, _, .cons h r => .cons (RepG.monoS e hn h) (RepsG.monoS e hn r)
end
theorem RepG.mono (e : Same F F') (hn : ∀ a, N a → N' a) {v : V} {d : D} (h : RepG K T N F v d) : RepG K T N' F' v d := h.monoS e.sm hn
theorem RepsG.mono (e : Same F F') (hn : ∀ a, N a → N' a) {vs : List V} {ds : List D} (h : RepsG K T N F vs ds) : RepsG K T N' F' vs ds := h.monoS e.sm hn
/-- the heap without the addresses of S -/
noncomputable def cut (F : Hp) (S : Addr → Prop) : Hp := fun b => open Classical in if S b then none else F b
theorem cut_in {S : Addr → Prop} {b : Addr} (h : S b) : cut F S b = none := by unfold cut; rw [if_pos h]
theorem cut_out {S : Addr → Prop} {b : Addr} (h : ¬ S b) : cut F S b = F b := by unfold cut; rw [if_neg h]
section
variable {S : Addr → Prop}
theorem cut_sqT (hT : ∀ a o, F a = some o → isMut o = false → ¬ S a) {a : Addr} {xs : List V} (h : SqT K F a xs) : SqT K (cut F S) a xs := by
  rcases h with h | h
  · refine .inl ?_
    rcases h with h | ⟨o, h⟩
    · exact .inl (by rw [cut_out (hT a _ h rfl)]; exact h)
    · exact .inr ⟨o, by rw [cut_out (hT a _ h rfl)]; exact h⟩
  · exact .inr h
theorem cut_sqS (hT : ∀ a o, F a = some o → isMut o = false → ¬ S a) {a : Addr} {xs : List V} (h : SqS K F a xs) : SqS K (cut F S) a xs := by
  rcases h with ⟨o, h⟩ | h
  · exact .inl ⟨o, by rw [cut_out (hT a _ h rfl)]; exact h⟩
  · exact .inr h
theorem XdAt.cut (hT : ∀ a o, F a = some o → isMut o = false → ¬ S a) {od : Option Addr} {fs : List (Str × V)} (h : XdAt F od fs) : XdAt (DL.cut F S) od fs := by
  rcases h with h | ⟨dx, h1, h2⟩
  · exact .inl h
  · exact .inr ⟨dx, h1, by rw [cut_out (hT _ _ h2 rfl)]; exact h2⟩
mutual
theorem RepG.cut (hn : ∀ a, N a → ¬ S a) (hT : ∀ a o, F a = some o → isMut o = false → ¬ S a) : ∀ {v : V} {d : D}, RepG K T N F v d → RepG K T N (cut F S) v d
  | _, _, .non => .non
  | _, _, .bl b => .bl b
  | _, _, .int b => .int b
  | _, _, .str b => .str b
  | _, _, .tup h r => .tup (by rw [cut_out (hT _ _ h rfl)]; exact h) (RepsG.cut hn hT r)
  | _, _, .lst h n r => .lst (by rw [cut_out (hn _ n)]; exact h) n (RepsG.cut hn hT r)
  | _, _, .scr h r => .scr (cut_sqS hT h) (RepsG.cut hn hT r)
  | _, _, .ins h n q r => .ins (by rw [cut_out (hn _ n)]; exact h) n q (RepsG.cut hn hT r)
  | _, _, .dic h n r => .dic (by rw [cut_out (hn _ n)]; exact h) n (RepsG.cut hn hT r)
  | _, _, .dit h n r => .dit (by rw [cut_out (hn _ n)]; exact h) n (RepsG.cut hn hT r)
  | _, _, .exn h x q r => .exn (by rw [cut_out (hT _ _ h rfl)]; exact h) (x.cut hT) q (RepsG.cut hn hT r)
theorem RepsG.cut (hn : ∀ a, N a → ¬ S a) (hT : ∀ a o, F a = some o → isMut o = false → ¬ S a) : ∀ {vs : List V} {ds : List D}, RepsG K T N F vs ds → RepsG K T N (cut F S) vs ds
  | _, _, .nil => .nil
  | _, _, .cons h r => .cons (RepG.cut hn hT h) (RepsG.cut hn hT r)
end
end
theorem RepsG.length : ∀ {vs : List V} {ds : List D}, RepsG K T N F vs ds → vs.length = ds.length
  | _, _, .nil => rfl
  | _, _, .cons _ r => by rw [List.length_cons, List.length_cons, r.length]
theorem RepsG.get : ∀ {vs : List V} {ds : List D} {i : Nat} {d : D}, RepsG K T N F vs ds → ds[i]? = some d → ∃ v, vs[i]? = some v ∧ RepG K T N F v d
  | _, _, _, _, .nil, e => by simp at e
  | _, _, 0, _, .cons h _, e => by simp at e; subst e; exact ⟨_, rfl, h⟩
  | _, _, i + 1, _, .cons _ r, e => by
    obtain ⟨v, h1, h2⟩ := RepsG.get (i := i) r (by simpa using e)
    exact ⟨v, by simpa using h1, h2⟩
theorem RepsG.get' : ∀ {vs : List V} {ds : List D} {i : Nat} {v : V}, RepsG K T N F vs ds → vs[i]? = some v → ∃ d, ds[i]? = some d ∧ RepG K T N F v d
  | _, _, _, _, .nil, e => by simp at e
  | _, _, 0, _, .cons h _, e => by simp at e; subst e; exact ⟨_, rfl, h⟩
  | _, _, i + 1, _, .cons _ r, e => by
    obtain ⟨v, h1, h2⟩ := RepsG.get' (i := i) r (by simpa using e)
    exact ⟨v, by simpa using h1, h2⟩
theorem RepsG.append : ∀ {vs ws : List V} {ds es : List D}, RepsG K T N F vs ds → RepsG K T N F ws es → RepsG K T N F (vs ++ ws) (ds ++ es)
  | _, _, _, _, .nil, s => s
  | _, _, _, _, .cons h r, s => .cons h (r.append s)
theorem RepsG.set {v : V} {d : D} (h : RepG K T N F v d) : ∀ {vs : List V} {ds : List D} (i : Nat), RepsG K T N F vs ds → RepsG K T N F (vs.set i v) (ds.set i d)
  | _, _, _, .nil => .nil
  | _, _, 0, .cons _ r => .cons h r
  | _, _, i + 1, .cons q r => .cons q (RepsG.set h i r)
theorem RepsG.take : ∀ {vs : List V} {ds : List D} (n : Nat), RepsG K T N F vs ds → RepsG K T N F (vs.take n) (ds.take n)
  | _, _, 0, _ => .nil
  | _, _, _ + 1, .nil => .nil
  | _, _, n + 1, .cons h r => .cons h (RepsG.take n r)
theorem RepsG.drop : ∀ {vs : List V} {ds : List D} (n : Nat), RepsG K T N F vs ds → RepsG K T N F (vs.drop n) (ds.drop n)
  | _, _, 0, r => r
  | _, _, _ + 1, .nil => .nil
  | _, _, n + 1, .cons _ r => RepsG.drop n r
theorem RepsG.reverse {vs : List V} {ds : List D} (r : RepsG K T N F vs ds) : RepsG K T N F vs.reverse ds.reverse := by
  induction vs generalizing ds with
  | nil => cases r; exact .nil
  | cons v vs ih =>
    cases r with
    | cons h r =>
      rw [List.reverse_cons, List.reverse_cons]
      exact (ih r).append (.cons h .nil)
end

/-! ### kinds and modes -/
/-- A: nothing mutable within; L: what is mutable within was made since the entry; U: anything -/
inductive Q3 where | A | L | U
deriving DecidableEq
def Q3.le : Q3 → Q3 → Bool
  | .A, _ => true
  | .L, .A => false
  | .L, _ => true
  | .U, .U => true
  | .U, _ => false
def NK (H0 : Hp) : Q3 → Addr → Prop
  | .A => fun _ => False
  | .L => fun a => H0 a = none
  | .U => fun _ => True
theorem NK.le {H0 : Hp} : ∀ {p q : Q3}, p.le q = true → ∀ a, NK H0 p a → NK H0 q a
  | .A, _, _, _, h => h.elim
  | .L, .L, _, _, h => h
  | .L, .U, _, _, _ => trivial
  | .U, .U, _, _, h => h
/-- what an expression gives: q: frozen; B: as the heap stands; bl: a list as it stands, its items frozen; fl: a frozen list; ol: a new list of nobody's -/
inductive Knd where
  | q (q : Q3) | B | bl (q : Q3) | fl (q : Q3) | ol (q : Q3)
deriving DecidableEq
/-- a field of an own instance: frozen, or a list of its own -/
inductive FM where
  | fz (q : Q3) | ow (q : Q3)
deriving DecidableEq
/-- what is owned, beside lists: a list of own lists; an instance being made; a dict -/
inductive Shp where
  | tbl (q : Q3) | ins (c : Nat) (ms : List FM) | dic (q : Q3) | dit (q : Q3) | ldk (q : Q3) | ldt (q : Q3) | lkl (q : Q3) | odn (q : Q3) | prm (q : Q3)
deriving DecidableEq
inductive Mode where
  | no | fz (q : Q3) | fl (q : Q3) | ow (q : Q3) | os (S : Shp)
deriving DecidableEq
abbrev Own := Nat → Addr → Prop
/-- the heap at the entry; the instance that is being made (where there is one) -/
structure HZ where
  h : Hp
  z : Addr
  l : List V
instance : CoeOut HZ Hp := ⟨HZ.h⟩

section
variable (K : PySem.W.Frag) (T : Tb) (H0 : Hp)
abbrev Rq (q : Q3) (F : Hp) : V → D → Prop := RepG K T (NK H0 q) F
abbrev Rqs (q : Q3) (F : Hp) : List V → List D → Prop := RepsG K T (NK H0 q) F
abbrev RU (F : Hp) : V → D → Prop := RepG K T (fun _ => True) F
abbrev RUs (F : Hp) : List V → List D → Prop := RepsG K T (fun _ => True) F
def Rp (F H : Hp) (O : Own) : Knd → V → D → Prop
  | .q k, v, d => Rq K T H0 k F v d
  | .B, v, d => RU K T H v d
  | .bl k, v, d => ∃ a vs ds, v = .ref a ∧ d = .lst ds ∧ H a = some (.lst vs) ∧ Rqs K T H0 k F vs ds
  | .fl k, v, d => ∃ a vs ds, v = .ref a ∧ d = .lst ds ∧ F a = some (.lst vs) ∧ Rqs K T H0 k F vs ds
  | .ol k, v, d => ∃ a vs ds, v = .ref a ∧ d = .lst ds ∧ H a = some (.lst vs) ∧ F a = none ∧ (∀ i, ¬ O i a) ∧ Rqs K T H0 k F vs ds
/-- the rows of an own table -/
def RowsR (q : Q3) (F H : Hp) (o : Addr → Prop) : List Addr → List (List D) → Prop := Paired fun b ds => o b ∧ ∃ vs, H b = some (.lst vs) ∧ Rqs K T H0 q F vs ds
def FieldR (F H : Hp) (o : Addr → Prop) (v : V) (d : D) : FM → Prop
  | .fz q => Rq K T H0 q F v d
  | .ow q => ∃ b vs es, v = .ref b ∧ d = .lst es ∧ H b = some (.lst vs) ∧ o b ∧ Rqs K T H0 q F vs es
def FieldsR (F H : Hp) (o : Addr → Prop) : List FM → List V → List D → Prop
  | [], [], [] => True
  | m :: ms, v :: vs, d :: ds => FieldR K T H0 F H o v d m ∧ FieldsR F H o ms vs ds
  | _, _, _ => False
end
section
variable (K : PySem.W.Frag) (T : Tb) (H0 : HZ)
def OwnS (F H : Hp) (o : Addr → Prop) (v : V) (d : D) : Shp → Prop
  | .tbl q => ∃ a rows rds, v = .ref a ∧ d = .lst (rds.map .lst) ∧ H a = some (.lst (rows.map .ref)) ∧ o a ∧ rows.Nodup ∧ a ∉ rows ∧ RowsR K T H0 q F H o rows rds
  | .ins c ms => ∃ a dx fs ds, v = .ref a ∧ d = .ins c ds ∧ H a = some (.ins (T c).1 dx fs) ∧ o a ∧ a = H0.z ∧ fs.map (·.1) = (T c).2.take ds.length ∧ FieldsR K T H0 F H o ms (fs.map (·.2)) ds
  | .dic q => ∃ a kvs ds, v = .ref a ∧ d = .dic (kvs.map (·.1)) ds ∧ H a = some (.dK kvs) ∧ o a ∧ Rqs K T H0 q F (kvs.map (·.2)) ds
  | .dit q => ∃ a kvs ds, v = .ref a ∧ d = .dit (kvs.map (·.1)) ds ∧ H a = some (.dT kvs) ∧ o a ∧ Rqs K T H0 q F (kvs.map (·.2)) ds
  | .ldk q => ∃ od kvs ds, v = .ref H0.z ∧ d = .dic (kvs.map (·.1)) ds ∧ F H0.z = some (.frz od (.dK kvs)) ∧ Rqs K T H0 q F (kvs.map (·.2)) ds
  | .ldt q => ∃ od kvs ds, v = .ref H0.z ∧ d = .dit (kvs.map (·.1)) ds ∧ F H0.z = some (.frz od (.dT kvs)) ∧ Rqs K T H0 q F (kvs.map (·.2)) ds
  | .lkl q => ∃ ds, v = .ref H0.z ∧ d = .lst ds ∧ H H0.z = some (.lst H0.l) ∧ o H0.z ∧ Rqs K T H0 q F H0.l ds
  | .odn q => (v = .non ∧ d = .non) ∨ ∃ a kvs ds, v = .ref a ∧ d = .dic (kvs.map (·.1)) ds ∧ H a = some (.dK kvs) ∧ o a ∧ Rqs K T H0 q F (kvs.map (·.2)) ds
  | .prm q => ∃ vs ds, v = .ref H0.z ∧ d = .lst ds ∧ F H0.z = some (.lst vs) ∧ Rqs K T H0 q F vs ds
def SlotR (F H : Hp) (o : Addr → Prop) (sv : Option (Option V)) (dv : Option D) : Mode → Prop
  | .no => True
  | .fz k => ∃ v d, sv = some (some v) ∧ dv = some d ∧ Rq K T H0 k F v d
  | .fl k => ∃ a vs ds, sv = some (some (.ref a)) ∧ dv = some (.lst ds) ∧ F a = some (.lst vs) ∧ Rqs K T H0 k F vs ds
  | .ow k => ∃ a vs ds, sv = some (some (.ref a)) ∧ dv = some (.lst ds) ∧ H a = some (.lst vs) ∧ o a ∧ Rqs K T H0 k F vs ds
  | .os S => ∃ v d, sv = some (some v) ∧ dv = some d ∧ OwnS K T H0 F H o v d S
/-- the frame's slots σ and the heap H are the data ρ, by the modes Γ: F is what never changes, O what the slots own -/
structure Rl (Γ : List Mode) (F : Hp) (O : Own) (σ : L2.St) (H : Hp) (ρ : List D) : Prop where
  h0 : Same H0 F
  fh : Same F H
  on : ∀ i a, O i a → F a = none ∧ ∃ o, H a = some o ∧ isMut o = true
  od : ∀ i j a, O i a → O j a → i = j
  ls : σ.length = Γ.length
  lr : ρ.length = Γ.length
  sl : ∀ i m, Γ[i]? = some m → SlotR K T H0 F H (O i) σ[i]? ρ[i]? m
  nF : NoT F
  tb : LamX.Tabs T.t H
end

section
variable {K : PySem.W.Frag} {T : Tb} {H0 : HZ} {F F' H H' : Hp} {O O' : Own} {σ : L2.St} {ρ : List D} {Γ Γ' : List Mode} {q : Q3}
theorem Rl.U_of (R : Rl K T H0 Γ F O σ H ρ) {v : V} {d : D} (h : Rq K T H0 q F v d) : RU K T H v d := h.mono R.fh fun _ _ => trivial
theorem Rl.Us_of (R : Rl K T H0 Γ F O σ H ρ) {v : List V} {d : List D} (h : Rqs K T H0 q F v d) : RUs K T H v d := h.mono R.fh fun _ _ => trivial
/-- any kind as the heap stands -/
theorem Rl.toB (R : Rl K T H0 Γ F O σ H ρ) {k : Knd} {v : V} {d : D} (h : Rp K T H0 F H O k v d) : RU K T H v d := by
  cases k with
  | q k => exact R.U_of h
  | B => exact h
  | bl k =>
    obtain ⟨a, vs, ds, rfl, rfl, h1, h2⟩ := h
    exact .lst h1 trivial (R.Us_of h2)
  | fl k =>
    obtain ⟨a, vs, ds, rfl, rfl, h1, h2⟩ := h
    exact .lst (R.fh _ _ h1) trivial (R.Us_of h2)
  | ol k =>
    obtain ⟨a, vs, ds, rfl, rfl, h1, _, _, h2⟩ := h
    exact .lst h1 trivial (R.Us_of h2)
theorem _root_.L2.Same.rq (e : Same F F') {v : V} {d : D} (h : Rq K T H0 q F v d) : Rq K T H0 q F' v d := h.mono e fun _ h => h
theorem _root_.L2.Same.rqs (e : Same F F') {v : List V} {d : List D} (h : Rqs K T H0 q F v d) : Rqs K T H0 q F' v d := h.mono e fun _ h => h
theorem _root_.L2.Same.rU (e : Same F F') {v : V} {d : D} (h : RU K T F v d) : RU K T F' v d := h.mono e fun _ h => h
theorem _root_.L2.Same.rUs (e : Same F F') {v : List V} {d : List D} (h : RUs K T F v d) : RUs K T F' v d := h.mono e fun _ h => h
theorem Sm.rU (e : Sm F F') {v : V} {d : D} (h : RU K T F v d) : RU K T F' v d := h.monoS e fun _ h => h
theorem Sm.rUs (e : Sm F F') {v : List V} {d : List D} (h : RUs K T F v d) : RUs K T F' v d := h.monoS e fun _ h => h
/-- what lasts while more is reckoned -/
def Knd.pers : Knd → Bool
  | .ol _ => false
  | _ => true
theorem Rp.pers {k : Knd} (hk : k.pers = true) (e : Same F F') (e' : Sm H H') {v : V} {d : D} (h : Rp K T H0 F H O k v d) : Rp K T H0 F' H' O k v d := by
  cases k with
  | q k => exact e.rq h
  | B => exact e'.rU h
  | bl k =>
    obtain ⟨a, vs, ds, rfl, rfl, h1, h2⟩ := h
    exact ⟨a, vs, ds, rfl, rfl, e' _ _ h1, e.rqs h2⟩
  | fl k =>
    obtain ⟨a, vs, ds, rfl, rfl, h1, h2⟩ := h
    exact ⟨a, vs, ds, rfl, rfl, e _ _ h1, e.rqs h2⟩
  | ol k => cases hk
theorem RowsR.move {q : Q3} {o o' : Addr → Prop} (e : Same F F') (hH : ∀ a, o a → H' a = H a) (ho : ∀ a, o a → o' a) : ∀ {rows : List Addr} {rds : List (List D)}, RowsR K T H0 q F H o rows rds → RowsR K T H0 q F' H' o' rows rds
  | _, _, .nil => .nil
  | _, _, .cons ⟨h1, vs, h2, h3⟩ r => .cons ⟨ho _ h1, vs, by rw [hH _ h1]; exact h2, e.rqs h3⟩ (RowsR.move e hH ho r)
theorem FieldR.move {o o' : Addr → Prop} (e : Same F F') (hH : ∀ a, o a → H' a = H a) (ho : ∀ a, o a → o' a) {v : V} {d : D} {m : FM} (h : FieldR K T H0 F H o v d m) : FieldR K T H0 F' H' o' v d m := by
  cases m with
  | fz q => exact e.rq h
  | ow q =>
    obtain ⟨b, vs, es, h1, h2, h3, h4, h5⟩ := h
    exact ⟨b, vs, es, h1, h2, by rw [hH _ h4]; exact h3, ho _ h4, e.rqs h5⟩
theorem FieldsR.move {o o' : Addr → Prop} (e : Same F F') (hH : ∀ a, o a → H' a = H a) (ho : ∀ a, o a → o' a) : ∀ {ms : List FM} {vs : List V} {ds : List D}, FieldsR K T H0 F H o ms vs ds → FieldsR K T H0 F' H' o' ms vs ds
  | [], [], [], _ => trivial
  | m :: ms, v :: vs, d :: ds, ⟨h1, h2⟩ => ⟨h1.move e hH ho, FieldsR.move e hH ho h2⟩
  | [], _ :: _, _, h => h.elim
  | [], [], _ :: _, h => h.elim
  | _ :: _, [], _, h => h.elim
  | _ :: _, _ :: _, [], h => h.elim
theorem OwnS.move {S : Shp} {o o' : Addr → Prop} (e : Same F F') (hH : ∀ a, o a → H' a = H a) (ho : ∀ a, o a → o' a) {v : V} {d : D} (h : OwnS K T H0 F H o v d S) : OwnS K T H0 F' H' o' v d S := by
  cases S with
  | tbl q =>
    obtain ⟨a, rows, rds, h1, h2, h3, h4, h5, h6, h7⟩ := h
    exact ⟨a, rows, rds, h1, h2, by rw [hH _ h4]; exact h3, ho _ h4, h5, h6, h7.move e hH ho⟩
  | ins c ms =>
    obtain ⟨a, dx, fs, ds, h1, h2, h3, h4, hz, h5, h6⟩ := h
    exact ⟨a, dx, fs, ds, h1, h2, by rw [hH _ h4]; exact h3, ho _ h4, hz, h5, h6.move e hH ho⟩
  | dic q =>
    obtain ⟨a, kvs, ds, h1, h2, h3, h4, h5⟩ := h
    exact ⟨a, kvs, ds, h1, h2, by rw [hH _ h4]; exact h3, ho _ h4, e.rqs h5⟩
  | dit q =>
    obtain ⟨a, kvs, ds, h1, h2, h3, h4, h5⟩ := h
    exact ⟨a, kvs, ds, h1, h2, by rw [hH _ h4]; exact h3, ho _ h4, e.rqs h5⟩
  | ldk q =>
    obtain ⟨od, kvs, ds, h1, h2, h3, h4⟩ := h
    exact ⟨od, kvs, ds, h1, h2, e _ _ h3, e.rqs h4⟩
  | ldt q =>
    obtain ⟨od, kvs, ds, h1, h2, h3, h4⟩ := h
    exact ⟨od, kvs, ds, h1, h2, e _ _ h3, e.rqs h4⟩
  | lkl q =>
    obtain ⟨ds, h1, h2, h3, h4, h5⟩ := h
    exact ⟨ds, h1, h2, by rw [hH _ h4]; exact h3, ho _ h4, e.rqs h5⟩
  | odn q =>
    rcases h with h | ⟨a, kvs, ds, h1, h2, h3, h4, h5⟩
    · exact .inl h
    · exact .inr ⟨a, kvs, ds, h1, h2, by rw [hH _ h4]; exact h3, ho _ h4, e.rqs h5⟩
  | prm q =>
    obtain ⟨vs, ds, h1, h2, h3, h4⟩ := h
    exact ⟨vs, ds, h1, h2, e _ _ h3, e.rqs h4⟩
/-- the heap grows by what is of no one -/
theorem Rl.grow (R : Rl K T H0 Γ F O σ H ρ) (e : Sm H H') (et : LamX.Tabs T.t H') : Rl K T H0 Γ F O σ H' ρ where
  h0 := R.h0
  nF := R.nF
  tb := et
  fh := Sm.ofF R.nF R.fh e
  on := fun i a h => let ⟨h1, o, h2, h3⟩ := R.on i a h; ⟨h1, o, e _ _ h2 (isT_mut h3), h3⟩
  od := R.od
  ls := R.ls
  lr := R.lr
  sl := fun i m hm => by
    have h := R.sl i m hm
    cases m with
    | no => trivial
    | fz k => exact h
    | fl k => exact h
    | ow k =>
      obtain ⟨a, vs, ds, h1, h2, h3, h4, h5⟩ := h
      exact ⟨a, vs, ds, h1, h2, e _ _ h3, h4, h5⟩
    | os S =>
      obtain ⟨v, d, h1, h2, h3⟩ := h
      exact ⟨v, d, h1, h2, h3.move (.refl _) (fun a ha => by
        obtain ⟨_, o, h4, h5⟩ := R.on i a ha
        rw [e _ _ h4 (isT_mut h5), h4]) fun _ h => h⟩
/-- more is frozen, nothing of what is owned -/
theorem Rl.more (R : Rl K T H0 Γ F O σ H ρ) (e : Same F F') (e' : Same F' H) (n' : NoT F') (ho : ∀ i a, O i a → F' a = none) : Rl K T H0 Γ F' O σ H ρ where
  nF := n'
  tb := R.tb
  h0 := R.h0.trans e
  fh := e'
  on := fun i a h => ⟨ho i a h, (R.on i a h).2⟩
  od := R.od
  ls := R.ls
  lr := R.lr
  sl := fun i m hm => by
    have h := R.sl i m hm
    cases m with
    | no => trivial
    | fz k =>
      obtain ⟨v, d, h1, h2, h3⟩ := h
      exact ⟨v, d, h1, h2, e.rq h3⟩
    | fl k =>
      obtain ⟨a, vs, ds, h1, h2, h3, h4⟩ := h
      exact ⟨a, vs, ds, h1, h2, e _ _ h3, e.rqs h4⟩
    | ow k =>
      obtain ⟨a, vs, ds, h1, h2, h3, h4, h5⟩ := h
      exact ⟨a, vs, ds, h1, h2, h3, h4, e.rqs h5⟩
    | os S =>
      obtain ⟨v, d, h1, h2, h3⟩ := h
      exact ⟨v, d, h1, h2, h3.move e (fun _ _ => rfl) fun _ h => h⟩
theorem NoT.upd {F : Hp} {p : Addr} {o : HO} (n : NoT F) (ho : isT o = false) : NoT (upd F p o) := fun b u e => by
  by_cases hb : b = p
  · subst hb; rw [upd_same] at e; cases e; exact ho
  · rw [upd_ne hb] at e; exact n b u e
theorem NoT.cut {F : Hp} {S : Addr → Prop} (n : NoT F) : NoT (cut F S) := fun b u e => by
  unfold DL.cut at e
  split at e
  · cases e
  · exact n b u e
theorem Rl.growN (R : Rl K T H0 Γ F O σ H ρ) (e : Same H H') : Rl K T H0 Γ F O σ H' ρ := R.grow e.sm (R.tb.ext e)
/-- the tables stay while a mutable thing is changed -/
theorem tabs_up {H : Hp} {a : Addr} {o u : HO} (t : LamX.Tabs T.t H) (ha : H a = some u) (hm : isMut u = true) : LamX.Tabs T.t (upd H a o) := fun p hp => by
  obtain ⟨ps, h1, h2, h3⟩ := t p hp
  have ne : ∀ {b : Addr} {w : HO}, H b = some w → isMut w = false → b ≠ a := fun {b w} e n z => by
    subst z
    rw [ha] at e; cases e
    rw [hm] at n; cases n
  refine ⟨ps, by rw [upd_ne (ne h1 rfl)]; exact h1, h2, fun pos cv hc => ?_⟩
  obtain ⟨c, e1, e2⟩ := h3 pos cv hc
  exact ⟨c, e1, by rw [upd_ne (ne e2 rfl)]; exact e2⟩
/-- a new object at p, frozen at once -/
theorem Rl.laid (R : Rl K T H0 Γ F O σ H ρ) {p : Addr} {o : HO} (hp : H p = none) (ho : isT o = false := by rfl) : Rl K T H0 Γ (upd F p o) O σ (upd H p o) ρ ∧ Same F (upd F p o) ∧ Sm H (upd H p o) := by
  have sH : Same H (upd H p o) := fun b u e => by rw [upd_ne (ne_of_none e hp)]; exact e
  have fp : F p = none := R.fh.free hp
  have sF : Same F (upd F p o) := fun b u e => by rw [upd_ne (ne_of_none e fp)]; exact e
  refine ⟨(R.growN sH).more sF (fun b u e => ?_) (R.nF.upd ho) (fun i a h => ?_), sF, sH.sm⟩
  · by_cases hb : b = p
    · subst hb; rw [upd_same] at e ⊢; exact e
    · rw [upd_ne hb] at e ⊢; exact R.fh _ _ e
  · obtain ⟨h1, u, h2, _⟩ := R.on i a h
    rw [upd_ne (ne_of_none h2 hp)]; exact h1
/-- a new object at p, of no one -/
theorem Rl.junk (R : Rl K T H0 Γ F O σ H ρ) {p : Addr} {o : HO} (hp : H p = none) : Rl K T H0 Γ F O σ (upd H p o) ρ ∧ Sm H (upd H p o) := by
  have sH : Same H (upd H p o) := fun b u e => by rw [upd_ne (ne_of_none e hp)]; exact e
  exact ⟨R.growN sH, sH.sm⟩
theorem Rl.notOwn (R : Rl K T H0 Γ F O σ H ρ) {p : Addr} (hp : H p = none) : ∀ i, ¬ O i p := fun i h => by
  obtain ⟨_, u, h2, _⟩ := R.on i p h
  rw [hp] at h2; cases h2

/-! ### weakening -/
def FM.le : FM → Q3 → Bool
  | .fz p, q => p.le q
  | .ow p, q => p.le q
/-- it may be frozen to that kind (an instance is complete) -/
def Shp.le : Shp → Q3 → Bool
  | .tbl p, q => p.le q
  | .ins _ _, _ => false
  | .dic p, q => p.le q
  | .dit p, q => p.le q
  | .ldk _, _ => false
  | .ldt _, _ => false
  | .lkl _, _ => false
  | .odn p, q => p.le q
  | .prm _, _ => false
theorem rows_frz {q p : Q3} {o : Addr → Prop} (e : Same F F') (hH : ∀ a, o a → F' a = H a) (hl : p.le q = true) (hN : ∀ a, o a → NK H0 q a) : ∀ {rows : List Addr} {rds : List (List D)}, RowsR K T H0 p F H o rows rds → RepsG K T (NK H0 q) F' (rows.map .ref) (rds.map .lst)
  | _, _, .nil => .nil
  | _, _, .cons ⟨h1, vs, h2, h3⟩ r => .cons (.lst (by rw [hH _ h1]; exact h2) (hN _ h1) (h3.mono e (NK.le hl))) (rows_frz e hH hl hN r)
/-- an owned thing is frozen -/
theorem own_frz {S : Shp} {q : Q3} {o : Addr → Prop} (e : Same F F') (hH : ∀ a, o a → F' a = H a) (hl : S.le q = true) (hN : ∀ a, o a → NK H0 q a) {v : V} {d : D} (h : OwnS K T H0 F H o v d S) : RepG K T (NK H0 q) F' v d := by
  cases S with
  | tbl p =>
    obtain ⟨a, rows, rds, h1, h2, h3, h4, h5, h6, h7⟩ := h
    subst h1; subst h2
    exact .lst (by rw [hH _ h4]; exact h3) (hN _ h4) (rows_frz e hH hl hN h7)
  | ins c ms => cases hl
  | dic p =>
    obtain ⟨a, kvs, ds, h1, h2, h3, h4, h5⟩ := h
    subst h1; subst h2
    exact .dic (by rw [hH _ h4]; exact h3) (hN _ h4) (h5.mono e (NK.le hl))
  | dit p =>
    obtain ⟨a, kvs, ds, h1, h2, h3, h4, h5⟩ := h
    subst h1; subst h2
    exact .dit (by rw [hH _ h4]; exact h3) (hN _ h4) (h5.mono e (NK.le hl))
  | ldk p => cases hl
  | ldt p => cases hl
  | lkl p => cases hl
  | prm p => cases hl
  | odn p =>
    rcases h with ⟨h1, h2⟩ | ⟨a, kvs, ds, h1, h2, h3, h4, h5⟩
    · subst h1; subst h2; exact .non
    · subst h1; subst h2
      exact .dic (by rw [hH _ h4]; exact h3) (hN _ h4) (h5.mono e (NK.le hl))
/-- a dict may pass for a dict or None -/
def shN : Shp → Shp → Bool
  | .dic p, .odn q => decide (p = q)
  | _, _ => false
def shW (S S' : Shp) : Bool := decide (S = S') || shN S S'
open Classical in
theorem shW_iff {S S' : Shp} (h : shW S S' = true) : S' = S ∨ ∃ p, S = .dic p ∧ S' = .odn p := by
  unfold shW at h
  rw [Bool.or_eq_true] at h
  rcases h with h | h
  · exact .inl (of_decide_eq_true h).symm
  · cases S <;> first | (cases h; done) | skip
    cases S' <;> first | (cases h; done) | skip
    exact .inr ⟨_, rfl, by rw [of_decide_eq_true h]⟩
def wkM : Mode → Mode → Bool
  | _, .no => true
  | .fz p, .fz q => p.le q
  | .fl p, .fl q => p.le q
  | .fl _, .fz .U => true
  | .ow p, .ow q => p.le q
  | .ow p, .fl q => p.le q
  | .ow p, .fz .L => p.le .L
  | .ow _, .fz .U => true
  | .os S, .os S' => shW S S'
  | .os S, .fz .L => S.le .L
  | .os S, .fz .U => S.le .U
  | _, _ => false
def isOw : Option Mode → Bool
  | some (.ow _) => true
  | some (.os _) => true
  | _ => false
def Wk (K : PySem.W.Frag) (T : Tb) (H0 : HZ) (Γ Γ' : List Mode) : Prop := ∀ F O σ H ρ, Rl K T H0 Γ F O σ H ρ → ∃ F' O', Same F F' ∧ Rl K T H0 Γ' F' O' σ H ρ
def wkAll : List Mode → List Mode → Bool
  | [], [] => true
  | m :: r, m' :: r' => wkM m m' && wkAll r r'
  | _, _ => false
theorem wkAll.len : ∀ {Γ Γ' : List Mode}, wkAll Γ Γ' = true → Γ.length = Γ'.length
  | [], [], _ => rfl
  | m :: r, m' :: r', h => by
    unfold wkAll at h
    rw [Bool.and_eq_true] at h
    rw [List.length_cons, List.length_cons, wkAll.len h.2]
theorem wkAll.get : ∀ {Γ Γ' : List Mode} {i : Nat} {m' : Mode}, wkAll Γ Γ' = true → Γ'[i]? = some m' → ∃ m, Γ[i]? = some m ∧ wkM m m' = true
  | [], [], _, _, _, e => by simp at e
  | m :: r, m' :: r', 0, _, h, e => by
    unfold wkAll at h
    rw [Bool.and_eq_true] at h
    simp at e; subst e
    exact ⟨m, rfl, h.1⟩
  | m :: r, m' :: r', i + 1, x, h, e => by
    unfold wkAll at h
    rw [Bool.and_eq_true] at h
    obtain ⟨y, h1, h2⟩ := wkAll.get (i := i) h.2 (by simpa using e)
    exact ⟨y, by simpa using h1, h2⟩
theorem wk_of (h : wkAll Γ Γ' = true) : Wk K T H0 Γ Γ' := by
  intro F O σ H ρ R
  classical
  let fr : Addr → Prop := fun b => ∃ i, O i b ∧ isOw Γ'[i]? = false
  let F' : Hp := fun b => if fr b then H b else F b
  have sF : Same F F' := fun b u e => by
    show (if fr b then H b else F b) = some u
    rw [if_neg]
    · exact e
    · rintro ⟨i, hi, _⟩
      rw [(R.on i b hi).1] at e; cases e
  have sH : Same F' H := fun b u e => by
    have e : (if fr b then H b else F b) = some u := e
    split at e
    · exact e
    · exact R.fh _ _ e
  have nF' : NoT F' := fun b u e => by
    have e : (if fr b then H b else F b) = some u := e
    split at e
    · rename_i hb
      obtain ⟨i, hi, _⟩ := hb
      obtain ⟨_, o, h1, h2⟩ := R.on i b hi
      rw [h1] at e; cases e
      exact isT_mut h2
    · exact R.nF _ _ e
  refine ⟨F', fun i a => O i a ∧ isOw Γ'[i]? = true, sF, R.h0.trans sF, sH, fun i a ⟨h1, h2⟩ => ⟨?_, (R.on i a h1).2⟩, fun i j a h1 h2 => R.od i j a h1.1 h2.1, by rw [R.ls, wkAll.len h], by rw [R.lr, wkAll.len h], fun i m' hm' => ?_, nF', R.tb⟩
  · show (if fr a then H a else F a) = none
    rw [if_neg]
    · exact (R.on i a h1).1
    · rintro ⟨j, hj, hn⟩
      have := R.od i j a h1 hj
      subst this
      rw [h2] at hn; cases hn
  · obtain ⟨m, hm, hw⟩ := wkAll.get h hm'
    have s := R.sl i m hm
    have froz : ∀ {a : Addr} {vs : List V}, H a = some (.lst vs) → O i a → isOw (some m') = false → F' a = some (.lst vs) := fun {a vs} h1 h2 h3 => by
      show (if fr a then H a else F a) = _
      rw [if_pos ⟨i, h2, by rw [hm']; exact h3⟩]; exact h1
    have hnew : ∀ {a : Addr}, O i a → H0.h a = none := fun {a} h2 => R.h0.free (R.on i a h2).1
    have frozA : isOw (some m') = false → ∀ a, O i a → F' a = H a := fun h3 a h2 => by
      show (if fr a then H a else F a) = _
      rw [if_pos ⟨i, h2, by rw [hm']; exact h3⟩]
    cases m' with
    | no => trivial
    | fz q =>
      cases m with
      | no => cases hw
      | fz p =>
        obtain ⟨v, d, h1, h2, h3⟩ := s
        exact ⟨v, d, h1, h2, h3.mono sF (NK.le hw)⟩
      | fl p =>
        obtain ⟨a, vs, ds, h1, h2, h3, h4⟩ := s
        cases q with
        | A => cases hw
        | L => cases hw
        | U => exact ⟨_, _, h1, h2, .lst (sF _ _ h3) trivial (h4.mono sF fun _ _ => trivial)⟩
      | ow p =>
        obtain ⟨a, vs, ds, h1, h2, h3, h4, h5⟩ := s
        cases q with
        | A => cases hw
        | L => exact ⟨_, _, h1, h2, .lst (froz h3 h4 rfl) (hnew h4) (h5.mono sF (NK.le hw))⟩
        | U => exact ⟨_, _, h1, h2, .lst (froz h3 h4 rfl) trivial (h5.mono sF fun _ _ => trivial)⟩
      | os S =>
        obtain ⟨v, d, h1, h2, h3⟩ := s
        cases q with
        | A => cases hw
        | L => exact ⟨v, d, h1, h2, own_frz sF (frozA rfl) hw (fun a ha => hnew ha) h3⟩
        | U => exact ⟨v, d, h1, h2, own_frz sF (frozA rfl) hw (fun a ha => trivial) h3⟩
    | fl q =>
      cases m with
      | no => cases hw
      | fz p => cases hw
      | fl p =>
        obtain ⟨a, vs, ds, h1, h2, h3, h4⟩ := s
        exact ⟨_, _, _, h1, h2, sF _ _ h3, h4.mono sF (NK.le hw)⟩
      | ow p =>
        obtain ⟨a, vs, ds, h1, h2, h3, h4, h5⟩ := s
        exact ⟨_, _, _, h1, h2, froz h3 h4 rfl, h5.mono sF (NK.le hw)⟩
      | os S => cases hw
    | ow q =>
      cases m with
      | no => cases hw
      | fz p => cases hw
      | fl p => cases hw
      | ow p =>
        obtain ⟨a, vs, ds, h1, h2, h3, h4, h5⟩ := s
        exact ⟨_, _, _, h1, h2, h3, ⟨h4, by rw [hm']; rfl⟩, h5.mono sF (NK.le hw)⟩
      | os S => cases hw
    | os S =>
      cases m with
      | no => cases hw
      | fz p => cases hw
      | fl p => cases hw
      | ow p => cases hw
      | os S' =>
        obtain ⟨v, d, h1, h2, h3⟩ := s
        refine ⟨v, d, h1, h2, ?_⟩
        have h3 := h3.move (o' := fun a => O i a ∧ isOw Γ'[i]? = true) sF (fun _ _ => rfl) fun a ha => ⟨ha, by rw [hm']; rfl⟩
        have two := shW_iff hw
        rcases two with e | ⟨p, e1, e2⟩
        · rw [e]; exact h3
        · subst e1; subst e2; exact .inr h3
end
end DL

namespace DL
open PySem PySem.Spec PyProof.Rows L2

abbrev EF := List D → Option D
/-- the reading of an expression that computes f -/
def tD (K : PySem.W.Frag) (T : Tb) (H0 : HZ) (Γ : List Mode) (f : EF) (k : Knd) : TE := fun σ H Q =>
  ∃ F O ρ d, Rl K T H0 Γ F O σ H ρ ∧ f ρ = some d ∧ ∀ F' H' v, Rl K T H0 Γ F' O σ H' ρ → Same F F' → Sm H H' → Rp K T H0 F' H' O k v d → Q v H'
abbrev DE (X : Cx) (T : Tb) (H0 : HZ) (Γ : List Mode) (e : Expr) (f : EF) (k : Knd) : Prop := PE X e (tD X.K T H0 Γ f k)
def tDA (K : PySem.W.Frag) (T : Tb) (H0 : HZ) (Γ : List Mode) (f : List D → Option (List D)) : TA := fun σ H Q =>
  ∃ F O ρ ds, Rl K T H0 Γ F O σ H ρ ∧ f ρ = some ds ∧ ∀ F' H' vs, Rl K T H0 Γ F' O σ H' ρ → Same F F' → Sm H H' → RUs K T H' vs ds → Q vs H'
/-- arguments, as the heap stands -/
abbrev DA (X : Cx) (T : Tb) (H0 : HZ) (Γ : List Mode) (es : List Expr) (f : List D → Option (List D)) : Prop := PA X es (tDA X.K T H0 Γ f)
def tDQ (K : PySem.W.Frag) (T : Tb) (H0 : HZ) (Γ : List Mode) (f : List D → Option (List D)) (q : Q3) : TA := fun σ H Q =>
  ∃ F O ρ ds, Rl K T H0 Γ F O σ H ρ ∧ f ρ = some ds ∧ ∀ F' H' vs, Rl K T H0 Γ F' O σ H' ρ → Same F F' → Sm H H' → Rqs K T H0 q F' vs ds → Q vs H'
/-- the items of a display, frozen -/
abbrev DQ (X : Cx) (T : Tb) (H0 : HZ) (Γ : List Mode) (es : List Expr) (f : List D → Option (List D)) (q : Q3) : Prop := PA X es (tDQ X.K T H0 Γ f q)
def tDT (K : PySem.W.Frag) (T : Tb) (H0 : HZ) (Γ : List Mode) (f : List D → Option Bool) : TT := fun σ H Q =>
  ∃ F O ρ b, Rl K T H0 Γ F O σ H ρ ∧ f ρ = some b ∧ ∀ F' H', Rl K T H0 Γ F' O σ H' ρ → Same F F' → Sm H H' → Q b H'
abbrev DT (X : Cx) (T : Tb) (H0 : HZ) (Γ : List Mode) (e : Expr) (f : List D → Option Bool) : Prop := PT X e (tDT X.K T H0 Γ f)
abbrev DW (X : Cx) (T : Tb) (H0 : HZ) (Γ : List Mode) (e : Expr) (f : List D → Option Bool) : Prop := PW X e (tDT X.K T H0 Γ f)

section
variable {X : Cx} {e : Expr} {es : List Expr} {st : Stmt} {sts : List Stmt}
theorem PE.wk {t t' : TE} (h : PE X e t) (i : ∀ σ H Q, t' σ H Q → t σ H Q) : PE X e t' := ⟨fun pins s σ H Q I q => h.run pins s σ H Q I (i _ _ _ q)⟩
theorem PA.wk {t t' : TA} (h : PA X es t) (i : ∀ σ H Q, t' σ H Q → t σ H Q) : PA X es t' := ⟨fun p pins s σ H Q I q => h.run p pins s σ H Q I (i _ _ _ q)⟩
theorem PT.wk {t t' : TT} (h : PT X e t) (i : ∀ σ H Q, t' σ H Q → t σ H Q) : PT X e t' := ⟨fun pins s σ H Q I q => h.run pins s σ H Q I (i _ _ _ q)⟩
theorem PW.wk {t t' : TT} (h : PW X e t) (i : ∀ σ H Q, t' σ H Q → t σ H Q) : PW X e t' := ⟨fun w pins s σ H Q I q => h.run w pins s σ H Q I (i _ _ _ q)⟩
theorem PS.wk {t t' : TS} (h : PS X st t) (i : ∀ D σ H, t' D σ H → t D σ H) : PS X st t' := ⟨fun pins s σ H D I q => h.run pins s σ H D I (i _ _ _ q)⟩
theorem PSs.wk {t t' : TS} (h : PSs X sts t) (i : ∀ D σ H, t' D σ H → t D σ H) : PSs X sts t' := ⟨fun pins s σ H D I q => h.run pins s σ H D I (i _ _ _ q)⟩
end

/-! ### data that is flat, data without mutable things -/
mutual
def D.lf : D → Bool
  | .non => true
  | .bl _ => true
  | .int _ => true
  | .str _ => true
  | .tup ds => D.lfs ds
  | .lst _ => false
  | .scr ds => D.lfs ds
  | .ins _ _ => false
  | .dic _ _ => false
  | .dit _ _ => false
  | .exn _ ds => D.lfs ds
def D.lfs : List D → Bool
  | [] => true
  | d :: ds => D.lf d && D.lfs ds
end
section
variable {K : PySem.W.Frag} {T : Tb} {N N' : Addr → Prop} {F : Hp}
mutual
theorem RepG.lf : ∀ {v : V} {d : D}, RepG K T N F v d → d.lf = true → RepG K T N' F v d
  | _, _, .non, _ => .non
  | _, _, .bl b, _ => .bl b
  | _, _, .int b, _ => .int b
  | _, _, .str b, _ => .str b
  | _, _, .tup h r, e => .tup h (RepsG.lf r (by simpa [D.lf] using e))
  | _, _, .lst h n r, e => by simp [D.lf] at e
  | _, _, .scr h r, e => .scr h (RepsG.lf r (by simpa [D.lf] using e))
  | _, _, .ins h n q r, e => by simp [D.lf] at e
  | _, _, .dic h n r, e => by simp [D.lf] at e
  | _, _, .dit h n r, e => by simp [D.lf] at e
  | _, _, .exn h x q r, e => .exn h x q (RepsG.lf r (by simpa [D.lf] using e))
theorem RepsG.lf : ∀ {vs : List V} {ds : List D}, RepsG K T N F vs ds → D.lfs ds = true → RepsG K T N' F vs ds
  | _, _, .nil, _ => .nil
  | _, _, .cons h r, e => by
    simp only [D.lfs, Bool.and_eq_true] at e
    exact .cons (RepG.lf h e.1) (RepsG.lf r e.2)
end
end

/-- data of one value that needs no heap -/
def atomV : D → Option V
  | .non => some .non
  | .bl b => some (.bl b)
  | .int i => some (.int i)
  | .str s => some (.str s)
  | _ => none
theorem atom_rep {K : PySem.W.Frag} {T : Tb} {N : Addr → Prop} {F : Hp} : ∀ {d : D} {v : V}, atomV d = some v → RepG K T N F v d
  | .non, _, h => by cases h; exact .non
  | .bl b, _, h => by cases h; exact .bl b
  | .int b, _, h => by cases h; exact .int b
  | .str b, _, h => by cases h; exact .str b
  | .tup _, _, h => nomatch h
  | .lst _, _, h => nomatch h
  | .scr _, _, h => nomatch h
  | .ins _ _, _, h => nomatch h
  | .dic _ _, _, h => nomatch h
  | .dit _ _, _, h => nomatch h
  | .exn _ _, _, h => nomatch h

/-! ### the combinators -/
def eK (d : D) : EF := fun _ => some d
def eV (i : Nat) : EF := fun ρ => ρ[i]?
def e1 (g : D → Option D) (a : EF) : EF := fun ρ => (a ρ).bind g
def e2 (g : D → D → Option D) (a b : EF) : EF := fun ρ => (a ρ).bind fun x => (b ρ).bind fun y => g x y
/-- as data without mutable things -/
def eA (a : EF) : EF := fun ρ => (a ρ).bind fun d => if d.lf = true then some d else none
def aNil : List D → Option (List D) := fun _ => some []
def aCons (a : EF) (r : List D → Option (List D)) : List D → Option (List D) := fun ρ => (a ρ).bind fun x => (r ρ).bind fun xs => some (x :: xs)
def t2b (a : EF) : List D → Option Bool := fun ρ => (a ρ).bind fun d => match d with | .bl b => some b | _ => none
def b2e (a : List D → Option Bool) : EF := fun ρ => (a ρ).bind fun b => some (.bl b)
def bAnd (a b : List D → Option Bool) : List D → Option Bool := fun ρ => (a ρ).bind fun c => if c = true then b ρ else some false
def bOr (a b : List D → Option Bool) : List D → Option Bool := fun ρ => (a ρ).bind fun c => if c = true then some true else b ρ
def bNot (a : List D → Option Bool) : List D → Option Bool := fun ρ => (a ρ).bind fun c => some (!c)
def eIf (t : List D → Option Bool) (a b : EF) : EF := fun ρ => (t ρ).bind fun c => if c = true then a ρ else b ρ
def i2 (g : Int → Int → Option D) : D → D → Option D
  | .int i, .int j => g i j
  | _, _ => none
def i1 (g : Int → Option D) : D → Option D
  | .int i => g i
  | _ => none
/-- below 2 ^ n; no sum of a letter and a great number stands in a test, for the kernel's sake -/
def small (n : Nat) (i : Int) : Prop := i.natAbs.log2 < n
instance (n : Nat) (i : Int) : Decidable (small n i) := Nat.decLt _ _
theorem small_lt {n : Nat} {i : Int} (h : small n i) : i.natAbs < 2 ^ n := by
  unfold small at h
  by_cases h0 : i.natAbs = 0
  · rw [h0]; exact Nat.two_pow_pos n
  · exact (Nat.log2_lt h0).mp h
theorem small_of {n : Nat} {i : Int} (hn : 0 < n) (h : i.natAbs < 2 ^ n) : small n i := PySem.Flt.log2_lt_of hn h
def mulOk (i j : Int) : Prop := small 64 i ∨ small 64 j ∨ i.natAbs.log2 + j.natAbs.log2 < 1000000
instance (i j : Int) : Decidable (mulOk i j) := by unfold mulOk; infer_instance
theorem mulOk_C {i j : Int} (h : mulOk i j) : CMul i j ∨ CMulW i j := by
  have e : (2 : Nat) ^ 64 = 18446744073709551616 := by decide
  have e2 : (2 : Int) ^ 64 = 18446744073709551616 := by decide
  rcases h with h | h | h
  · have := small_lt h
    rw [e] at this
    exact .inl (.inl ⟨by rw [e2]; omega, by rw [e2]; omega⟩)
  · have := small_lt h
    rw [e] at this
    exact .inl (.inr ⟨by rw [e2]; omega, by rw [e2]; omega⟩)
  · exact .inr h
def gAdd (x y : D) : Option D := i2 (fun i j => some (.int (i + j))) x y
def gSbI (x y : D) : Option D := i2 (fun i j => some (.int (i - j))) x y
def gMul (x y : D) : Option D := i2 (fun i j => if mulOk i j then some (.int (i * j)) else none) x y
def gDiv (x y : D) : Option D := i2 (fun i j => if 0 < j ∧ small 9000 j then some (.int (i / j)) else none) x y
def gMod (x y : D) : Option D := i2 (fun i j => if 0 < j then some (.int (i % j)) else none) x y
def gPow (x y : D) : Option D := i2 (fun i j => if 0 ≤ j ∧ small 10 j ∧ small 64 i then some (.int (i ^ j.toNat)) else none) x y
def gAnd (x y : D) : Option D := i2 (fun i j => some (.int (Builtin.bitAnd i j))) x y
def gOr (x y : D) : Option D := i2 (fun i j => some (.int (Builtin.bitOr i j))) x y
def gXor (x y : D) : Option D := i2 (fun i j => some (.int (Builtin.bitXor i j))) x y
def gNeg (x : D) : Option D := i1 (fun i => some (.int (-i))) x
def gLt (x y : D) : Option D := i2 (fun i j => some (.bl (decide (i < j)))) x y
def gLe (x y : D) : Option D := i2 (fun i j => some (.bl (decide (i ≤ j)))) x y
def gGt (x y : D) : Option D := i2 (fun i j => some (.bl (decide (j < i)))) x y
def gGe (x y : D) : Option D := i2 (fun i j => some (.bl (decide (j ≤ i)))) x y
/-- == of scalars of one kind -/
def gEqS : D → D → Option D
  | .int i, .int j => some (.bl (decide (i = j)))
  | .bl i, .bl j => some (.bl (decide (i = j)))
  | .str i, .str j => some (.bl (decide (i = j)))
  | _, _ => none
def gNeS : D → D → Option D
  | .int i, .int j => some (.bl (!decide (i = j)))
  | .bl i, .bl j => some (.bl (!decide (i = j)))
  | .str i, .str j => some (.bl (!decide (i = j)))
  | _, _ => none

section
variable {X : Cx} {T : Tb} {H0 : HZ} {Γ : List Mode} {e a b : Expr} {es : List Expr} {f fa fb : EF} {k ka kb : Knd} {pos : Pos} {q : Q3}
theorem de_int {i : Int} {j} : DE X T H0 Γ (.Constant (.int i) j pos) (eK (.int i)) (.q q) := PE.wk pe_int fun σ H Q ⟨F, O, ρ, d, R, hf, hq⟩ => by
  cases hf; exact hq F H _ R (.refl _) (.refl _) (.int i)
theorem de_bl {i : Bool} {j} : DE X T H0 Γ (.Constant (.bool i) j pos) (eK (.bl i)) (.q q) := PE.wk pe_bl fun σ H Q ⟨F, O, ρ, d, R, hf, hq⟩ => by
  cases hf; exact hq F H _ R (.refl _) (.refl _) (.bl i)
theorem de_str {i : Str} {j} : DE X T H0 Γ (.Constant (.str i) j pos) (eK (.str i)) (.q q) := PE.wk pe_str fun σ H Q ⟨F, O, ρ, d, R, hf, hq⟩ => by
  cases hf; exact hq F H _ R (.refl _) (.refl _) (.str i)
theorem de_non {j} : DE X T H0 Γ (.Constant .none j pos) (eK .non) (.q q) := PE.wk pe_non fun σ H Q ⟨F, O, ρ, d, R, hf, hq⟩ => by
  cases hf; exact hq F H _ R (.refl _) (.refl _) .non
/-- a global whose value is an int -/
theorem de_gint {x : Str} {i : Int} {u : Value} (hg : Gl X x) (hm : X.mg x = some u) (r : RelV (.int i) u) (hd : (x == ("__debug__" : Str)) = false := by decide) : DE X T H0 Γ (.Name x pos) (eK (.int i)) (.q q) :=
  PE.wk (pe_glob hg hm r hd) fun σ H Q ⟨F, O, ρ, d, R, hf, hq⟩ => by cases hf; exact hq F H _ R (.refl _) (.refl _) (.int i)
theorem de_gstr {x : Str} {i : Str} {u : Value} (hg : Gl X x) (hm : X.mg x = some u) (r : RelV (.str i) u) (hd : (x == ("__debug__" : Str)) = false := by decide) : DE X T H0 Γ (.Name x pos) (eK (.str i)) (.q q) :=
  PE.wk (pe_glob hg hm r hd) fun σ H Q ⟨F, O, ρ, d, R, hf, hq⟩ => by cases hf; exact hq F H _ R (.refl _) (.refl _) (.str i)
theorem vals_reps {K : PySem.W.Frag} {T : Tb} {N : Addr → Prop} {F : Hp} : ∀ (ns : List Int), RepsG K T N F (ns.map V.int) (ns.map D.int)
  | [] => .nil
  | n :: ns => .cons (.int n) (vals_reps ns)
/-! ### names -/
theorem de_v (i : Nat) (hm : Γ[i]? = some (.fz q)) {x : Str} (h : PE X (.Name x pos) (tVar i)) : DE X T H0 Γ (.Name x pos) (eV i) (.q q) := PE.wk h fun σ H Q ⟨F, O, ρ, d, R, hf, hq⟩ => by
  obtain ⟨v, d', h1, h2, h3⟩ := R.sl i _ hm
  have : ρ[i]? = some d := hf
  rw [h2] at this; cases this
  exact ⟨v, h1, hq F H v R (.refl _) (.refl _) h3⟩
theorem de_vl (i : Nat) (hm : Γ[i]? = some (.fl q)) {x : Str} (h : PE X (.Name x pos) (tVar i)) : DE X T H0 Γ (.Name x pos) (eV i) (.fl q) := PE.wk h fun σ H Q ⟨F, O, ρ, d, R, hf, hq⟩ => by
  obtain ⟨a, vs, ds, h1, h2, h3, h4⟩ := R.sl i _ hm
  have : ρ[i]? = some d := hf
  rw [h2] at this; cases this
  exact ⟨_, h1, hq F H _ R (.refl _) (.refl _) ⟨a, vs, ds, rfl, rfl, h3, h4⟩⟩
theorem de_vlU (i : Nat) (hm : Γ[i]? = some (.fl q)) {x : Str} (h : PE X (.Name x pos) (tVar i)) : DE X T H0 Γ (.Name x pos) (eV i) (.q .U) := PE.wk h fun σ H Q ⟨F, O, ρ, d, R, hf, hq⟩ => by
  obtain ⟨a, vs, ds, h1, h2, h3, h4⟩ := R.sl i _ hm
  have : ρ[i]? = some d := hf
  rw [h2] at this; cases this
  exact ⟨_, h1, hq F H _ R (.refl _) (.refl _) (.lst h3 trivial (h4.mono (.refl _) fun _ _ => trivial))⟩
theorem de_vo (i : Nat) (hm : Γ[i]? = some (.ow q)) {x : Str} (h : PE X (.Name x pos) (tVar i)) : DE X T H0 Γ (.Name x pos) (eV i) (.bl q) := PE.wk h fun σ H Q ⟨F, O, ρ, d, R, hf, hq⟩ => by
  obtain ⟨a, vs, ds, h1, h2, h3, h4, h5⟩ := R.sl i _ hm
  have : ρ[i]? = some d := hf
  rw [h2] at this; cases this
  exact ⟨_, h1, hq F H _ R (.refl _) (.refl _) ⟨a, vs, ds, rfl, rfl, h3, h5⟩⟩

/-! ### kinds -/
theorem de_wk (h : DE X T H0 Γ e f k) {k' : Knd} (i : ∀ F O σ H ρ v d, Rl X.K T H0 Γ F O σ H ρ → Rp X.K T H0 F H O k v d → Rp X.K T H0 F H O k' v d) : DE X T H0 Γ e f k' :=
  PE.wk h fun σ H Q ⟨F, O, ρ, d, R, hf, hq⟩ => ⟨F, O, ρ, d, R, hf, fun F' H' v R' sF sH r => hq F' H' v R' sF sH (i _ _ _ _ _ _ _ R' r)⟩
theorem de_q {p : Q3} (h : DE X T H0 Γ e f (.q p)) (hl : p.le q = true := by rfl) : DE X T H0 Γ e f (.q q) := de_wk h fun F O σ H ρ v d R r => RepG.mono (.refl _) (NK.le hl) r
theorem de_B (h : DE X T H0 Γ e f k) : DE X T H0 Γ e f .B := de_wk h fun F O σ H ρ v d R r => R.toB r
/-- a new list, read as it stands -/
theorem de_ob (h : DE X T H0 Γ e f (.ol q)) : DE X T H0 Γ e f (.bl q) := de_wk h fun F O σ H ρ v d R ⟨a, vs, ds, h1, h2, h3, _, _, h4⟩ => ⟨a, vs, ds, h1, h2, h3, h4⟩
theorem de_oo {p : Q3} (h : DE X T H0 Γ e f (.ol p)) (hl : p.le q = true := by rfl) : DE X T H0 Γ e f (.ol q) := de_wk h fun F O σ H ρ v d R ⟨a, vs, ds, h1, h2, h3, h4, h5, h6⟩ => ⟨a, vs, ds, h1, h2, h3, h4, h5, RepsG.mono (.refl _) (NK.le hl) h6⟩
theorem de_bb {p : Q3} (h : DE X T H0 Γ e f (.bl p)) (hl : p.le q = true := by rfl) : DE X T H0 Γ e f (.bl q) := de_wk h fun F O σ H ρ v d R ⟨a, vs, ds, h1, h2, h3, h4⟩ => ⟨a, vs, ds, h1, h2, h3, RepsG.mono (.refl _) (NK.le hl) h4⟩
theorem de_fb (h : DE X T H0 Γ e f (.fl q)) : DE X T H0 Γ e f (.bl q) := de_wk h fun F O σ H ρ v d R ⟨a, vs, ds, h1, h2, h3, h4⟩ => ⟨a, vs, ds, h1, h2, R.fh _ _ h3, h4⟩
theorem de_fU (h : DE X T H0 Γ e f (.fl q)) : DE X T H0 Γ e f (.q .U) := de_wk h fun F O σ H ρ v d R ⟨a, vs, ds, h1, h2, h3, h4⟩ => by
  subst h1; subst h2
  exact .lst h3 trivial (h4.mono (.refl _) fun _ _ => trivial)
theorem de_ff {p : Q3} (h : DE X T H0 Γ e f (.fl p)) (hl : p.le q = true := by rfl) : DE X T H0 Γ e f (.fl q) := de_wk h fun F O σ H ρ v d R ⟨a, vs, ds, h1, h2, h3, h4⟩ => ⟨a, vs, ds, h1, h2, h3, RepsG.mono (.refl _) (NK.le hl) h4⟩
/-- a new list, frozen -/
theorem fz_new {F H : Hp} {O : Own} {σ : L2.St} {ρ : List D} {K : PySem.W.Frag} (R : Rl K T H0 Γ F O σ H ρ) {a : Addr} {o : HO} (ha : H a = some o) (hF : F a = none) (hO : ∀ i, ¬ O i a) (ho : isT o = false := by rfl) : Rl K T H0 Γ (upd F a o) O σ H ρ ∧ Same F (upd F a o) := by
  have sF : Same F (upd F a o) := fun b u e => by rw [upd_ne (ne_of_none e hF)]; exact e
  refine ⟨R.more sF (fun b u e => ?_) (R.nF.upd ho) (fun i b h => ?_), sF⟩
  · by_cases hb : b = a
    · subst hb; rw [upd_same] at e; rw [ha, ← e]
    · rw [upd_ne hb] at e; exact R.fh _ _ e
  · rw [upd_ne (fun z => by subst z; exact hO i h)]; exact (R.on i b h).1
theorem de_oq {p : Q3} (h : DE X T H0 Γ e f (.ol p)) (hl : p.le q = true := by rfl) (hL : Q3.L.le q = true := by rfl) : DE X T H0 Γ e f (.q q) :=
  PE.wk h fun σ H Q ⟨F, O, ρ, d, R, hf, hq⟩ => ⟨F, O, ρ, d, R, hf, fun F' H' v R' sF sH ⟨a, vs, ds, e1, e2, h1, h2, h3, h4⟩ => by
    subst e1; subst e2
    obtain ⟨R2, s2⟩ := fz_new R' h1 h2 h3
    refine hq _ H' _ R2 (sF.trans s2) sH (.lst upd_same (NK.le hL _ (R'.h0.free h2)) (h4.mono s2 (NK.le hl)))⟩
theorem de_of (h : DE X T H0 Γ e f (.ol q)) : DE X T H0 Γ e f (.fl q) :=
  PE.wk h fun σ H Q ⟨F, O, ρ, d, R, hf, hq⟩ => ⟨F, O, ρ, d, R, hf, fun F' H' v R' sF sH ⟨a, vs, ds, e1, e2, h1, h2, h3, h4⟩ => by
    obtain ⟨R2, s2⟩ := fz_new R' h1 h2 h3
    exact hq _ H' _ R2 (sF.trans s2) sH ⟨a, vs, ds, e1, e2, upd_same, s2.rqs h4⟩⟩
theorem de_A (h : DE X T H0 Γ e f k) (hk : k = .q .L ∨ k = .q .U ∨ k = .q .A := by first | exact .inl rfl | exact .inr (.inl rfl) | exact .inr (.inr rfl)) : DE X T H0 Γ e (eA f) (.q q) :=
  PE.wk h fun σ H Q ⟨F, O, ρ, d, R, hf, hq⟩ => by
    unfold eA at hf
    cases h1 : f ρ with
    | none => rw [h1] at hf; cases hf
    | some d' =>
      rw [h1] at hf
      simp only [Option.bind_some] at hf
      split at hf
      · rename_i hl
        cases hf
        refine ⟨F, O, ρ, _, R, h1, fun F' H' v R' sF sH r => hq F' H' v R' sF sH ?_⟩
        rcases hk with rfl | rfl | rfl <;> exact RepG.lf r hl
      · cases hf

/-! ### operators -/
theorem bin_sem {K : PySem.W.Frag} {r : R2} {g : D → D → Option D} (hp : ka.pers = true)
    (hr : ∀ F O σ H ρ v u x y d Q, Rl K T H0 Γ F O σ H ρ → Rp K T H0 F H O ka v x → Rp K T H0 F H O kb u y → g x y = some d → (∀ F' H' w, Rl K T H0 Γ F' O σ H' ρ → Same F F' → Sm H H' → Rp K T H0 F' H' O k w d → Q w H') → r v u H Q) :
    ∀ σ H Q, tD K T H0 Γ (e2 g fa fb) k σ H Q → tOp r (tD K T H0 Γ fa ka) (tD K T H0 Γ fb kb) σ H Q := by
  rintro σ H Q ⟨F, O, ρ, d, R, hf, hq⟩
  unfold e2 at hf
  cases h1 : fa ρ with
  | none => rw [h1] at hf; cases hf
  | some x =>
    rw [h1] at hf
    simp only [Option.bind_some] at hf
    cases h2 : fb ρ with
    | none => rw [h2] at hf; cases hf
    | some y =>
      rw [h2] at hf
      simp only [Option.bind_some] at hf
      refine ⟨F, O, ρ, x, R, h1, fun F1 H1 v R1 s1 t1 r1 => ⟨F1, O, ρ, y, R1, h2, fun F2 H2 u R2 s2 t2 r2 => ?_⟩⟩
      exact hr F2 O σ H2 ρ v u x y d Q R2 (r1.pers hp s2 t2) r2 hf fun F' H' w R' s' t' rw => hq F' H' w R' ((s1.trans s2).trans s') ((t1.trans t2).trans t') rw
/-- the value of an int -/
theorem Rp.int {K : PySem.W.Frag} {F H : Hp} {O : Own} {v : V} {i : Int} (h : Rp K T H0 F H O k v (.int i)) : v = .int i := by
  cases k with
  | q p => cases h; rfl
  | B => cases h; rfl
  | bl p => obtain ⟨_, _, _, _, e, _⟩ := h; cases e
  | fl p => obtain ⟨_, _, _, _, e, _⟩ := h; cases e
  | ol p => obtain ⟨_, _, _, _, e, _⟩ := h; cases e
theorem Rp.bl {K : PySem.W.Frag} {F H : Hp} {O : Own} {v : V} {i : Bool} (h : Rp K T H0 F H O k v (.bl i)) : v = .bl i := by
  cases k with
  | q p => cases h; rfl
  | B => cases h; rfl
  | bl p => obtain ⟨_, _, _, _, e, _⟩ := h; cases e
  | fl p => obtain ⟨_, _, _, _, e, _⟩ := h; cases e
  | ol p => obtain ⟨_, _, _, _, e, _⟩ := h; cases e
theorem Rp.str {K : PySem.W.Frag} {F H : Hp} {O : Own} {v : V} {i : Str} (h : Rp K T H0 F H O k v (.str i)) : v = .str i := by
  cases k with
  | q p => cases h; rfl
  | B => cases h; rfl
  | bl p => obtain ⟨_, _, _, _, e, _⟩ := h; cases e
  | fl p => obtain ⟨_, _, _, _, e, _⟩ := h; cases e
  | ol p => obtain ⟨_, _, _, _, e, _⟩ := h; cases e
theorem i2_some {g : Int → Int → Option D} {x y d : D} (h : i2 g x y = some d) : ∃ i j, x = .int i ∧ y = .int j ∧ g i j = some d := by
  unfold i2 at h
  split at h
  · exact ⟨_, _, rfl, rfl, h⟩
  · cases h
/-- an operator on two ints -/
theorem opI_sem {K : PySem.W.Frag} {r : R2} {g : Int → Int → Option D} (hp : ka.pers = true) (hr : ∀ i j d, g i j = some d → ∃ w, atomV d = some w ∧ ∀ H Q, Q w H → r (.int i) (.int j) H Q) :
    ∀ σ H Q, tD K T H0 Γ (e2 (i2 g) fa fb) (.q q) σ H Q → tOp r (tD K T H0 Γ fa ka) (tD K T H0 Γ fb kb) σ H Q :=
  bin_sem hp fun F O σ H ρ v u x y d Q R rv ru hg hq => by
    obtain ⟨i, j, rfl, rfl, hg⟩ := i2_some hg
    obtain ⟨w, hw, hr⟩ := hr i j d hg
    rw [rv.int, ru.int]
    exact hr H Q (hq F H w R (.refl _) (.refl _) (atom_rep hw))
theorem de_opI {op : Operator} {r : R2} {g : Int → Int → Option D} (ho : OpR X (binaryOp op) r) (ha : DE X T H0 Γ a fa ka) (hb : DE X T H0 Γ b fb kb) (hr : ∀ i j d, g i j = some d → ∃ w, atomV d = some w ∧ ∀ H Q, Q w H → r (.int i) (.int j) H Q) (hp : ka.pers = true := by rfl) :
    DE X T H0 Γ (.BinOp a op b pos) (e2 (i2 g) fa fb) (.q q) := PE.wk (pe_op ho ha hb) (opI_sem hp hr)
theorem de_add (ha : DE X T H0 Γ a fa ka) (hb : DE X T H0 Γ b fb kb) (hp : ka.pers = true := by rfl) : DE X T H0 Γ (.BinOp a .Add b pos) (e2 gAdd fa fb) (.q q) :=
  de_opI op_add ha hb (fun i j d h => by cases h; exact ⟨_, rfl, fun H Q z => ⟨i, j, rfl, rfl, z⟩⟩) hp
theorem de_sub (ha : DE X T H0 Γ a fa ka) (hb : DE X T H0 Γ b fb kb) (hp : ka.pers = true := by rfl) : DE X T H0 Γ (.BinOp a .Sub b pos) (e2 gSbI fa fb) (.q q) :=
  de_opI op_sub ha hb (fun i j d h => by cases h; exact ⟨_, rfl, fun H Q z => ⟨i, j, rfl, rfl, z⟩⟩) hp
theorem de_mul (ha : DE X T H0 Γ a fa ka) (hb : DE X T H0 Γ b fb kb) (hp : ka.pers = true := by rfl) : DE X T H0 Γ (.BinOp a .Mult b pos) (e2 gMul fa fb) (.q q) :=
  de_opI (OpR.or op_mul op_mulW) ha hb (fun i j d h => by
    split at h
    · rename_i c
      cases h
      refine ⟨_, rfl, fun H Q z => ?_⟩
      rcases mulOk_C c with c | c
      · exact .inl ⟨i, j, rfl, rfl, c, z⟩
      · exact .inr ⟨i, j, rfl, rfl, c, z⟩
    · cases h) hp
theorem de_div (ha : DE X T H0 Γ a fa ka) (hb : DE X T H0 Γ b fb kb) (hp : ka.pers = true := by rfl) : DE X T H0 Γ (.BinOp a .FloorDiv b pos) (e2 gDiv fa fb) (.q q) :=
  de_opI op_fdivW ha hb (fun i j d h => by
    split at h
    · rename_i c
      cases h
      exact ⟨_, rfl, fun H Q z => ⟨i, j, rfl, rfl, c, z⟩⟩
    · cases h) hp
theorem de_mod (ha : DE X T H0 Γ a fa ka) (hb : DE X T H0 Γ b fb kb) (hp : ka.pers = true := by rfl) : DE X T H0 Γ (.BinOp a .Mod b pos) (e2 gMod fa fb) (.q q) :=
  de_opI op_mod ha hb (fun i j d h => by
    split at h
    · rename_i c
      cases h
      exact ⟨_, rfl, fun H Q z => ⟨i, j, rfl, rfl, c, z⟩⟩
    · cases h) hp
theorem de_pow (ha : DE X T H0 Γ a fa ka) (hb : DE X T H0 Γ b fb kb) (hp : ka.pers = true := by rfl) : DE X T H0 Γ (.BinOp a .Pow b pos) (e2 gPow fa fb) (.q q) :=
  de_opI op_pow ha hb (fun i j d h => by
    split at h
    · rename_i c
      cases h
      have h1 := small_lt c.2.1
      rw [show (2 : Nat) ^ 10 = 1024 from by decide] at h1
      exact ⟨_, rfl, fun H Q z => ⟨i, j, rfl, rfl, ⟨c.1, by omega, small_lt c.2.2⟩, z⟩⟩
    · cases h) hp
theorem de_and (ha : DE X T H0 Γ a fa ka) (hb : DE X T H0 Γ b fb kb) (hp : ka.pers = true := by rfl) : DE X T H0 Γ (.BinOp a .BitAnd b pos) (e2 gAnd fa fb) (.q q) :=
  de_opI op_and ha hb (fun i j d h => by cases h; exact ⟨_, rfl, fun H Q z => ⟨i, j, rfl, rfl, z⟩⟩) hp
theorem de_or (ha : DE X T H0 Γ a fa ka) (hb : DE X T H0 Γ b fb kb) (hp : ka.pers = true := by rfl) : DE X T H0 Γ (.BinOp a .BitOr b pos) (e2 gOr fa fb) (.q q) :=
  de_opI op_or ha hb (fun i j d h => by cases h; exact ⟨_, rfl, fun H Q z => ⟨i, j, rfl, rfl, z⟩⟩) hp
theorem de_xor (ha : DE X T H0 Γ a fa ka) (hb : DE X T H0 Γ b fb kb) (hp : ka.pers = true := by rfl) : DE X T H0 Γ (.BinOp a .BitXor b pos) (e2 gXor fa fb) (.q q) :=
  de_opI op_xor ha hb (fun i j d h => by cases h; exact ⟨_, rfl, fun H Q z => ⟨i, j, rfl, rfl, z⟩⟩) hp
theorem un_sem {K : PySem.W.Frag} {r : V → Hp → VK → Prop} {g : D → Option D}
    (hr : ∀ F O σ H ρ v x d Q, Rl K T H0 Γ F O σ H ρ → Rp K T H0 F H O ka v x → g x = some d → (∀ F' H' w, Rl K T H0 Γ F' O σ H' ρ → Same F F' → Sm H H' → Rp K T H0 F' H' O k w d → Q w H') → r v H Q) :
    ∀ σ H Q, tD K T H0 Γ (e1 g fa) k σ H Q → tUn r (tD K T H0 Γ fa ka) σ H Q := by
  rintro σ H Q ⟨F, O, ρ, d, R, hf, hq⟩
  unfold e1 at hf
  cases h1 : fa ρ with
  | none => rw [h1] at hf; cases hf
  | some x =>
    rw [h1] at hf
    simp only [Option.bind_some] at hf
    refine ⟨F, O, ρ, x, R, h1, fun F1 H1 v R1 s1 t1 r1 => ?_⟩
    exact hr F1 O σ H1 ρ v x d Q R1 r1 hf fun F' H' w R' s' t' rw => hq F' H' w R' (s1.trans s') (t1.trans t') rw
theorem de_neg (ha : DE X T H0 Γ a fa ka) : DE X T H0 Γ (.UnaryOp .USub a pos) (e1 gNeg fa) (.q q) :=
  PE.wk (pe_un un_neg ha) (un_sem fun F O σ H ρ v x d Q R rv hg hq => by
    unfold gNeg i1 at hg
    split at hg
    · rename_i i
      cases hg
      rw [rv.int]
      exact ⟨i, rfl, hq F H _ R (.refl _) (.refl _) (RepG.int _)⟩
    · cases hg)

/-! ### comparisons -/
theorem dec_int' {i j : Int} : decide (V.int i = V.int j) = decide (i = j) := decide_eq_decide.mpr ⟨fun h => V.int.inj h, fun h => by rw [h]⟩
theorem dec_bl' {i j : Bool} : decide (V.bl i = V.bl j) = decide (i = j) := decide_eq_decide.mpr ⟨fun h => V.bl.inj h, fun h => by rw [h]⟩
theorem dec_str' {i j : Str} : decide (V.str i = V.str j) = decide (i = j) := decide_eq_decide.mpr ⟨fun h => V.str.inj h, fun h => by rw [h]⟩
theorem de_cmp {op : CmpOp} {r : R2} {g : D → D → Option D} (ho : OpR X (compareOp op) r) (ha : DE X T H0 Γ a fa ka) (hb : DE X T H0 Γ b fb kb) (hm : behindInMarks op b = false)
    (hs : ∀ σ H Q, tD X.K T H0 Γ (e2 g fa fb) (.q q) σ H Q → tOp r (tD X.K T H0 Γ fa ka) (tD X.K T H0 Γ fb kb) σ H Q) : DE X T H0 Γ (.Compare a [op] [b] pos) (e2 g fa fb) (.q q) := PE.wk (pe_cmpR ho ha hb hm) hs
theorem dt_cmp {op : CmpOp} {r : R2} {g : D → D → Option D} (ho : OpR X (compareOp op) r) (ha : DE X T H0 Γ a fa ka) (hb : DE X T H0 Γ b fb kb) (hm : behindInMarks op b = false)
    (hs : ∀ σ H Q, tD X.K T H0 Γ (e2 g fa fb) (.q .A) σ H Q → tOp r (tD X.K T H0 Γ fa ka) (tD X.K T H0 Γ fb kb) σ H Q) : DT X T H0 Γ (.Compare a [op] [b] pos) (t2b (e2 g fa fb)) :=
  PT.wk (pt_cmpR ho ha hb hm) fun σ H Q ⟨F, O, ρ, d, R, hf, hq⟩ => by
    unfold t2b at hf
    cases h1 : e2 g fa fb ρ with
    | none => rw [h1] at hf; cases hf
    | some x =>
      rw [h1] at hf
      simp only [Option.bind_some] at hf
      split at hf
      · cases hf
        exact hs σ H _ ⟨F, O, ρ, _, R, h1, fun F' H' v R' s t r => ⟨_, Rp.bl r, hq F' H' R' s t⟩⟩
      · cases hf
theorem cs_lt {K : PySem.W.Frag} (hp : ka.pers = true) : ∀ σ H Q, tD K T H0 Γ (e2 gLt fa fb) (.q q) σ H Q → tOp (rI0 fun i j => .bl (decide (i < j))) (tD K T H0 Γ fa ka) (tD K T H0 Γ fb kb) σ H Q := opI_sem hp fun i j d h => by cases h; exact ⟨_, rfl, fun H Q z => ⟨i, j, rfl, rfl, z⟩⟩
theorem cs_le {K : PySem.W.Frag} (hp : ka.pers = true) : ∀ σ H Q, tD K T H0 Γ (e2 gLe fa fb) (.q q) σ H Q → tOp (rI0 fun i j => .bl (decide (i ≤ j))) (tD K T H0 Γ fa ka) (tD K T H0 Γ fb kb) σ H Q := opI_sem hp fun i j d h => by cases h; exact ⟨_, rfl, fun H Q z => ⟨i, j, rfl, rfl, z⟩⟩
theorem cs_gt {K : PySem.W.Frag} (hp : ka.pers = true) : ∀ σ H Q, tD K T H0 Γ (e2 gGt fa fb) (.q q) σ H Q → tOp (rI0 fun i j => .bl (decide (j < i))) (tD K T H0 Γ fa ka) (tD K T H0 Γ fb kb) σ H Q := opI_sem hp fun i j d h => by cases h; exact ⟨_, rfl, fun H Q z => ⟨i, j, rfl, rfl, z⟩⟩
theorem cs_ge {K : PySem.W.Frag} (hp : ka.pers = true) : ∀ σ H Q, tD K T H0 Γ (e2 gGe fa fb) (.q q) σ H Q → tOp (rI0 fun i j => .bl (decide (j ≤ i))) (tD K T H0 Γ fa ka) (tD K T H0 Γ fb kb) σ H Q := opI_sem hp fun i j d h => by cases h; exact ⟨_, rfl, fun H Q z => ⟨i, j, rfl, rfl, z⟩⟩
theorem cs_eqS {K : PySem.W.Frag} (hp : ka.pers = true) : ∀ σ H Q, tD K T H0 Γ (e2 gEqS fa fb) (.q q) σ H Q → tOp rEq (tD K T H0 Γ fa ka) (tD K T H0 Γ fb kb) σ H Q := bin_sem hp fun F O σ H ρ v u x y d Q R rv ru hg hq => by
  unfold gEqS at hg
  split at hg
  · cases hg
    rw [rv.int, ru.int]
    exact ⟨rfl, by rw [dec_int']; exact hq F H _ R (.refl _) (.refl _) (RepG.bl _)⟩
  · cases hg
    rw [rv.bl, ru.bl]
    exact ⟨rfl, by rw [dec_bl']; exact hq F H _ R (.refl _) (.refl _) (RepG.bl _)⟩
  · cases hg
    rw [rv.str, ru.str]
    exact ⟨rfl, by rw [dec_str']; exact hq F H _ R (.refl _) (.refl _) (RepG.bl _)⟩
  · cases hg
theorem cs_neS {K : PySem.W.Frag} (hp : ka.pers = true) : ∀ σ H Q, tD K T H0 Γ (e2 gNeS fa fb) (.q q) σ H Q → tOp rNe (tD K T H0 Γ fa ka) (tD K T H0 Γ fb kb) σ H Q := bin_sem hp fun F O σ H ρ v u x y d Q R rv ru hg hq => by
  unfold gNeS at hg
  split at hg
  · cases hg
    rw [rv.int, ru.int]
    exact ⟨rfl, by rw [dec_int']; exact hq F H _ R (.refl _) (.refl _) (RepG.bl _)⟩
  · cases hg
    rw [rv.bl, ru.bl]
    exact ⟨rfl, by rw [dec_bl']; exact hq F H _ R (.refl _) (.refl _) (RepG.bl _)⟩
  · cases hg
    rw [rv.str, ru.str]
    exact ⟨rfl, by rw [dec_str']; exact hq F H _ R (.refl _) (.refl _) (RepG.bl _)⟩
  · cases hg

/-! ### tests -/
/-- a bool's value, as a test -/
theorem dt_val (ha : DE X T H0 Γ e f k) (he : ∀ whole, isTrue e X.env whole = (do let v ← whole; standAt e.pos; holding [v] (truthy v)) := by intro _; rfl) : DT X T H0 Γ e (t2b f) :=
  PT.wk (pt_val ha he) fun σ H Q ⟨F, O, ρ, d, R, hf, hq⟩ => by
    unfold t2b at hf
    cases h1 : f ρ with
    | none => rw [h1] at hf; cases hf
    | some x =>
      rw [h1] at hf
      simp only [Option.bind_some] at hf
      split at hf
      · cases hf
        exact ⟨F, O, ρ, _, R, h1, fun F' H' v R' s t r => ⟨_, Rp.bl r, hq F' H' R' s t⟩⟩
      · cases hf
variable {ta tb tc : List D → Option Bool} {rest : List Expr}
theorem dw_and1 (ha : DT X T H0 Γ a ta) : DW X T H0 Γ (.BoolOp .And [a] pos) ta := pw_and1 ha
theorem dw_or1 (ha : DT X T H0 Γ a ta) : DW X T H0 Γ (.BoolOp .Or [a] pos) ta := pw_or1 ha
theorem dw_and (ha : DT X T H0 Γ a ta) (hb : DW X T H0 Γ (.BoolOp .And (b :: rest) pos) tb) : DW X T H0 Γ (.BoolOp .And (a :: b :: rest) pos) (bAnd ta tb) :=
  PW.wk (pw_and ha hb) fun σ H Q ⟨F, O, ρ, d, R, hf, hq⟩ => by
    unfold bAnd at hf
    cases h1 : ta ρ with
    | none => rw [h1] at hf; cases hf
    | some x =>
      rw [h1] at hf
      simp only [Option.bind_some] at hf
      refine ⟨F, O, ρ, x, R, h1, fun F1 H1 R1 s1 t1 => ?_⟩
      cases x with
      | true => exact ⟨F1, O, ρ, d, R1, by simpa using hf, fun F2 H2 R2 s2 t2 => hq F2 H2 R2 (s1.trans s2) (t1.trans t2)⟩
      | false =>
        simp at hf
        subst hf
        exact hq F1 H1 R1 s1 t1
theorem dw_or (ha : DT X T H0 Γ a ta) (hb : DW X T H0 Γ (.BoolOp .Or (b :: rest) pos) tb) : DW X T H0 Γ (.BoolOp .Or (a :: b :: rest) pos) (bOr ta tb) :=
  PW.wk (pw_or ha hb) fun σ H Q ⟨F, O, ρ, d, R, hf, hq⟩ => by
    unfold bOr at hf
    cases h1 : ta ρ with
    | none => rw [h1] at hf; cases hf
    | some x =>
      rw [h1] at hf
      simp only [Option.bind_some] at hf
      refine ⟨F, O, ρ, x, R, h1, fun F1 H1 R1 s1 t1 => ?_⟩
      cases x with
      | false => exact ⟨F1, O, ρ, d, R1, by simpa using hf, fun F2 H2 R2 s2 t2 => hq F2 H2 R2 (s1.trans s2) (t1.trans t2)⟩
      | true =>
        simp at hf
        subst hf
        exact hq F1 H1 R1 s1 t1
theorem dt_not (ha : DT X T H0 Γ a ta) : DT X T H0 Γ (.UnaryOp .Not a pos) (bNot ta) :=
  PT.wk (pt_not ha) fun σ H Q ⟨F, O, ρ, d, R, hf, hq⟩ => by
    unfold bNot at hf
    cases h1 : ta ρ with
    | none => rw [h1] at hf; cases hf
    | some x =>
      rw [h1] at hf
      simp only [Option.bind_some] at hf
      cases hf
      exact ⟨F, O, ρ, x, R, h1, fun F1 H1 R1 s1 t1 => hq F1 H1 R1 s1 t1⟩
/-- and, or, not as values of bools: the same computations -/
theorem de_one {op} (ha : DE X T H0 Γ a fa k) : DE X T H0 Γ (.BoolOp op [a] pos) fa k := pe_one ha
def eAnd (a b : EF) : EF := fun ρ => (a ρ).bind fun d => match d with | .bl c => if c = true then b ρ else some (.bl false) | _ => none
def eOr (a b : EF) : EF := fun ρ => (a ρ).bind fun d => match d with | .bl c => if c = true then some (.bl true) else b ρ | _ => none
def eNot (a : EF) : EF := fun ρ => (a ρ).bind fun d => match d with | .bl c => some (.bl (!c)) | _ => none
theorem de_andV (ha : DE X T H0 Γ a fa ka) (hb : DE X T H0 Γ (.BoolOp .And (b :: rest) pos) fb (.q q)) : DE X T H0 Γ (.BoolOp .And (a :: b :: rest) pos) (eAnd fa fb) (.q q) :=
  PE.wk (pe_and ha hb) fun σ H Q ⟨F, O, ρ, d, R, hf, hq⟩ => by
    unfold eAnd at hf
    cases h1 : fa ρ with
    | none => rw [h1] at hf; cases hf
    | some x =>
      rw [h1] at hf
      simp only [Option.bind_some] at hf
      split at hf
      · rename_i c
        refine ⟨F, O, ρ, _, R, h1, fun F1 H1 v R1 s1 t1 r1 => ⟨c, r1.bl, ?_⟩⟩
        cases c with
        | true => exact ⟨F1, O, ρ, d, R1, by simpa using hf, fun F2 H2 v R2 s2 t2 r2 => hq F2 H2 v R2 (s1.trans s2) (t1.trans t2) r2⟩
        | false =>
          simp at hf
          subst hf
          exact hq F1 H1 _ R1 s1 t1 (RepG.bl false)
      · cases hf
theorem de_orV (ha : DE X T H0 Γ a fa ka) (hb : DE X T H0 Γ (.BoolOp .Or (b :: rest) pos) fb (.q q)) : DE X T H0 Γ (.BoolOp .Or (a :: b :: rest) pos) (eOr fa fb) (.q q) :=
  PE.wk (pe_or ha hb) fun σ H Q ⟨F, O, ρ, d, R, hf, hq⟩ => by
    unfold eOr at hf
    cases h1 : fa ρ with
    | none => rw [h1] at hf; cases hf
    | some x =>
      rw [h1] at hf
      simp only [Option.bind_some] at hf
      split at hf
      · rename_i c
        refine ⟨F, O, ρ, _, R, h1, fun F1 H1 v R1 s1 t1 r1 => ⟨c, r1.bl, ?_⟩⟩
        cases c with
        | false => exact ⟨F1, O, ρ, d, R1, by simpa using hf, fun F2 H2 v R2 s2 t2 r2 => hq F2 H2 v R2 (s1.trans s2) (t1.trans t2) r2⟩
        | true =>
          simp at hf
          subst hf
          exact hq F1 H1 _ R1 s1 t1 (RepG.bl true)
      · cases hf
theorem de_notV (ha : DE X T H0 Γ a fa ka) : DE X T H0 Γ (.UnaryOp .Not a pos) (eNot fa) (.q q) :=
  PE.wk (L2.pe_not ha) fun σ H Q ⟨F, O, ρ, d, R, hf, hq⟩ => by
    unfold eNot at hf
    cases h1 : fa ρ with
    | none => rw [h1] at hf; cases hf
    | some x =>
      rw [h1] at hf
      simp only [Option.bind_some] at hf
      split at hf
      · rename_i c
        cases hf
        exact ⟨F, O, ρ, _, R, h1, fun F1 H1 v R1 s1 t1 r1 => ⟨c, r1.bl, hq F1 H1 _ R1 s1 t1 (RepG.bl _)⟩⟩
      · cases hf
theorem de_if {c : Expr} (hc : DT X T H0 Γ c tc) (ha : DE X T H0 Γ a fa k) (hb : DE X T H0 Γ b fb k) : DE X T H0 Γ (.IfExp c a b pos) (eIf tc fa fb) k :=
  PE.wk (pe_ifExp hc ha hb) fun σ H Q ⟨F, O, ρ, d, R, hf, hq⟩ => by
    unfold eIf at hf
    cases h1 : tc ρ with
    | none => rw [h1] at hf; cases hf
    | some x =>
      rw [h1] at hf
      simp only [Option.bind_some] at hf
      refine ⟨F, O, ρ, x, R, h1, fun F1 H1 R1 s1 t1 => ?_⟩
      cases x with
      | true => exact ⟨F1, O, ρ, d, R1, by simpa using hf, fun F2 H2 v R2 s2 t2 r2 => hq F2 H2 v R2 (s1.trans s2) (t1.trans t2) r2⟩
      | false => exact ⟨F1, O, ρ, d, R1, by simpa using hf, fun F2 H2 v R2 s2 t2 r2 => hq F2 H2 v R2 (s1.trans s2) (t1.trans t2) r2⟩

/-! ### arguments, displays -/
variable {fs : List D → Option (List D)}
theorem da_nil : DA X T H0 Γ [] aNil := PA.wk pa_nil fun σ H Q ⟨F, O, ρ, ds, R, hf, hq⟩ => by cases hf; exact hq F H _ R (.refl _) (.refl _) .nil
theorem da_cons (ha : DE X T H0 Γ e f k) (hr : DA X T H0 Γ es fs) (hs : starEach (e :: es) X.env = (false, eval e X.env) :: starEach es X.env := by rfl) : DA X T H0 Γ (e :: es) (aCons f fs) :=
  PA.wk (pa_cons ha hr hs) fun σ H Q ⟨F, O, ρ, ds, R, hf, hq⟩ => by
    unfold aCons at hf
    cases h1 : f ρ with
    | none => rw [h1] at hf; cases hf
    | some x =>
      rw [h1] at hf
      simp only [Option.bind_some] at hf
      cases h2 : fs ρ with
      | none => rw [h2] at hf; cases hf
      | some xs =>
        rw [h2] at hf
        cases hf
        refine ⟨F, O, ρ, x, R, h1, fun F1 H1 v R1 s1 t1 r1 => ⟨F1, O, ρ, xs, R1, h2, fun F2 H2 vs R2 s2 t2 r2 => ?_⟩⟩
        exact hq F2 H2 _ R2 (s1.trans s2) (t1.trans t2) (.cons (t2.rU (R1.toB r1)) r2)
theorem dq_nil : DQ X T H0 Γ [] aNil q := PA.wk pa_nil fun σ H Q ⟨F, O, ρ, ds, R, hf, hq⟩ => by cases hf; exact hq F H _ R (.refl _) (.refl _) .nil
theorem dq_cons (ha : DE X T H0 Γ e f (.q q)) (hr : DQ X T H0 Γ es fs q) (hs : starEach (e :: es) X.env = (false, eval e X.env) :: starEach es X.env := by rfl) : DQ X T H0 Γ (e :: es) (aCons f fs) q :=
  PA.wk (pa_cons ha hr hs) fun σ H Q ⟨F, O, ρ, ds, R, hf, hq⟩ => by
    unfold aCons at hf
    cases h1 : f ρ with
    | none => rw [h1] at hf; cases hf
    | some x =>
      rw [h1] at hf
      simp only [Option.bind_some] at hf
      cases h2 : fs ρ with
      | none => rw [h2] at hf; cases hf
      | some xs =>
        rw [h2] at hf
        cases hf
        refine ⟨F, O, ρ, x, R, h1, fun F1 H1 v R1 s1 t1 r1 => ⟨F1, O, ρ, xs, R1, h2, fun F2 H2 vs R2 s2 t2 r2 => ?_⟩⟩
        exact hq F2 H2 _ R2 (s1.trans s2) (t1.trans t2) (.cons (s2.rq r1) r2)
/-- the length line -/
def lenOk (ds : List D) : Prop := ds.length ≤ sizeLine
instance (ds : List D) : Decidable (lenOk ds) := by unfold lenOk; infer_instance
def eTup (fs : List D → Option (List D)) : EF := fun ρ => (fs ρ).bind fun ds => if ds.length ≤ 1000 then some (.tup ds) else none
def eLst (fs : List D → Option (List D)) : EF := fun ρ => (fs ρ).bind fun ds => if ds.length ≤ 1000 then some (.lst ds) else none
theorem de_tup {x1} (h : DQ X T H0 Γ es fs q) : DE X T H0 Γ (.Tuple es x1 pos) (eTup fs) (.q q) := PE.wk (pe_tup h) fun σ H Q ⟨F, O, ρ, d, R, hf, hq⟩ => by
  unfold eTup at hf
  cases h1 : fs ρ with
  | none => rw [h1] at hf; cases hf
  | some ds =>
    rw [h1] at hf
    simp only [Option.bind_some] at hf
    split at hf
    · rename_i hl
      cases hf
      refine ⟨F, O, ρ, ds, R, h1, fun F1 H1 vs R1 s1 t1 r1 => ⟨?_, fun p hp => ?_⟩⟩
      · rw [r1.length]; exact Nat.le_of_lt (small1000 hl)
      · obtain ⟨R2, s2, t2⟩ := R1.laid (o := .tup vs) hp
        exact hq _ _ _ R2 (s1.trans s2) (t1.trans t2) (.tup upd_same (s2.rqs r1))
    · cases hf
theorem de_lst (h : DQ X T H0 Γ es fs q) : DE X T H0 Γ (.List es pos) (eLst fs) (.ol q) := PE.wk (pe_lst h) fun σ H Q ⟨F, O, ρ, d, R, hf, hq⟩ => by
  unfold eLst at hf
  cases h1 : fs ρ with
  | none => rw [h1] at hf; cases hf
  | some ds =>
    rw [h1] at hf
    simp only [Option.bind_some] at hf
    split at hf
    · rename_i hl
      cases hf
      refine ⟨F, O, ρ, ds, R, h1, fun F1 H1 vs R1 s1 t1 r1 => ⟨?_, fun p hp => ?_⟩⟩
      · rw [r1.length]; exact Nat.le_of_lt (small1000 hl)
      · obtain ⟨R2, t2⟩ := R1.junk (o := .lst vs) hp
        exact hq _ _ _ R2 s1 (t1.trans t2) ⟨p, vs, ds, rfl, rfl, upd_same, R1.fh.free hp, R1.notOwn hp, r1⟩
    · cases hf
end
end DL

namespace DL
open PySem PySem.Spec PyProof.Rows L2

/-! ### statements -/
inductive RK where
  | q (q : Q3) | ol (q : Q3) | od (S : Shp) | pl (z : Addr)
deriving DecidableEq
/-- a dict of nobody's, as handed back -/
def DictO (K : PySem.W.Frag) (T : Tb) (H0 F H : Hp) (a : Addr) (d : D) : Shp → Prop
  | .dic q => ∃ kvs ds, d = .dic (kvs.map (·.1)) ds ∧ H a = some (.dK kvs) ∧ Rqs K T H0 q F (kvs.map (·.2)) ds
  | .dit q => ∃ kvs ds, d = .dit (kvs.map (·.1)) ds ∧ H a = some (.dT kvs) ∧ Rqs K T H0 q F (kvs.map (·.2)) ds
  | _ => False
inductive Out where
  | nx (ρ : List D) | bk (ρ : List D) | ct (ρ : List D) | rt (d : D) | ex (c : Nat) (es : List D) (ρ : List D)
abbrev SF := List D → Option Out
/-- the modes at break, at continue; the kind of what is handed back -/
structure Jm where
  b : List Mode
  c : List Mode
  r : RK
  x : List Mode
  w : WX
/-- a def's: no loop about it, no exception leaves it -/
abbrev jm (r : RK) : Jm := ⟨[], [], r, [], fun _ _ _ _ => False⟩
/-- an exception of the class c, of the values es -/
def ExR (K : PySem.W.Frag) (T : Tb) (F : Hp) (cls : Value) (od : Option Addr) (c : Nat) (es : List D) : Prop :=
  cls = .ref (T c).1 ∧ ∃ fs, XdAt F od fs ∧ fs.map (·.1) = (T c).2 ∧ RepsG K T (fun _ => False) F (fs.map (·.2)) es
theorem ExR.mono {K : PySem.W.Frag} {T : Tb} {F F' : Hp} {cls : Value} {od : Option Addr} {c : Nat} {es : List D} (s : Same F F') (h : ExR K T F cls od c es) : ExR K T F' cls od c es := by
  obtain ⟨h1, fs, h2, h3, h4⟩ := h
  exact ⟨h1, fs, h2.monoS s.sm, h3, h4.mono s fun _ h => h⟩
def RetOk (K : PySem.W.Frag) (T : Tb) (H0 H' : Hp) : RK → V → D → Prop
  | .q q, v, d => ∃ F, Same H0 F ∧ Same F H' ∧ (NoT F ∧ LamX.Tabs T.t H') ∧ Rq K T H0 q F v d
  | .ol q, v, d => ∃ F a vs ds, v = .ref a ∧ d = .lst ds ∧ Same H0 F ∧ Same F H' ∧ (NoT F ∧ LamX.Tabs T.t H') ∧ H' a = some (.lst vs) ∧ F a = none ∧ Rqs K T H0 q F vs ds
  | .pl z, v, d => ∃ F a vs ds, v = .ref a ∧ d = .lst ds ∧ Same H0 F ∧ Same F H' ∧ (NoT F ∧ LamX.Tabs T.t H') ∧ H' a = some (.lst vs) ∧ (F a = none ∨ a = z) ∧ Rqs K T H0 .A F vs ds
  | .od S, v, d => ∃ F a, v = .ref a ∧ Same H0 F ∧ Same F H' ∧ (NoT F ∧ LamX.Tabs T.t H') ∧ F a = none ∧ DictO K T H0 F H' a d S
def Fin (K : PySem.W.Frag) (T : Tb) (H0 : HZ) (F : Hp) (Γn : List Mode) (J : Jm) (E : Ends) : Out → Prop
  | .nx ρ' => ∀ F' O' σ' H', Same F F' → Rl K T H0 Γn F' O' σ' H' ρ' → E.nx σ' H'
  | .bk ρ' => ∀ F' O' σ' H', Same F F' → Rl K T H0 J.b F' O' σ' H' ρ' → E.bk σ' H'
  | .ct ρ' => ∀ F' O' σ' H', Same F F' → Rl K T H0 J.c F' O' σ' H' ρ' → E.ct σ' H'
  | .rt d => ∀ H' v, RetOk K T H0 H' J.r v d → E.rt v H'
  | .ex c es ρ' => ∀ F' O' σ' H' cls od, Same F F' → Rl K T H0 J.x F' O' σ' H' ρ' → ExR K T F' cls od c es → J.w cls od σ' H'
def tDS (K : PySem.W.Frag) (T : Tb) (H0 : HZ) (Γ : List Mode) (f : SF) (Γn : List Mode) (J : Jm) : TS := fun E σ H =>
  ∃ F O ρ out, Rl K T H0 Γ F O σ H ρ ∧ f ρ = some out ∧ Fin K T H0 F Γn J E out
abbrev DS (X : Cx) (T : Tb) (H0 : HZ) (Γ : List Mode) (st : Stmt) (f : SF) (Γn : List Mode) (J : Jm) : Prop := PS X st (tDS X.K T H0 Γ f Γn J)
abbrev DSs (X : Cx) (T : Tb) (H0 : HZ) (Γ : List Mode) (sts : List Stmt) (f : SF) (Γn : List Mode) (J : Jm) : Prop := PSs X sts (tDS X.K T H0 Γ f Γn J)

section
variable {K : PySem.W.Frag} {T : Tb} {H0 : HZ} {F F' H H' : Hp} {O O' : Own} {σ : L2.St} {ρ : List D} {Γ Γ' : List Mode} {q : Q3}
/-- a slot is set to what is frozen -/
theorem Rl.setM (R : Rl K T H0 Γ F O σ H ρ) {i : Nat} {v : V} {d : D} {m : Mode} (hi : i < Γ.length) (hm : SlotR K T H0 F H (fun _ => False) (some (some v)) (some d) m) : Rl K T H0 (Γ.set i m) F O (σ.set i (some v)) H (ρ.set i d) := by
  refine ⟨R.h0, R.fh, R.on, R.od, by simp [R.ls], by simp [R.lr], fun j mj hj => ?_, R.nF, R.tb⟩
  by_cases hji : j = i
  · subst hji
    rw [List.getElem?_set_self hi] at hj
    cases hj
    rw [List.getElem?_set_self (by rw [R.ls]; exact hi), List.getElem?_set_self (by rw [R.lr]; exact hi)]
    cases m with
    | no => trivial
    | fz k => exact hm
    | fl k => exact hm
    | ow k => obtain ⟨a, vs, ds, h1, h2, h3, h4, h5⟩ := hm; exact h4.elim
    | os S =>
      obtain ⟨v, d, h1, h2, h3⟩ := hm
      exact ⟨v, d, h1, h2, h3.move (.refl _) (fun _ _ => rfl) fun _ h => h.elim⟩
  · rw [List.getElem?_set_ne (Ne.symm hji)] at hj
    rw [List.getElem?_set_ne (Ne.symm hji), List.getElem?_set_ne (Ne.symm hji)]
    exact R.sl j mj hj
theorem Rl.setq (R : Rl K T H0 Γ F O σ H ρ) {i : Nat} {v : V} {d : D} (hi : i < Γ.length) (r : Rq K T H0 q F v d) : Rl K T H0 (Γ.set i (.fz q)) F O (σ.set i (some v)) H (ρ.set i d) := R.setM hi ⟨v, d, rfl, rfl, r⟩
/-- an address more is owned -/
def resv (O : Own) (i : Nat) (a : Addr) : Own := fun j b => O j b ∨ (j = i ∧ b = a)
theorem Rl.res (R : Rl K T H0 Γ F O σ H ρ) {i : Nat} {a : Addr} {o : HO} (ha : H a = some o) (hm : isMut o = true) (hF : F a = none) (hO : ∀ j, ¬ O j a) : Rl K T H0 Γ F (resv O i a) σ H ρ := by
  refine ⟨R.h0, R.fh, fun j b h => ?_, fun j k b h1 h2 => ?_, R.ls, R.lr, fun j m hj => ?_, R.nF, R.tb⟩
  · rcases h with h | ⟨_, h⟩
    · exact R.on j b h
    · subst h; exact ⟨hF, o, ha, hm⟩
  · rcases h1 with h1 | ⟨e1, h1⟩ <;> rcases h2 with h2 | ⟨e2, h2⟩
    · exact R.od j k b h1 h2
    · subst h2; exact (hO j h1).elim
    · subst h1; exact (hO k h2).elim
    · rw [e1, e2]
  · have s := R.sl j m hj
    cases m with
    | no => trivial
    | fz k => exact s
    | fl k => exact s
    | ow k =>
      obtain ⟨b, us, es, h1, h2, h3, h4, h5⟩ := s
      exact ⟨b, us, es, h1, h2, h3, .inl h4, h5⟩
    | os S =>
      obtain ⟨v, d, h1, h2, h3⟩ := s
      exact ⟨v, d, h1, h2, h3.move (.refl _) (fun _ _ => rfl) fun _ h => .inl h⟩
theorem Rl.unres {a : Addr} (R : Rl K T H0 Γ F (resv O Γ.length a) σ H ρ) : Rl K T H0 Γ F O σ H ρ := by
  refine ⟨R.h0, R.fh, fun j b h => R.on j b (.inl h), fun j k b h1 h2 => R.od j k b (.inl h1) (.inl h2), R.ls, R.lr, fun j m hj => ?_, R.nF, R.tb⟩
  have s := R.sl j m hj
  cases m with
  | no => trivial
  | fz k => exact s
  | fl k => exact s
  | ow k =>
    obtain ⟨b, us, es, h1, h2, h3, h4, h5⟩ := s
    refine ⟨b, us, es, h1, h2, h3, ?_, h5⟩
    rcases h4 with h4 | ⟨h4, _⟩
    · exact h4
    · have := (List.getElem?_eq_some_iff.mp hj).1
      omega
  | os S =>
    obtain ⟨v, d, h1, h2, h3⟩ := s
    refine ⟨v, d, h1, h2, h3.move (.refl _) (fun _ _ => rfl) fun b h4 => ?_⟩
    rcases h4 with h4 | ⟨h4, _⟩
    · exact h4
    · have := (List.getElem?_eq_some_iff.mp hj).1
      omega
theorem Rl.upRes {a : Addr} {o : HO} (R : Rl K T H0 Γ F (resv O Γ.length a) σ H ρ) (hm : isMut o = true) : Rl K T H0 Γ F (resv O Γ.length a) σ (upd H a o) ρ := by
  have fa : F a = none := (R.on Γ.length a (.inr ⟨rfl, rfl⟩)).1
  have TB : LamX.Tabs T.t (upd H a o) := by
    obtain ⟨_, u, h1, h2⟩ := R.on Γ.length a (.inr ⟨rfl, rfl⟩)
    exact tabs_up R.tb h1 h2
  refine ⟨R.h0, fun b u e => ?_, fun j b h => ⟨(R.on j b h).1, ?_⟩, R.od, R.ls, R.lr, fun j m hj => ?_, R.nF, TB⟩
  · rw [upd_ne (ne_of_none e fa)]; exact R.fh _ _ e
  · obtain ⟨_, u, h1, h2⟩ := R.on j b h
    by_cases hb : b = a
    · subst hb; exact ⟨o, upd_same, hm⟩
    · exact ⟨u, by rw [upd_ne hb]; exact h1, h2⟩
  · have s := R.sl j m hj
    cases m with
    | no => trivial
    | fz k => exact s
    | fl k => exact s
    | ow k =>
      obtain ⟨b, us, es, h1, h2, h3, h4, h5⟩ := s
      refine ⟨b, us, es, h1, h2, ?_, h4, h5⟩
      have hj2 := (List.getElem?_eq_some_iff.mp hj).1
      rw [upd_ne (fun z => by
        subst z
        have := R.od _ _ _ h4 (.inr ⟨rfl, rfl⟩)
        omega)]
      exact h3
    | os S =>
      obtain ⟨v, d, h1, h2, h3⟩ := s
      have hj2 := (List.getElem?_eq_some_iff.mp hj).1
      refine ⟨v, d, h1, h2, h3.move (.refl _) (fun b hb => ?_) fun _ h => h⟩
      rw [upd_ne (fun z => by
        subst z
        have := R.od _ _ _ hb (.inr ⟨rfl, rfl⟩)
        omega)]
/-- a slot is set to a new list of its own -/
theorem Rl.seto (R : Rl K T H0 Γ F O σ H ρ) {i : Nat} {a : Addr} {vs : List V} {ds : List D} (hi : i < Γ.length) (ha : H a = some (.lst vs)) (hF : F a = none) (hO : ∀ j, ¬ O j a) (r : Rqs K T H0 q F vs ds) :
    Rl K T H0 (Γ.set i (.ow q)) F (resv O i a) (σ.set i (some (.ref a))) H (ρ.set i (.lst ds)) := by
  have R2 := R.res (i := i) ha rfl hF hO
  refine ⟨R2.h0, R2.fh, R2.on, R2.od, by simp [R.ls], by simp [R.lr], fun j mj hj => ?_, R2.nF, R2.tb⟩
  by_cases hji : j = i
  · subst hji
    rw [List.getElem?_set_self hi] at hj
    cases hj
    rw [List.getElem?_set_self (by rw [R.ls]; exact hi), List.getElem?_set_self (by rw [R.lr]; exact hi)]
    exact ⟨a, vs, ds, rfl, rfl, ha, .inr ⟨rfl, rfl⟩, r⟩
  · rw [List.getElem?_set_ne (Ne.symm hji)] at hj
    rw [List.getElem?_set_ne (Ne.symm hji), List.getElem?_set_ne (Ne.symm hji)]
    exact R2.sl j mj hj
/-- the list of slot i is changed -/
theorem Rl.upo {p : Q3} (R : Rl K T H0 Γ F O σ H ρ) {i : Nat} {a : Addr} {vs us : List V} {ds : List D} (hm : Γ[i]? = some (.ow p)) (hs : σ[i]? = some (some (.ref a))) (ha : H a = some (.lst vs)) (hO : O i a) (r : Rqs K T H0 q F us ds) :
    Rl K T H0 (Γ.set i (.ow q)) F O σ (upd H a (.lst us)) (ρ.set i (.lst ds)) := by
  have hi : i < Γ.length := (List.getElem?_eq_some_iff.mp hm).1
  have fa := (R.on i a hO).1
  have TB : LamX.Tabs T.t (upd H a (.lst us)) := tabs_up R.tb ha rfl
  refine ⟨R.h0, fun b o e => ?_, fun j b h => ⟨(R.on j b h).1, ?_⟩, R.od, by simp [R.ls], by simp [R.lr], fun j mj hj => ?_, R.nF, TB⟩
  · rw [upd_ne (ne_of_none e fa)]; exact R.fh _ _ e
  · obtain ⟨_, o, h1, h2⟩ := R.on j b h
    by_cases hb : b = a
    · subst hb; exact ⟨_, upd_same, rfl⟩
    · exact ⟨o, by rw [upd_ne hb]; exact h1, h2⟩
  · by_cases hji : j = i
    · subst hji
      rw [List.getElem?_set_self hi] at hj
      cases hj
      rw [List.getElem?_set_self (by rw [R.lr]; exact hi)]
      exact ⟨a, us, ds, hs, rfl, upd_same, hO, r⟩
    · rw [List.getElem?_set_ne (Ne.symm hji)] at hj
      rw [List.getElem?_set_ne (Ne.symm hji)]
      have s := R.sl j mj hj
      cases mj with
      | no => trivial
      | fz k => exact s
      | fl k => exact s
      | ow k =>
        obtain ⟨b, ws, es, h1, h2, h3, h4, h5⟩ := s
        refine ⟨b, ws, es, h1, h2, ?_, h4, h5⟩
        rw [upd_ne (fun z => by subst z; exact hji (R.od _ _ _ h4 hO))]
        exact h3
      | os S =>
        obtain ⟨v, d, h1, h2, h3⟩ := s
        refine ⟨v, d, h1, h2, h3.move (.refl _) (fun b hb => ?_) fun _ h => h⟩
        rw [upd_ne (fun z => by subst z; exact hji (R.od _ _ _ hb hO))]
end

/-! ### blocks -/
def sNil : SF := fun ρ => some (.nx ρ)
def sSeq (f g : SF) : SF := fun ρ => (f ρ).bind fun o => match o with
  | .nx ρ' => g ρ'
  | o => some o
def sRet (f : EF) : SF := fun ρ => (f ρ).bind fun d => some (.rt d)
def sSet (i : Nat) (f : EF) : SF := fun ρ => (f ρ).bind fun d => some (.nx (ρ.set i d))
def sIf (t : List D → Option Bool) (f g : SF) : SF := fun ρ => (t ρ).bind fun c => if c = true then f ρ else g ρ
def sDrop (f : EF) : SF := fun ρ => (f ρ).bind fun _ => some (.nx ρ)
section
variable {X : Cx} {T : Tb} {H0 : HZ} {Γ Γ1 Γn Γm : List Mode} {J : Jm} {e a b : Expr} {es : List Expr} {st : Stmt} {sts : List Stmt} {f g : SF} {fe fa fb : EF} {k ka kb : Knd} {pos : Pos} {q p : Q3}
theorem Fin.from {K : PySem.W.Frag} {F F' : Hp} {E : Ends} {o : Out} (s : Same F F') (h : Fin K T H0 F Γn J E o) : Fin K T H0 F' Γn J E o := by
  cases o with
  | nx ρ => exact fun F2 O2 σ2 H2 s2 R => h F2 O2 σ2 H2 (s.trans s2) R
  | bk ρ => exact fun F2 O2 σ2 H2 s2 R => h F2 O2 σ2 H2 (s.trans s2) R
  | ct ρ => exact fun F2 O2 σ2 H2 s2 R => h F2 O2 σ2 H2 (s.trans s2) R
  | rt d => exact h
  | ex c es ρ => exact fun F2 O2 σ2 H2 cls od s2 R x => h F2 O2 σ2 H2 cls od (s.trans s2) R x

theorem dss_nil (h : wkAll Γ Γn = true) : DSs X T H0 Γ [] sNil Γn J := PSs.wk pss_nil fun E σ H ⟨F, O, ρ, out, R, hf, hq⟩ => by
  cases hf
  obtain ⟨F', O', s, R'⟩ := wk_of h F O σ H ρ R
  exact hq F' O' σ H s R'
theorem dss_cons (h1 : DS X T H0 Γ st f Γ1 J) (h2 : DSs X T H0 Γ1 sts g Γn J) : DSs X T H0 Γ (st :: sts) (sSeq f g) Γn J := PSs.wk (pss_cons h1 h2) fun E σ H ⟨F, O, ρ, out, R, hf, hq⟩ => by
  unfold sSeq at hf
  cases h1 : f ρ with
  | none => rw [h1] at hf; cases hf
  | some o =>
    rw [h1] at hf
    simp only [Option.bind_some] at hf
    refine ⟨F, O, ρ, o, R, h1, ?_⟩
    cases o with
    | nx ρ' => exact fun F' O' σ' H' s R' => ⟨F', O', ρ', out, R', hf, hq.from s⟩
    | bk ρ' => cases hf; exact hq
    | ct ρ' => cases hf; exact hq
    | rt d => cases hf; exact hq
    | ex c es ρ' => cases hf; exact hq
/-- ahead of a block: modes weakened -/
theorem dss_wk (h : wkAll Γ Γ1 = true) (hs : DSs X T H0 Γ1 sts f Γn J) : DSs X T H0 Γ sts f Γn J := PSs.wk hs fun E σ H ⟨F, O, ρ, out, R, hf, hq⟩ => by
  obtain ⟨F', O', s, R'⟩ := wk_of h F O σ H ρ R
  exact ⟨F', O', ρ, out, R', hf, hq.from s⟩
theorem ds_wk (h : wkAll Γ Γ1 = true) (hs : DS X T H0 Γ1 st f Γn J) : DS X T H0 Γ st f Γn J := PS.wk hs fun E σ H ⟨F, O, ρ, out, R, hf, hq⟩ => by
  obtain ⟨F', O', s, R'⟩ := wk_of h F O σ H ρ R
  exact ⟨F', O', ρ, out, R', hf, hq.from s⟩
theorem ds_pass : DS X T H0 Γ (.Pass pos) sNil Γ J := PS.wk ps_pass fun E σ H ⟨F, O, ρ, out, R, hf, hq⟩ => by
  cases hf; exact hq F O σ H (.refl _) R
def sBrk : SF := fun ρ => some (.bk ρ)
def sCnt : SF := fun ρ => some (.ct ρ)
theorem ds_break (h : wkAll Γ J.b = true) : DS X T H0 Γ (.Break pos) sBrk Γn J := PS.wk ps_break fun E σ H ⟨F, O, ρ, out, R, hf, hq⟩ => by
  cases hf
  obtain ⟨F', O', s, R'⟩ := wk_of h F O σ H ρ R
  exact hq F' O' σ H s R'
theorem ds_cont (h : wkAll Γ J.c = true) : DS X T H0 Γ (.Continue pos) sCnt Γn J := PS.wk ps_continue fun E σ H ⟨F, O, ρ, out, R, hf, hq⟩ => by
  cases hf
  obtain ⟨F', O', s, R'⟩ := wk_of h F O σ H ρ R
  exact hq F' O' σ H s R'
def sNev : SF := fun _ => none
theorem ds_never : DS X T H0 Γ st sNev Γn J := ⟨fun _ _ _ _ _ _ ⟨_, _, _, _, _, hf, _⟩ => nomatch hf⟩
theorem dss_never : DSs X T H0 Γ sts sNev Γn J := ⟨fun _ _ _ _ _ _ ⟨_, _, _, _, _, hf, _⟩ => nomatch hf⟩
theorem ds_if {c : Expr} {t : List D → Option Bool} {as bs : List Stmt} (hc : DT X T H0 Γ c t) (ha : DSs X T H0 Γ as f Γn J) (hb : DSs X T H0 Γ bs g Γn J) : DS X T H0 Γ (.If c as bs pos) (sIf t f g) Γn J :=
  PS.wk (ps_if hc ha hb) fun E σ H ⟨F, O, ρ, out, R, hf, hq⟩ => by
    unfold sIf at hf
    cases h1 : t ρ with
    | none => rw [h1] at hf; cases hf
    | some c =>
      rw [h1] at hf
      simp only [Option.bind_some] at hf
      refine ⟨F, O, ρ, c, R, h1, fun F' H' R' s s' => ?_⟩
      cases c with
      | true => exact ⟨F', O, ρ, out, R', by simpa using hf, hq.from s⟩
      | false => exact ⟨F', O, ρ, out, R', by simpa using hf, hq.from s⟩
theorem ds_ret (he : DE X T H0 Γ e fe (.q q)) (hr : J.r = .q q := by rfl) : DS X T H0 Γ (.Return (some e) pos) (sRet fe) Γn J := PS.wk (ps_ret he) fun E σ H ⟨F, O, ρ, out, R, hf, hq⟩ => by
  unfold sRet at hf
  cases h1 : fe ρ with
  | none => rw [h1] at hf; cases hf
  | some d =>
    rw [h1] at hf
    cases hf
    refine ⟨F, O, ρ, d, R, h1, fun F' H' v R' s s' r => hq H' v ?_⟩
    rw [hr]
    exact ⟨F', R'.h0, R'.fh, ⟨R'.nF, R'.tb⟩, r⟩
theorem ds_reto (he : DE X T H0 Γ e fe (.ol q)) (hr : J.r = .ol q := by rfl) : DS X T H0 Γ (.Return (some e) pos) (sRet fe) Γn J := PS.wk (ps_ret he) fun E σ H ⟨F, O, ρ, out, R, hf, hq⟩ => by
  unfold sRet at hf
  cases h1 : fe ρ with
  | none => rw [h1] at hf; cases hf
  | some d =>
    rw [h1] at hf
    cases hf
    refine ⟨F, O, ρ, d, R, h1, fun F' H' v R' s s' r => hq H' v ?_⟩
    rw [hr]
    obtain ⟨a, vs, ds, e1, e2, h1, h2, h3, h4⟩ := r
    exact ⟨F', a, vs, ds, e1, e2, R'.h0, R'.fh, ⟨R'.nF, R'.tb⟩, h1, h2, h4⟩
/-- an own list is handed back -/
theorem ds_retv (i : Nat) (hm : Γ[i]? = some (.ow p)) {x : Str} {pos' : Pos} (h : PE X (.Name x pos') (tVar i)) (hl : p.le q = true := by rfl) (hr : J.r = .ol q := by rfl) : DS X T H0 Γ (.Return (some (.Name x pos')) pos) (sRet (eV i)) Γn J :=
  PS.wk (ps_ret h) fun E σ H ⟨F, O, ρ, out, R, hf, hq⟩ => by
    obtain ⟨a, vs, ds, h1, h2, h3, h4, h5⟩ := R.sl i _ hm
    have e : sRet (eV i) ρ = some (.rt (.lst ds)) := by unfold sRet eV; rw [h2]; rfl
    rw [e] at hf
    cases hf
    refine ⟨_, h1, hq H _ ?_⟩
    rw [hr]
    exact ⟨F, a, vs, ds, rfl, rfl, R.h0, R.fh, ⟨R.nF, R.tb⟩, h3, (R.on i a h4).1, h5.mono (.refl _) (NK.le hl)⟩
theorem ds_retN (hr : J.r = .q q := by rfl) : DS X T H0 Γ (.Return none pos) (sRet (eK .non)) Γn J := PS.wk ps_retN fun E σ H ⟨F, O, ρ, out, R, hf, hq⟩ => by
  cases hf
  refine hq H .non ?_
  rw [hr]
  exact ⟨F, R.h0, R.fh, ⟨R.nF, R.tb⟩, .non⟩
/-- name = e -/
theorem set_sem {K : PySem.W.Frag} {i : Nat} (hi : i < Γ.length) : ∀ E σ H, tDS K T H0 Γ (sSet i fe) (Γ.set i (.fz q)) J E σ H → tAsg (tD K T H0 Γ fe (.q q)) (gName i) E σ H := fun E σ H ⟨F, O, ρ, out, R, hf, hq⟩ => by
  unfold sSet at hf
  cases h1 : fe ρ with
  | none => rw [h1] at hf; cases hf
  | some d =>
    rw [h1] at hf
    cases hf
    refine ⟨F, O, ρ, d, R, h1, fun F' H' v R' s s' r => ?_⟩
    exact hq F' O _ H' s (R'.setq hi r)
theorem setf_sem {K : PySem.W.Frag} {i : Nat} (hi : i < Γ.length) : ∀ E σ H, tDS K T H0 Γ (sSet i fe) (Γ.set i (.fl q)) J E σ H → tAsg (tD K T H0 Γ fe (.fl q)) (gName i) E σ H := fun E σ H ⟨F, O, ρ, out, R, hf, hq⟩ => by
  unfold sSet at hf
  cases h1 : fe ρ with
  | none => rw [h1] at hf; cases hf
  | some d =>
    rw [h1] at hf
    cases hf
    refine ⟨F, O, ρ, d, R, h1, fun F' H' v R' s s' ⟨a, vs, ds, e1, e2, h3, h4⟩ => ?_⟩
    subst e1; subst e2
    exact hq F' O _ H' s (R'.setM (m := .fl q) hi ⟨a, vs, ds, rfl, rfl, h3, h4⟩)
theorem seto_sem {K : PySem.W.Frag} {i : Nat} (hi : i < Γ.length) : ∀ E σ H, tDS K T H0 Γ (sSet i fe) (Γ.set i (.ow q)) J E σ H → tAsg (tD K T H0 Γ fe (.ol q)) (gName i) E σ H := fun E σ H ⟨F, O, ρ, out, R, hf, hq⟩ => by
  unfold sSet at hf
  cases h1 : fe ρ with
  | none => rw [h1] at hf; cases hf
  | some d =>
    rw [h1] at hf
    cases hf
    refine ⟨F, O, ρ, d, R, h1, fun F' H' v R' s s' ⟨a, vs, ds, e1, e2, h2, h3, h4, h5⟩ => ?_⟩
    subst e1; subst e2
    exact hq F' _ _ H' s (R'.seto hi h2 h3 h4 h5)
variable {x : Str} {pos' : Pos} {i j : Nat}
theorem ds_set (hN : X.N.Nodup) (hi : X.N[i]? = some x) (hx : Loc X.env.scope x) (he : DE X T H0 Γ e fe (.q q)) (hl : i < Γ.length := by decide) (hs : swapsWith e (some (.Name x pos')) pos.line X.env = pure false := by rfl)
    (hf : X.fn x = true ∨ X.env.scope.names.lookup x = some .local := by first | exact .inl rfl | exact .inr rfl | assumption) : DS X T H0 Γ (.Assign [.Name x pos'] e pos) (sSet i fe) (Γ.set i (.fz q)) J := PS.wk (ps_set hN hi hx he hs hf) (set_sem hl)
theorem ds_setf (hN : X.N.Nodup) (hi : X.N[i]? = some x) (hx : Loc X.env.scope x) (he : DE X T H0 Γ e fe (.fl q)) (hl : i < Γ.length := by decide) (hs : swapsWith e (some (.Name x pos')) pos.line X.env = pure false := by rfl)
    (hf : X.fn x = true ∨ X.env.scope.names.lookup x = some .local := by first | exact .inl rfl | exact .inr rfl | assumption) : DS X T H0 Γ (.Assign [.Name x pos'] e pos) (sSet i fe) (Γ.set i (.fl q)) J := PS.wk (ps_set hN hi hx he hs hf) (setf_sem hl)
theorem ds_seto (hN : X.N.Nodup) (hi : X.N[i]? = some x) (hx : Loc X.env.scope x) (he : DE X T H0 Γ e fe (.ol q)) (hl : i < Γ.length := by decide) (hs : swapsWith e (some (.Name x pos')) pos.line X.env = pure false := by rfl)
    (hf : X.fn x = true ∨ X.env.scope.names.lookup x = some .local := by first | exact .inl rfl | exact .inr rfl | assumption) : DS X T H0 Γ (.Assign [.Name x pos'] e pos) (sSet i fe) (Γ.set i (.ow q)) J := PS.wk (ps_set hN hi hx he hs hf) (seto_sem hl)
theorem ds_drop (he : DE X T H0 Γ e fe k) (hs : swapsWith e none pos.line X.env = pure false := by rfl) : DS X T H0 Γ (.Expr e pos) (sDrop fe) Γ J := PS.wk (ps_expr he hs) fun E σ H ⟨F, O, ρ, out, R, hf, hq⟩ => by
  unfold sDrop at hf
  cases h1 : fe ρ with
  | none => rw [h1] at hf; cases hf
  | some d =>
    rw [h1] at hf
    cases hf
    exact ⟨F, O, ρ, d, R, h1, fun F' H' v R' s s' r => hq F' O σ H' s R'⟩

/-! ### targets -/
/-- the target g does tg upon slots, of vs alone -/
def TgS (K : PySem.W.Frag) (T : Tb) (H0 : HZ) (Γ : List Mode) (g : TG) (vs : List Nat) (tg : D → List D → Option (List D)) (q : Q3) (Γ' : List Mode) : Prop :=
  ∀ F O σ H ρ v d ρ' Q, Rl K T H0 Γ F O σ H ρ → Rq K T H0 q F v d → tg d ρ = some ρ' → (∀ σ', Rl K T H0 Γ' F O σ' H ρ' → (∀ j, j ∉ vs → σ'[j]? = σ[j]?) → σ'.length = σ.length → Q σ' H) → g v σ H Q
def tgN (i : Nat) : D → List D → Option (List D) := fun d ρ => some (ρ.set i d)
def setAll : List Nat → List D → List D → Option (List D)
  | [], [], ρ => some ρ
  | i :: is, d :: ds, ρ => setAll is ds (ρ.set i d)
  | _, _, _ => none
def tgT (is : List Nat) : D → List D → Option (List D) := fun d ρ => match d with
  | .tup ds => setAll is ds ρ
  | _ => none
def setMs (q : Q3) : List Nat → List Mode → List Mode
  | [], Γ => Γ
  | i :: is, Γ => setMs q is (Γ.set i (.fz q))
def gNames : List Nat → TGs
  | [] => gNil
  | i :: is => gCons (gName i) (gNames is)
theorem tgs_n {K : PySem.W.Frag} (hi : i < Γ.length) : TgS K T H0 Γ (gName i) [i] (tgN i) q (Γ.set i (.fz q)) := fun F O σ H ρ v d ρ' Q R r h hq => by
  cases h
  refine hq _ (R.setq hi r) (fun j hj => ?_) (by simp)
  rw [List.getElem?_set_ne (fun z => hj (by simp [z]))]
theorem gNames_sem {K : PySem.W.Frag} : ∀ (is : List Nat) {Γ : List Mode} (hl : is.all (fun i => decide (i < Γ.length)) = true) {F : Hp} {O : Own} {σ : L2.St} {H : Hp} {ρ ρ' : List D} {vs : List V} {ds : List D} {Q : L2.St → Hp → Prop},
    Rl K T H0 Γ F O σ H ρ → Rqs K T H0 q F vs ds → setAll is ds ρ = some ρ' → (∀ σ', Rl K T H0 (setMs q is Γ) F O σ' H ρ' → (∀ j, j ∉ is → σ'[j]? = σ[j]?) → σ'.length = σ.length → Q σ' H) → gNames is vs σ H Q
  | [], Γ, hl, F, O, σ, H, ρ, ρ', vs, ds, Q, R, r, h, hq => by
    cases r with
    | nil =>
      cases h
      exact ⟨rfl, hq σ R (fun _ _ => rfl) rfl⟩
    | cons _ _ => cases h
  | i :: is, Γ, hl, F, O, σ, H, ρ, ρ', vs, ds, Q, R, r, h, hq => by
    rw [List.all_cons, Bool.and_eq_true] at hl
    cases r with
    | nil => cases h
    | @cons v vs d ds h1 h2 =>
      have R' := R.setq (of_decide_eq_true hl.1) h1
      refine ⟨v, vs, rfl, ?_⟩
      refine gNames_sem is (by simpa using hl.2) R' h2 h fun σ2 R2 h3 h4 => hq σ2 R2 (fun j hj => ?_) (by rw [h4]; simp)
      simp only [List.mem_cons, not_or] at hj
      rw [h3 j hj.2, List.getElem?_set_ne (fun z => hj.1 z.symm)]
theorem RepsG.len {K : PySem.W.Frag} {N : Addr → Prop} {F : Hp} {vs : List V} {ds : List D} (h : RepsG K T N F vs ds) : vs.length = ds.length := h.length
theorem setAll_len : ∀ {is : List Nat} {ds ρ ρ' : List D}, setAll is ds ρ = some ρ' → ds.length = is.length
  | [], [], _, _, _ => rfl
  | i :: is, d :: ds, ρ, ρ', h => by
    have h : setAll is ds (ρ.set i d) = some ρ' := h
    rw [List.length_cons, List.length_cons, setAll_len h]
  | [], _ :: _, _, _, h => nomatch h
  | _ :: _, [], _, _, h => nomatch h
theorem tgs_t {K : PySem.W.Frag} {is : List Nat} (hl : is.all (fun i => decide (i < Γ.length)) = true) : TgS K T H0 Γ (gTup K is.length (gNames is)) is (tgT is) q (setMs q is Γ) := fun F O σ H ρ v d ρ' Q R r h hq => by
  unfold tgT at h
  split at h
  · cases r with
    | @tup a vs ds hs rs =>
      refine ⟨a, vs, rfl, ?_, ?_, gNames_sem is hl R rs h hq⟩
      · exact SqT.of (R.fh _ _ hs)
      · rw [rs.length, setAll_len h]
  · cases h
/-- a, b = e -/
def sTg (tg : D → List D → Option (List D)) (f : EF) : SF := fun ρ => (f ρ).bind fun d => (tg d ρ).bind fun ρ' => some (.nx ρ')
theorem ds_tg {tge : Expr} {gg : TG} {vs : List Nat} {tg : D → List D → Option (List D)} (he : DE X T H0 Γ e fe (.q q)) (hg : PG X tge gg) (hs : TgS X.K T H0 Γ gg vs tg q Γ1) (h1 : swapsWithSole [tge] e pos.line X.env = pure false := by rfl) (hw : swappedStores [tge] e X.env = pure none := by rfl)
    (h2 : (assignEach [tge] X.env).map (·.2) = [assign tge X.env] := by rfl) : DS X T H0 Γ (.Assign [tge] e pos) (sTg tg fe) Γ1 J := PS.wk (ps_asg he hg h1 hw h2) fun E σ H ⟨F, O, ρ, out, R, hf, hq⟩ => by
  unfold sTg at hf
  cases h1 : fe ρ with
  | none => rw [h1] at hf; cases hf
  | some d =>
    rw [h1] at hf
    simp only [Option.bind_some] at hf
    cases h2 : tg d ρ with
    | none => rw [h2] at hf; cases hf
    | some ρ' =>
      rw [h2] at hf
      cases hf
      exact ⟨F, O, ρ, d, R, h1, fun F' H' v R' s s' r => hs F' O σ H' ρ v d ρ' _ R' r h2 fun σ' R2 _ _ => hq F' O σ' H' s R2⟩
/-- a, b = x, y -/
def sPar (i j : Nat) (fs : List D → Option (List D)) : SF := fun ρ => (fs ρ).bind fun ds => match ds with
  | [a, b] => some (.nx ((ρ.set i a).set j b))
  | _ => none
theorem ds_par {fs : List D → Option (List D)} {y : Str} {px py pt : Pos} {kt k2 pt2} (hc : X.calm = true) (hN : X.N.Nodup) (hi : X.N[i]? = some x) (hj : X.N[j]? = some y) (hij : i ≠ j)
    (hx : X.env.scope.names.lookup x = some .local) (hy : X.env.scope.names.lookup y = some .local) (ha : DQ X T H0 Γ [a, b] fs q) (hl : i < Γ.length) (hl2 : j < Γ.length)
    (hw : swappedStores [.Tuple [.Name x px, .Name y py] kt pt] (.Tuple [a, b] k2 pt2) X.env = pure (some [x, y]))
    (hs : swapsWithSole [.Tuple [.Name x px, .Name y py] kt pt] (.Tuple [a, b] k2 pt2) pos.line X.env = pure false := by rfl) : DS X T H0 Γ (.Assign [.Tuple [.Name x px, .Name y py] kt pt] (.Tuple [a, b] k2 pt2) pos) (sPar i j fs) ((Γ.set i (.fz q)).set j (.fz q)) J :=
  PS.wk (ps_par hc hN hi hj hij hx hy ha hw hs) fun E σ H ⟨F, O, ρ, out, R, hf, hq⟩ => by
    unfold sPar at hf
    cases h1 : fs ρ with
    | none => rw [h1] at hf; cases hf
    | some ds =>
      rw [h1] at hf
      simp only [Option.bind_some] at hf
      split at hf
      · cases hf
        refine ⟨F, O, ρ, _, R, h1, fun F' H' vs R' s s' r => ?_⟩
        cases r with
        | cons r1 r =>
          cases r with
          | cons r2 r =>
            cases r
            exact ⟨_, _, rfl, hq F' O _ H' s ((R'.setq hl r1).setq (by simpa using hl2) r2)⟩
      · cases hf
end
end DL

namespace DL
open PySem PySem.Spec PyProof.Rows L2

/-! ### what is walked -/
/-- the iterator J gives the items, of kind q, wherever F1 is frozen and (for a comprehension's walk, c) H1 stands -/
def ItOk (K : PySem.W.Frag) (T : Tb) (H0 : Hp) (J : It) (items : List D) (q : Q3) (c : Bool) (F1 H1 : Hp) : Prop :=
  ∀ (i : Nat) (F2 H2 : Hp), Same F1 F2 → Same F2 H2 → (c = true → Sm H1 H2) →
    (∀ d, items[i]? = some d → J.go i H2 ∧ ∀ x H3, J.yld i H2 x H3 → Same H2 H3 ∧ ∃ F3, Same F2 F3 ∧ Same F3 H3 ∧ ((∀ b, F2 b = none → (∃ o, H2 b = some o ∧ isMut o = true) → F3 b = none) ∧ (NoT F2 → NoT F3)) ∧ Rq K T H0 q F3 x d) ∧
    (items.length ≤ i → J.stop i H2)
def tDI (K : PySem.W.Frag) (T : Tb) (H0 : HZ) (Γ : List Mode) (fi : List D → Option (List D)) (q : Q3) (c : Bool) : TI := fun σ H R =>
  ∃ F O ρ items, Rl K T H0 Γ F O σ H ρ ∧ fi ρ = some items ∧ ∀ F' H' J, Rl K T H0 Γ F' O σ H' ρ → Same F F' → Sm H H' → ItOk K T H0 J items q c F' H' → R J H'
abbrev DI (X : Cx) (T : Tb) (H0 : HZ) (Γ : List Mode) (tg iter : Expr) (fi : List D → Option (List D)) (q : Q3) (c : Bool) : Prop := PI X tg iter (tDI X.K T H0 Γ fi q c)
def iSeq (f : EF) : List D → Option (List D) := fun ρ => (f ρ).bind fun d => match d with
  | .lst ds => some ds
  | .scr ds => some ds
  | _ => none
def iTupD (f : EF) : List D → Option (List D) := fun ρ => (f ρ).bind fun d => match d with
  | .tup ds => some ds
  | _ => none
theorem small62 {i : Int} (h : small 62 i) : -(2 ^ 62) ≤ i ∧ i < 2 ^ 62 := by
  have h1 := small_lt h
  rw [show (2 : Nat) ^ 62 = 4611686018427387904 from by decide] at h1
  rw [show (2 : Int) ^ 62 = 4611686018427387904 from by decide]
  omega
def rangeD (lo hi : Int) : List D := (List.range (hi - lo).toNat).map fun i => D.int (lo + (i : Nat))
def iRg1 (f : EF) : List D → Option (List D) := fun ρ => (f ρ).bind fun d => match d with
  | .int j => if small 62 j then some (rangeD 0 j) else none
  | _ => none
def iRg2 (f g : EF) : List D → Option (List D) := fun ρ => (f ρ).bind fun d => (g ρ).bind fun d' => match d, d' with
  | .int i, .int j => if small 62 i ∧ small 62 j then some (rangeD i j) else none
  | _, _ => none
section
variable {X : Cx} {T : Tb} {H0 : HZ} {Γ Γ1 Γn Γm : List Mode} {J : Jm} {e a b tg iter : Expr} {es : List Expr} {st : Stmt} {sts : List Stmt} {f g : SF} {fe fa fb : EF} {k ka kb : Knd} {pos : Pos} {q p : Q3} {fi : List D → Option (List D)} {c : Bool}
theorem PI.wk {t t' : TI} (h : PI X tg iter t) (i : ∀ σ H R, t' σ H R → t σ H R) : PI X tg iter t' := ⟨fun pins s σ H R I w => h.run pins s σ H R I (i _ _ _ w)⟩
theorem di_c (h : DI X T H0 Γ tg iter fi q false) : DI X T H0 Γ tg iter fi q true := PI.wk h fun σ H R ⟨F, O, ρ, items, r, hf, hq⟩ =>
  ⟨F, O, ρ, items, r, hf, fun F' H' J R' s s' ok => hq F' H' J R' s s' fun i F2 H2 h1 h2 _ => ok i F2 H2 h1 h2 fun z => nomatch z⟩
theorem di_q (h : DI X T H0 Γ tg iter fi p c) (hl : p.le q = true := by rfl) : DI X T H0 Γ tg iter fi q c := PI.wk h fun σ H R ⟨F, O, ρ, items, r, hf, hq⟩ =>
  ⟨F, O, ρ, items, r, hf, fun F' H' J R' s s' ok => hq F' H' J R' s s' fun i F2 H2 h1 h2 h3 => by
    obtain ⟨x, y⟩ := ok i F2 H2 h1 h2 h3
    refine ⟨fun d hd => ?_, y⟩
    obtain ⟨g, z⟩ := x d hd
    refine ⟨g, fun x H3 hy => ?_⟩
    obtain ⟨a, F3, b, c, d, e⟩ := z x H3 hy
    exact ⟨a, F3, b, c, d, e.mono (.refl _) (NK.le hl)⟩⟩
/-- a list that is frozen -/
theorem itl_ok {K : PySem.W.Frag} {a : Addr} {vs : List V} {ds : List D} {F1 H1 : Hp} (hs : SqL K F1 a vs) (rs : Rqs K T H0 q F1 vs ds) : ItOk K T H0 (Itl K a) ds q c F1 H1 := fun i F2 H2 h1 h2 _ => by
  have hs2 : SqL K H2 a vs := (h1.trans h2).seq hs
  refine ⟨fun d hd => ?_, fun hl => ⟨vs, hs2, by rw [rs.length]; exact hl⟩⟩
  obtain ⟨v, hv, rv⟩ := rs.get hd
  refine ⟨⟨vs, v, hs2, hv⟩, fun x H3 ⟨e1, e2⟩ => ?_⟩
  subst e1
  have := e2 vs hs2
  rw [hv] at this; cases this
  exact ⟨.refl _, F2, .refl _, h2, ⟨fun b h _ => h, fun n => n⟩, h1.rq rv⟩
theorem di_list (he : DE X T H0 Γ e fe (.q q)) : DI X T H0 Γ tg e (iSeq fe) q c := PI.wk (pi_list he) fun σ H R ⟨F, O, ρ, items, r, hf, hq⟩ => by
  unfold iSeq at hf
  cases h1 : fe ρ with
  | none => rw [h1] at hf; cases hf
  | some d =>
    rw [h1] at hf
    simp only [Option.bind_some] at hf
    refine ⟨F, O, ρ, d, r, h1, fun F' H' v R' s s' rv => ?_⟩
    split at hf
    · cases hf
      cases rv with
      | @lst a vs ds h2 h3 h4 => exact ⟨a, rfl, ⟨vs, .inl (.inl (R'.fh _ _ h2))⟩, hq F' H' _ R' s s' (itl_ok (.inl (.inl h2)) h4)⟩
    · cases hf
      cases rv with
      | @scr a vs ds h2 h4 => exact ⟨a, rfl, ⟨vs, (same_sqS R'.fh h2).seq⟩, hq F' H' _ R' s s' (itl_ok h2.seq h4)⟩
    · cases hf
theorem di_listf (he : DE X T H0 Γ e fe (.fl q)) : DI X T H0 Γ tg e (iSeq fe) q c := PI.wk (pi_list he) fun σ H R ⟨F, O, ρ, items, r, hf, hq⟩ => by
  unfold iSeq at hf
  cases h1 : fe ρ with
  | none => rw [h1] at hf; cases hf
  | some d =>
    rw [h1] at hf
    simp only [Option.bind_some] at hf
    refine ⟨F, O, ρ, d, r, h1, fun F' H' v R' s s' ⟨a, vs, ds, e1, e2, h2, h4⟩ => ?_⟩
    subst e1; subst e2
    cases hf
    exact ⟨a, rfl, ⟨vs, .inl (.inl (R'.fh _ _ h2))⟩, hq F' H' _ R' s s' (itl_ok (.inl (.inl h2)) h4)⟩
/-- a list as it stands: for a comprehension -/
theorem di_listb (he : DE X T H0 Γ e fe (.bl q)) : DI X T H0 Γ tg e (iSeq fe) q true := PI.wk (pi_list he) fun σ H R ⟨F, O, ρ, items, r, hf, hq⟩ => by
  unfold iSeq at hf
  cases h1 : fe ρ with
  | none => rw [h1] at hf; cases hf
  | some d =>
    rw [h1] at hf
    simp only [Option.bind_some] at hf
    refine ⟨F, O, ρ, d, r, h1, fun F' H' v R' s s' ⟨a, vs, ds, e1, e2, h2, h4⟩ => ?_⟩
    subst e1; subst e2
    cases hf
    refine ⟨a, rfl, ⟨vs, .inl (.inl h2)⟩, hq F' H' _ R' s s' fun i F2 H2 g1 g2 g3 => ?_⟩
    have hs2 : SqL X.K H2 a vs := (g3 rfl).seq (.inl (.inl h2))
    refine ⟨fun d hd => ?_, fun hl => ⟨vs, hs2, by rw [h4.length]; exact hl⟩⟩
    obtain ⟨v, hv, rv⟩ := h4.get hd
    refine ⟨⟨vs, v, hs2, hv⟩, fun x H3 ⟨e1, e2⟩ => ?_⟩
    subst e1
    have := e2 vs hs2
    rw [hv] at this; cases this
    exact ⟨.refl _, F2, .refl _, g2, ⟨fun b h _ => h, fun n => n⟩, g1.rq rv⟩
theorem di_tup (he : DE X T H0 Γ e fe (.q q)) : DI X T H0 Γ tg e (iTupD fe) q c := PI.wk (pi_tup he) fun σ H R ⟨F, O, ρ, items, r, hf, hq⟩ => by
  unfold iTupD at hf
  cases h1 : fe ρ with
  | none => rw [h1] at hf; cases hf
  | some d =>
    rw [h1] at hf
    simp only [Option.bind_some] at hf
    refine ⟨F, O, ρ, d, r, h1, fun F' H' v R' s s' rv => ?_⟩
    split at hf
    · cases hf
      cases rv with
      | @tup a vs ds h2 h4 =>
        refine ⟨a, rfl, ⟨vs, SqT.of (R'.fh _ _ h2)⟩, hq F' H' _ R' s s' fun i F2 H2 g1 g2 _ => ?_⟩
        have hs2 : SqT X.K H2 a vs := SqT.of ((g1.trans g2) _ _ h2)
        refine ⟨fun d hd => ?_, fun hl => ⟨vs, hs2, by rw [h4.length]; exact hl⟩⟩
        obtain ⟨v, hv, rv⟩ := h4.get hd
        refine ⟨⟨vs, v, hs2, hv⟩, fun x H3 ⟨e1, e2⟩ => ?_⟩
        subst e1
        have := e2 vs hs2
        rw [hv] at this; cases this
        exact ⟨.refl _, F2, .refl _, g2, ⟨fun b h _ => h, fun n => n⟩, g1.rq rv⟩
    · cases hf
theorem itr_ok {K : PySem.W.Frag} {lo hi : Int} {F1 H1 : Hp} : ItOk K T H0 (Itr lo (hi - lo).toNat) (rangeD lo hi) q c F1 H1 := fun i F2 H2 h1 h2 _ => by
  refine ⟨fun d hd => ?_, fun hl => by
    have e : (rangeD lo hi).length = (hi - lo).toNat := by simp [rangeD]
    rw [e] at hl; exact hl⟩
  unfold rangeD at hd
  rw [List.getElem?_map] at hd
  by_cases hi' : i < (hi - lo).toNat
  · rw [List.getElem?_range hi'] at hd
    cases hd
    refine ⟨hi', fun x H3 ⟨e1, e2⟩ => ?_⟩
    subst e1; subst e2
    exact ⟨.refl _, F2, .refl _, h2, ⟨fun b h _ => h, fun n => n⟩, .int _⟩
  · rw [List.getElem?_eq_none (by simpa using hi')] at hd
    cases hd
variable {po : Pos}
theorem di_range1 (hg : Gl X "range") (hm : X.mg "range" = none) (ha : DE X T H0 Γ a fa ka) (hs : starEach [a] X.env = [(false, eval a X.env)] := by rfl) : DI X T H0 Γ tg (.Call (.Name "range" po) [a] [] pos) (iRg1 fa) q c :=
  PI.wk (pi_range1 hg hm (da_cons ha da_nil hs) hs) fun σ H R ⟨F, O, ρ, items, r, hf, hq⟩ => by
    unfold iRg1 at hf
    cases h1 : fa ρ with
    | none => rw [h1] at hf; cases hf
    | some d =>
      rw [h1] at hf
      simp only [Option.bind_some] at hf
      split at hf
      · split at hf
        · rename_i j hb
          cases hf
          refine ⟨F, O, ρ, [.int j], r, by unfold aCons aNil; rw [h1]; rfl, fun F' H' vs R' s s' rv => ?_⟩
          cases rv with
          | cons r1 r2 =>
            cases r2
            cases r1
            refine ⟨j, rfl, (small62 hb).1, (small62 hb).2, hq F' H' _ R' s s' ?_⟩
            have := @itr_ok T H0 q c X.K 0 j F' H'
            rwa [Int.sub_zero] at this
        · cases hf
      · cases hf
theorem di_range2 (hg : Gl X "range") (hm : X.mg "range" = none) (ha : DE X T H0 Γ a fa ka) (hb : DE X T H0 Γ b fb kb) (hs : starEach [a, b] X.env = [(false, eval a X.env), (false, eval b X.env)] := by rfl) (hs2 : starEach [b] X.env = [(false, eval b X.env)] := by rfl) :
    DI X T H0 Γ tg (.Call (.Name "range" po) [a, b] [] pos) (iRg2 fa fb) q c :=
  PI.wk (pi_range2 hg hm (da_cons ha (da_cons hb da_nil hs2) (by rw [hs, hs2])) hs hs2) fun σ H R ⟨F, O, ρ, items, r, hf, hq⟩ => by
    unfold iRg2 at hf
    cases h1 : fa ρ with
    | none => rw [h1] at hf; cases hf
    | some d =>
      rw [h1] at hf
      simp only [Option.bind_some] at hf
      cases h2 : fb ρ with
      | none => rw [h2] at hf; cases hf
      | some d' =>
        rw [h2] at hf
        simp only [Option.bind_some] at hf
        split at hf
        · split at hf
          · rename_i i j hb
            cases hf
            refine ⟨F, O, ρ, [.int i, .int j], r, by unfold aCons aNil; rw [h1, h2]; rfl, fun F' H' vs R' s s' rv => ?_⟩
            cases rv with
            | cons r1 r2 =>
              cases r2 with
              | cons r2 r3 =>
                cases r3
                cases r1
                cases r2
                exact ⟨i, j, rfl, ⟨(small62 hb.1).1, (small62 hb.1).2, (small62 hb.2).1, (small62 hb.2).2⟩, hq F' H' _ R' s s' itr_ok⟩
          · cases hf
        · cases hf

/-! ### for -/
def clrs : List Nat → List D → List D
  | [], ρ => ρ
  | i :: is, ρ => clrs is (ρ.set i .non)
def loopD (tg : D → List D → Option (List D)) (body : SF) (cl : List Nat) : List D → SF
  | [], ρ => some (.nx ρ)
  | x :: xs, ρ => (tg x ρ).bind fun ρ1 => (body ρ1).bind fun o => match o with
    | .nx ρ2 => loopD tg body cl xs (clrs cl ρ2)
    | .ct ρ2 => loopD tg body cl xs (clrs cl ρ2)
    | .bk ρ2 => some (.nx (clrs cl ρ2))
    | .rt d => some (.rt d)
    | .ex c es ρ2 => some (.ex c es ρ2)
def sFor (fi : List D → Option (List D)) (tg : D → List D → Option (List D)) (body : SF) (cl : List Nat) : SF := fun ρ => (fi ρ).bind fun items => loopD tg body cl items (clrs cl ρ)
theorem Rl.clr {K : PySem.W.Frag} {F H : Hp} {O : Own} {σ : L2.St} : ∀ {cl : List Nat} {ρ : List D}, cl.all (fun i => decide (Γ[i]? = some .no)) = true → Rl K T H0 Γ F O σ H ρ → Rl K T H0 Γ F O σ H (clrs cl ρ)
  | [], _, _, R => R
  | i :: cl, ρ, h, R => by
    rw [List.all_cons, Bool.and_eq_true] at h
    refine Rl.clr (cl := cl) (ρ := ρ.set i .non) h.2 ⟨R.h0, R.fh, R.on, R.od, R.ls, by simp [R.lr], fun j m hm => ?_, R.nF, R.tb⟩
    by_cases hj : j = i
    · subst hj
      rw [of_decide_eq_true h.1] at hm
      cases hm
      trivial
    · rw [List.getElem?_set_ne (Ne.symm hj)]
      exact R.sl j m hm
theorem ds_for {gg : TG} {vs : List Nat} {tgd : D → List D → Option (List D)} {body : List Stmt} {cl : List Nat} (hp : PassesOwn (model X.prog X.w) X.A X.env X.xe) (hc : X.calm = true)
    (hi : DI X T H0 Γ tg iter fi q false) (hg : PG X tg gg) (hs : TgS X.K T H0 Γ gg vs tgd q Γ1) (hb : DSs X T H0 Γ1 body f Γ ⟨Γ, Γ, J.r, J.x, J.w⟩)
    (hcl : cl.all (fun i => decide (Γ[i]? = some .no)) = true) (hfs : ∀ x, foldedSetIterable iter X.env x = pure x := by intro _; rfl) : DS X T H0 Γ (.For tg iter body [] pos) (sFor fi tgd f cl) Γ J :=
  PS.wk (ps_for hp hc hi hg hb hfs) fun E σ H ⟨F, O, ρ, out, R, hf, hq⟩ => by
    unfold sFor at hf
    cases h1 : fi ρ with
    | none => rw [h1] at hf; cases hf
    | some items =>
      rw [h1] at hf
      simp only [Option.bind_some] at hf
      refine ⟨F, O, ρ, items, R, h1, fun F1 H1 J1 R1 s1 s1' ok => ?_⟩
      refine ⟨fun i m σ H => m = items.length - i ∧ i ≤ items.length ∧ ∃ F2 O2 ρ2 out2, Same F1 F2 ∧ Rl X.K T H0 Γ F2 O2 σ H ρ2 ∧ loopD tgd f cl (items.drop i) ρ2 = some out2 ∧ Fin X.K T H0 F2 Γ J E out2,
        ⟨items.length, by simp, Nat.zero_le _, F1, O, clrs cl ρ, out, .refl _, R1.clr hcl, by simpa using hf, hq.from s1⟩, ?_⟩
      rintro i m σ2 H2 ⟨rfl, hi, F2, O2, ρ2, out2, s2, R2, hl, hq2⟩
      obtain ⟨ok1, ok2⟩ := ok i F2 H2 s2 R2.fh (fun z => nomatch z)
      by_cases hlt : i < items.length
      · obtain ⟨hgo, hy⟩ := ok1 items[i] (List.getElem?_eq_getElem hlt)
        rw [List.drop_eq_getElem_cons hlt] at hl
        unfold loopD at hl
        cases h3 : tgd items[i] ρ2 with
        | none => rw [h3] at hl; cases hl
        | some ρ3 =>
          rw [h3] at hl
          simp only [Option.bind_some] at hl
          cases h4 : f ρ3 with
          | none => rw [h4] at hl; cases hl
          | some o4 =>
            rw [h4] at hl
            simp only [Option.bind_some] at hl
            refine .inr ⟨hgo, fun σ5 H5 => ∃ F5 O5 ρ5 out5, Same F1 F5 ∧ Rl X.K T H0 Γ F5 O5 σ5 H5 ρ5 ∧ loopD tgd f cl (items.drop (i + 1)) ρ5 = some out5 ∧ Fin X.K T H0 F5 Γ J E out5,
              fun σ5 H5 h5 => ⟨items.length - (i + 1), by omega, rfl, hlt, h5⟩, fun x H3 hx => ?_⟩
            obtain ⟨t3, F3, u3, v3, w3, r3⟩ := hy x H3 hx
            have R3 : Rl X.K T H0 Γ F3 O2 σ2 H3 ρ2 := (R2.growN t3).more u3 v3 (w3.2 R2.nF) fun j b hb => by
              obtain ⟨z1, o, z2, z3⟩ := R2.on j b hb
              exact w3.1 b z1 ⟨o, z2, z3⟩
            refine hs F3 O2 σ2 H3 ρ2 x _ ρ3 _ R3 r3 h3 fun σ4 R4 _ _ => ⟨F3, O2, ρ3, o4, R4, h4, ?_⟩
            cases o4 with
            | nx ρ' => exact fun F6 O6 σ6 H6 s6 R6 => ⟨F6, O6, _, out2, (s2.trans u3).trans s6, R6.clr hcl, hl, hq2.from (u3.trans s6)⟩
            | ct ρ' => exact fun F6 O6 σ6 H6 s6 R6 => ⟨F6, O6, _, out2, (s2.trans u3).trans s6, R6.clr hcl, hl, hq2.from (u3.trans s6)⟩
            | bk ρ' =>
              cases hl
              exact fun F6 O6 σ6 H6 s6 R6 => hq2 F6 O6 σ6 H6 (u3.trans s6) (R6.clr hcl)
            | rt d =>
              cases hl
              exact hq2
            | ex c es ρ' =>
              cases hl
              exact fun F6 O6 σ6 H6 cls od s6 R6 x6 => hq2 F6 O6 σ6 H6 cls od (u3.trans s6) R6 x6
      · have : i = items.length := by omega
        subst this
        rw [List.drop_length] at hl
        cases hl
        exact .inl ⟨ok2 (Nat.le_refl _), hq2 F2 O2 σ2 H2 (.refl _) R2⟩

/-! ### while, n turns at most -/
def whileD (t : List D → Option Bool) (body : SF) (cl : List Nat) : Nat → SF
  | 0, _ => none
  | n + 1, ρ => (t ρ).bind fun b => if b = true then (body ρ).bind fun o => match o with
    | .nx ρ2 => whileD t body cl n (clrs cl ρ2)
    | .ct ρ2 => whileD t body cl n (clrs cl ρ2)
    | .bk ρ2 => some (.nx (clrs cl ρ2))
    | .rt d => some (.rt d)
    | .ex c es ρ2 => some (.ex c es ρ2)
    else some (.nx ρ)
def sWhile (t : List D → Option Bool) (body : SF) (cl : List Nat) (n : Nat) : SF := fun ρ => whileD t body cl n (clrs cl ρ)
theorem ds_while {t : List D → Option Bool} {cnd : Expr} {body : List Stmt} {cl : List Nat} {n : Nat} (hp : PassesOwn (model X.prog X.w) X.A X.env X.xe) (hc : DT X T H0 Γ cnd t) (hb : DSs X T H0 Γ body f Γ ⟨Γ, Γ, J.r, J.x, J.w⟩)
    (hcl : cl.all (fun i => decide (Γ[i]? = some .no)) = true) : DS X T H0 Γ (.While cnd body [] pos) (sWhile t f cl n) Γ J :=
  PS.wk (ps_while hp hc hb) fun E σ H ⟨F, O, ρ, out, R, hf, hq⟩ => by
    refine ⟨fun m σ H => ∃ F2 O2 ρ2 out2, Rl X.K T H0 Γ F2 O2 σ H ρ2 ∧ whileD t f cl m ρ2 = some out2 ∧ Fin X.K T H0 F2 Γ J E out2, ⟨n, F, O, clrs cl ρ, out, R.clr hcl, hf, hq⟩, ?_⟩
    rintro m σ2 H2 ⟨F2, O2, ρ2, out2, R2, hl, hq2⟩
    cases m with
    | zero => cases hl
    | succ m =>
      unfold whileD at hl
      cases h3 : t ρ2 with
      | none => rw [h3] at hl; cases hl
      | some b =>
        rw [h3] at hl
        simp only [Option.bind_some] at hl
        refine ⟨F2, O2, ρ2, b, R2, h3, fun F3 H3 R3 s3 t3 => ?_⟩
        cases b with
        | false =>
          simp at hl
          subst hl
          exact hq2 F3 O2 σ2 H3 s3 R3
        | true =>
          rw [if_pos rfl] at hl ⊢
          cases h4 : f ρ2 with
          | none => rw [h4] at hl; cases hl
          | some o4 =>
            rw [h4] at hl
            simp only [Option.bind_some] at hl
            refine ⟨fun σ5 H5 => ∃ F5 O5 ρ5 out5, Rl X.K T H0 Γ F5 O5 σ5 H5 ρ5 ∧ whileD t f cl m ρ5 = some out5 ∧ Fin X.K T H0 F5 Γ J E out5, fun σ5 H5 h5 => ⟨m, Nat.lt_succ_self m, h5⟩, F3, O2, ρ2, o4, R3, h4, ?_⟩
            cases o4 with
            | nx ρ' => exact fun F6 O6 σ6 H6 s6 R6 => ⟨F6, O6, _, out2, R6.clr hcl, hl, hq2.from (s3.trans s6)⟩
            | ct ρ' => exact fun F6 O6 σ6 H6 s6 R6 => ⟨F6, O6, _, out2, R6.clr hcl, hl, hq2.from (s3.trans s6)⟩
            | bk ρ' =>
              cases hl
              exact fun F6 O6 σ6 H6 s6 R6 => hq2 F6 O6 σ6 H6 (s3.trans s6) (R6.clr hcl)
            | rt d =>
              cases hl
              exact hq2
            | ex c es ρ' =>
              cases hl
              exact fun F6 O6 σ6 H6 cls od s6 R6 x6 => hq2 F6 O6 σ6 H6 cls od (s3.trans s6) R6 x6

/-! ### list comprehensions -/
def compGo (tg : D → List D → Option (List D)) (tt : List D → Option Bool) (fe : EF) (ρ : List D) : List D → Option (List D)
  | [] => some []
  | x :: xs => (tg x ρ).bind fun ρ1 => (tt ρ1).bind fun b => if b = true then (fe ρ1).bind fun y => (compGo tg tt fe ρ xs).bind fun ys => some (y :: ys) else compGo tg tt fe ρ xs
def eComp (fi : List D → Option (List D)) (tg : D → List D → Option (List D)) (tt : List D → Option Bool) (fe : EF) : EF := fun ρ => (fi ρ).bind fun items => (compGo tg tt fe ρ items).bind fun ds => if ds.length ≤ 1000000 then some (.lst ds) else none
theorem wipe_get : ∀ (vs : List Nat) (σ : L2.St) (j : Nat), (wipe σ vs)[j]? = if j ∈ vs ∧ j < σ.length then some none else σ[j]?
  | [], σ, j => by simp [wipe]
  | v :: vs, σ, j => by
    unfold wipe
    by_cases hj : v = j
    · subst hj
      by_cases hl : v < σ.length
      · rw [List.getElem?_set_self (by rw [wipe_length]; exact hl), if_pos ⟨List.mem_cons_self, hl⟩]
      · rw [List.getElem?_eq_none (by rw [List.length_set, wipe_length]; omega), if_neg (fun z => hl z.2), List.getElem?_eq_none (by omega)]
    · rw [List.getElem?_set_ne hj, wipe_get vs σ j]
      have : (j ∈ v :: vs ∧ j < σ.length) ↔ (j ∈ vs ∧ j < σ.length) := by simp only [List.mem_cons]; exact ⟨fun ⟨h1, h2⟩ => ⟨h1.resolve_left (fun z => hj z.symm), h2⟩, fun ⟨h1, h2⟩ => ⟨.inr h1, h2⟩⟩
      simp only [this]
theorem wipe_eq {vs : List Nat} {σ σ' : L2.St} (hl : σ'.length = σ.length) (h : ∀ j, j ∉ vs → σ'[j]? = σ[j]?) : wipe σ' vs = wipe σ vs := by
  apply List.ext_getElem?
  intro j
  rw [wipe_get, wipe_get, hl]
  by_cases hj : j ∈ vs
  · by_cases hl2 : j < σ.length
    · rw [if_pos ⟨hj, hl2⟩, if_pos ⟨hj, hl2⟩]
    · rw [if_neg (fun z => hl2 z.2), if_neg (fun z => hl2 z.2), List.getElem?_eq_none (by omega), List.getElem?_eq_none (by omega)]
  · rw [if_neg (fun z => hj z.1), if_neg (fun z => hj z.1), h j hj]
theorem wipe_wipe (vs : List Nat) (σ : L2.St) : wipe (wipe σ vs) vs = wipe σ vs := wipe_eq (wipe_length _ _) fun j hj => by rw [wipe_get, if_neg fun z => hj z.1]
theorem Rl.wiped {K : PySem.W.Frag} {F H : Hp} {O : Own} {σ : L2.St} {ρ : List D} {vs : List Nat} (R : Rl K T H0 Γ F O σ H ρ) (h : vs.all (fun i => decide (Γ[i]? = some .no)) = true) : Rl K T H0 Γ F O (wipe σ vs) H ρ :=
  ⟨R.h0, R.fh, R.on, R.od, by rw [wipe_length]; exact R.ls, R.lr, fun j m hm => by
    by_cases hj : j ∈ vs
    · have := of_decide_eq_true (List.all_eq_true.mp h j hj)
      rw [this] at hm; cases hm
      trivial
    · rw [wipe_get, if_neg fun z => hj z.1]
      exact R.sl j m hm, R.nF, R.tb⟩
theorem Rl.unwiped {K : PySem.W.Frag} {F H : Hp} {O : Own} {σ : L2.St} {ρ : List D} {vs : List Nat} (R : Rl K T H0 Γ F O (wipe σ vs) H ρ) : ∀ j m, Γ[j]? = some m → j ∉ vs → SlotR K T H0 F H (O j) σ[j]? ρ[j]? m := fun j m hm hj => by
  have := R.sl j m hm
  rwa [wipe_get, if_neg fun z => hj z.1] at this
/-- what a comprehension's rules ask follows -/
theorem lc_sem {K : PySem.W.Frag} {gg : TG} {own vs : List Nat} {tgd : D → List D → Option (List D)} {tt : List D → Option Bool} (hs : TgS K T H0 Γ gg vs tgd q Γ1) (hv : vs.all (fun i => own.contains i) = true) (ho : own.all (fun i => decide (Γ[i]? = some .no)) = true) :
    ∀ σ H Q, tD K T H0 Γ (eComp fi tgd tt fe) (.ol p) σ H Q → tLc (tDI K T H0 Γ fi q true) gg (tDT K T H0 Γ1 tt) (tD K T H0 Γ1 fe (.q p)) own σ H Q := by
  rintro σ H Q ⟨F, O, ρ, d, R, hf, hq⟩
  unfold eComp at hf
  cases h1 : fi ρ with
  | none => rw [h1] at hf; cases hf
  | some items =>
    rw [h1] at hf
    simp only [Option.bind_some] at hf
    cases h2 : compGo tgd tt fe ρ items with
    | none => rw [h2] at hf; cases hf
    | some ds =>
      rw [h2] at hf
      simp only [Option.bind_some] at hf
      split at hf
      · rename_i hlen
        cases hf
        refine ⟨F, O, ρ, items, R, h1, fun F1 H1 J1 R1 s1 s1' ok p1 hp1 => ?_⟩
        have big : ∀ n, n ≤ 1000000 → n ≤ sizeLine := fun n h => by rw [sizeLine_eq]; omega
        have hO1 := R1.notOwn hp1
        have hF1 : F1 p1 = none := R1.fh.free hp1
        refine ⟨fun i m H => m = items.length - i ∧ i ≤ items.length ∧ ∃ F2 acc accd rest, Same F1 F2 ∧ Sm H1 H ∧ Rl K T H0 Γ F2 (resv O Γ.length p1) σ H ρ ∧ H p1 = some (.lst acc) ∧ Rqs K T H0 p F2 acc accd ∧ compGo tgd tt fe ρ (items.drop i) = some rest ∧ ds = accd ++ rest,
          ⟨items.length, by simp, Nat.zero_le _, F1, [], [], ds, .refl _, (R1.junk hp1).2, (R1.junk hp1).1.res upd_same rfl hF1 hO1, upd_same, .nil, by simpa using h2, rfl⟩, ?_⟩
        rintro i m H2 ⟨rfl, hi, F2, acc, accd, rest, s2, t2, R2, hp2, ra, hc, hds⟩
        obtain ⟨ok1, ok2⟩ := ok i F2 H2 s2 R2.fh (fun _ => t2)
        by_cases hlt : i < items.length
        · obtain ⟨hgo, hy⟩ := ok1 items[i] (List.getElem?_eq_getElem hlt)
          rw [List.drop_eq_getElem_cons hlt] at hc
          unfold compGo at hc
          cases h3 : tgd items[i] ρ with
          | none => rw [h3] at hc; cases hc
          | some ρ3 =>
            rw [h3] at hc
            simp only [Option.bind_some] at hc
            cases h4 : tt ρ3 with
            | none => rw [h4] at hc; cases hc
            | some b4 =>
              rw [h4] at hc
              simp only [Option.bind_some] at hc
              refine .inr ⟨hgo, fun H5 => ∃ F5 acc5 accd5 rest5, Same F1 F5 ∧ Sm H1 H5 ∧ Rl K T H0 Γ F5 (resv O Γ.length p1) σ H5 ρ ∧ H5 p1 = some (.lst acc5) ∧ Rqs K T H0 p F5 acc5 accd5 ∧ compGo tgd tt fe ρ (items.drop (i + 1)) = some rest5 ∧ ds = accd5 ++ rest5,
                fun H5 h5 => ⟨items.length - (i + 1), by omega, rfl, hlt, h5⟩, fun x H3 hx => ?_⟩
              obtain ⟨t3, F3, u3, v3, w3, r3⟩ := hy x H3 hx
              have R3 : Rl K T H0 Γ F3 (resv O Γ.length p1) σ H3 ρ := (R2.growN t3).more u3 v3 (w3.2 R2.nF) fun j b hb => by
                obtain ⟨z1, o, z2, z3⟩ := R2.on j b hb
                exact w3.1 b z1 ⟨o, z2, z3⟩
              refine hs F3 _ (wipe σ own) H3 ρ x _ ρ3 _ (R3.wiped ho) r3 h3 fun σ4 R4 k4 l4 => ⟨?_, ?_⟩
              · rw [← wipe_wipe own σ]
                exact wipe_eq l4 fun j hj => k4 j fun z => hj (by simpa using List.all_eq_true.mp hv j z)
              · have back : ∀ {F6 H6 : Hp}, Rl K T H0 Γ1 F6 (resv O Γ.length p1) σ4 H6 ρ3 → Same F3 F6 → Sm H3 H6 → Rl K T H0 Γ F6 (resv O Γ.length p1) σ H6 ρ := fun {F6 H6} R6 s6 t6 =>
                  (R3.grow t6 R6.tb).more s6 R6.fh R6.nF fun j b hb => (R6.on j b hb).1
                have len : ∀ {n : Nat} {r : List D}, ds = accd ++ r → r.length = n + 1 → acc.length < sizeLine := fun {n r} e1 e2 => by
                  have e3 : ds.length = accd.length + r.length := by rw [e1, List.length_append]
                  rw [ra.length, sizeLine_eq]
                  omega
                refine ⟨F3, _, ρ3, b4, R4, h4, fun F6 H6 R6 s6 t6 => ?_⟩
                cases b4 with
                | false =>
                  rw [if_neg Bool.false_ne_true] at hc ⊢
                  exact ⟨F6, acc, accd, rest, (s2.trans u3).trans s6, (t2.trans t3).trans t6, back R6 s6 t6, t6 _ _ (t3 _ _ hp2), (u3.trans s6).rqs ra, hc, hds⟩
                | true =>
                  rw [if_pos rfl] at hc ⊢
                  cases h7 : fe ρ3 with
                  | none => rw [h7] at hc; cases hc
                  | some y7 =>
                    rw [h7] at hc
                    simp only [Option.bind_some] at hc
                    cases h8 : compGo tgd tt fe ρ (items.drop (i + 1)) with
                    | none => rw [h8] at hc; cases hc
                    | some r8 =>
                      rw [h8] at hc
                      cases hc
                      refine ⟨F6, _, ρ3, y7, R6, h7, fun F9 H9 v9 R9 s9 t9 r9 => ⟨acc, t9 _ _ (t6 _ _ (t3 _ _ hp2)), len hds (by rw [List.length_cons]), ?_⟩⟩
                      have R9' := back R9 (s6.trans s9) (t6.trans t9)
                      have h9 : H1 p1 = none := hp1
                      refine ⟨F9, acc ++ [v9], accd ++ [y7], r8, ((s2.trans u3).trans s6).trans s9, ⟨fun b o e n => ?_⟩, R9'.upRes rfl, upd_same, (((u3.trans s6).trans s9).rqs ra).append (.cons r9 .nil), rfl, by rw [hds, List.append_assoc]; rfl⟩
                      rw [upd_ne (ne_of_none e h9)]
                      exact (((t2.trans t3.sm).trans t6).trans t9) _ _ e
        · have : i = items.length := by omega
          subst this
          rw [List.drop_length] at hc
          cases hc
          rw [List.append_nil] at hds
          subst hds
          exact .inl ⟨ok2 (Nat.le_refl _), hq F2 H2 _ R2.unres (s1.trans s2) (s1'.trans t2) ⟨p1, acc, ds, rfl, rfl, hp2, (R2.on Γ.length p1 (.inr ⟨rfl, rfl⟩)).1, hO1, ra⟩⟩
      · cases hf
theorem dt_pts {ifs : List Expr} {tt : List D → Option Bool} {c : Expr} (h : DT X T H0 Γ c tt) : PTs X [c] (tDT X.K T H0 Γ tt) := pts_one h
def tTrue : List D → Option Bool := fun _ => some true
theorem pts_no : PTs X [] (tDT X.K T H0 Γ tTrue) := ⟨fun pins s σ H Q I ⟨F, O, ρ, b, R, hf, hq⟩ => by
  cases hf
  exact (pts_nil (X := X)).run pins s σ H Q I (hq F H R (.refl _) (.refl _))⟩
theorem de_comp {elt : Expr} {ifs : List Expr} {scope : Scope} {own : List (Str × Nat)} {gg : TG} {vs : List Nat} {tgd : D → List D → Option (List D)} {tt : List D → Option Bool} (hc : X.calm = true) (hN : X.N.Nodup) (hi : DI X T H0 Γ tg iter fi q true) (ok : BlkOk X.N X.env.scope scope own)
    (hg : ∀ (s : Shared) (H : Hp) (C : Addr) (cl : List (Str × Addr)) (fp : List Addr), PG (X.blk s H scope (compEnvC scope cl C X.env) fp) tg gg) (hs : TgS X.K T H0 Γ gg vs tgd q Γ1)
    (ht : ∀ (s : Shared) (H : Hp) (C : Addr) (cl : List (Str × Addr)) (fp : List Addr), PTs (X.blk s H scope (compEnvC scope cl C X.env) fp) ifs (tDT X.K T H0 Γ1 tt))
    (he : ∀ (s : Shared) (H : Hp) (C : Addr) (cl : List (Str × Addr)) (fp : List Addr), DE (X.blk s H scope (compEnvC scope cl C X.env) fp) T H0 Γ1 elt fe (.q p))
    (hv : vs.all (fun i => (own.map (·.2)).contains i) = true) (ho : (own.map (·.2)).all (fun i => decide (Γ[i]? = some .no)) = true) (hfs : ∀ x, foldedSetIterable iter X.env x = pure x := by intro _; rfl) :
    DE X T H0 Γ (.ListComp elt [⟨tg, iter, ifs, 0⟩] scope pos) (eComp fi tgd tt fe) (.ol p) := PE.wk (pe_lc hc hN hi ok hg ht he hfs) (lc_sem hs hv ho)
/-- name = [..] on one line -/
theorem ds_comp {elt : Expr} {ifs : List Expr} {scope : Scope} {own : List (Str × Nat)} {gg : TG} {vs : List Nat} {tgd : D → List D → Option (List D)} {tt : List D → Option Bool} {i : Nat} {y : Str} {py spos : Pos} (hc : X.calm = true) (hN : X.N.Nodup) (hy : X.N[i]? = some y) (hyl : X.env.scope.names.lookup y = some .local)
    (hsw : swapsWith (.ListComp elt [⟨tg, iter, ifs, 0⟩] scope pos) (some (.Name y py)) spos.line X.env = pure true) (hi : DI X T H0 Γ tg iter fi q true) (ok : BlkOk X.N X.env.scope scope own)
    (hg : ∀ (s : Shared) (H : Hp) (C : Addr) (cl : List (Str × Addr)) (fp : List Addr), PG (X.blk s H scope (compEnvC scope cl C X.env) fp) tg gg) (hs : TgS X.K T H0 Γ gg vs tgd q Γ1)
    (ht : ∀ (s : Shared) (H : Hp) (C : Addr) (cl : List (Str × Addr)) (fp : List Addr), PTs (X.blk s H scope (compEnvC scope cl C X.env) fp) ifs (tDT X.K T H0 Γ1 tt))
    (he : ∀ (s : Shared) (H : Hp) (C : Addr) (cl : List (Str × Addr)) (fp : List Addr), DE (X.blk s H scope (compEnvC scope cl C X.env) fp) T H0 Γ1 elt fe (.q p))
    (hv : vs.all (fun i => (own.map (·.2)).contains i) = true) (ho : (own.map (·.2)).all (fun i => decide (Γ[i]? = some .no)) = true) (hl : i < Γ.length := by decide) (hfs : ∀ x, foldedSetIterable iter X.env x = pure x := by intro _; rfl) :
    DS X T H0 Γ (.Assign [.Name y py] (.ListComp elt [⟨tg, iter, ifs, 0⟩] scope pos) spos) (sSet i (eComp fi tgd tt fe)) (Γ.set i (.ow p)) J :=
  PS.wk (ps_setLc hc hN hy hyl hsw hi ok hg ht he hfs) fun E σ H h => lc_sem hs hv ho σ H _ (seto_sem hl E σ H h)
end
end DL

namespace DL
open PySem PySem.Spec PyProof.Rows L2

/-! ### items, lengths -/
def gIx : D → D → Option D
  | .lst ds, .int i => atI ds i
  | .scr ds, .int i => atI ds i
  | _, _ => none
def gIxT : D → D → Option D
  | .tup ds, .int i => atI ds i
  | _, _ => none
def gLen : D → Option D
  | .lst ds => some (.int ds.length)
  | .scr ds => some (.int ds.length)
  | .tup ds => some (.int ds.length)
  | _ => none
section
variable {X : Cx} {T : Tb} {H0 : HZ} {Γ Γ1 Γn Γm : List Mode} {J : Jm} {e a b tg iter : Expr} {es : List Expr} {st : Stmt} {sts : List Stmt} {f g : SF} {fe fa fb : EF} {k ka kb : Knd} {pos po : Pos} {q p : Q3} {fi : List D → Option (List D)} {c : Bool} {fs : List D → Option (List D)}
theorem RepsG.at {K : PySem.W.Frag} {N : Addr → Prop} {F : Hp} {vs : List V} {ds : List D} {i : Int} {d : D} (r : RepsG K T N F vs ds) (h : atI ds i = some d) : ∃ v, atI vs i = some v ∧ RepG K T N F v d := by
  unfold atI at h ⊢
  rw [r.length]
  cases h1 : ixN ds.length i with
  | none => rw [h1] at h; cases h
  | some j =>
    rw [h1] at h
    simp only [Option.bind_some] at h ⊢
    exact r.get h
/-- the kind of an item -/
def Knd.item : Knd → Knd
  | .q q => .q q
  | .B => .B
  | .bl q => .q q
  | .fl q => .q q
  | .ol q => .q q
/-- a list of any kind, as it stands, and its items -/
theorem Rp.seq {K : PySem.W.Frag} {F H : Hp} {O : Own} {σ : L2.St} {ρ : List D} {v : V} {ds : List D} (R : Rl K T H0 Γ F O σ H ρ) (h : Rp K T H0 F H O k v (.lst ds)) : ∃ a vs, v = .ref a ∧ H a = some (.lst vs) ∧ RUs K T H vs ds ∧
    ∀ (i : Int) d, atI ds i = some d → ∃ w, atI vs i = some w ∧ Rp K T H0 F H O k.item w d := by
  cases k with
  | q k =>
    cases h with
    | @lst a vs ds h1 h2 h3 => exact ⟨a, vs, rfl, R.fh _ _ h1, R.Us_of h3, fun i d hd => h3.at hd⟩
  | B =>
    cases h with
    | @lst a vs ds h1 h2 h3 => exact ⟨a, vs, rfl, h1, h3, fun i d hd => h3.at hd⟩
  | bl k =>
    obtain ⟨a, vs, ds, rfl, e, h1, h3⟩ := h
    cases e
    exact ⟨a, vs, rfl, h1, R.Us_of h3, fun i d hd => h3.at hd⟩
  | fl k =>
    obtain ⟨a, vs, ds, rfl, e, h1, h3⟩ := h
    cases e
    exact ⟨a, vs, rfl, R.fh _ _ h1, R.Us_of h3, fun i d hd => h3.at hd⟩
  | ol k =>
    obtain ⟨a, vs, ds, rfl, e, h1, _, _, h3⟩ := h
    cases e
    exact ⟨a, vs, rfl, h1, R.Us_of h3, fun i d hd => h3.at hd⟩
theorem Rp.scr {K : PySem.W.Frag} {F H : Hp} {O : Own} {σ : L2.St} {ρ : List D} {v : V} {ds : List D} (R : Rl K T H0 Γ F O σ H ρ) (h : Rp K T H0 F H O k v (.scr ds)) : ∃ a vs, v = .ref a ∧ SqL K H a vs ∧ RUs K T H vs ds ∧
    ∀ (i : Int) d, atI ds i = some d → ∃ w, atI vs i = some w ∧ Rp K T H0 F H O k.item w d := by
  cases k with
  | q k =>
    cases h with
    | @scr a vs ds h1 h3 => exact ⟨a, vs, rfl, (same_sqS R.fh h1).seq, R.Us_of h3, fun i d hd => h3.at hd⟩
  | B =>
    cases h with
    | @scr a vs ds h1 h3 => exact ⟨a, vs, rfl, h1.seq, h3, fun i d hd => h3.at hd⟩
  | bl k => obtain ⟨a, vs, ds, _, e, _⟩ := h; cases e
  | fl k => obtain ⟨a, vs, ds, _, e, _⟩ := h; cases e
  | ol k => obtain ⟨a, vs, ds, _, e, _⟩ := h; cases e
theorem Rp.tup {K : PySem.W.Frag} {F H : Hp} {O : Own} {σ : L2.St} {ρ : List D} {v : V} {ds : List D} (R : Rl K T H0 Γ F O σ H ρ) (h : Rp K T H0 F H O k v (.tup ds)) : ∃ a vs, v = .ref a ∧ SqT K H a vs ∧ RUs K T H vs ds ∧
    ∀ (i : Int) d, atI ds i = some d → ∃ w, atI vs i = some w ∧ Rp K T H0 F H O k.item w d := by
  cases k with
  | q k =>
    cases h with
    | @tup a vs ds h1 h3 => exact ⟨a, vs, rfl, SqT.of (R.fh _ _ h1), R.Us_of h3, fun i d hd => h3.at hd⟩
  | B =>
    cases h with
    | @tup a vs ds h1 h3 => exact ⟨a, vs, rfl, SqT.of h1, h3, fun i d hd => h3.at hd⟩
  | bl k => obtain ⟨a, vs, ds, _, e, _⟩ := h; cases e
  | fl k => obtain ⟨a, vs, ds, _, e, _⟩ := h; cases e
  | ol k => obtain ⟨a, vs, ds, _, e, _⟩ := h; cases e
theorem de_ix (ha : DE X T H0 Γ a fa ka) (hb : DE X T H0 Γ b fb kb) (hp : ka.pers = true := by rfl) (hs : PlainIx b := by exact fun _ _ => rfl) : DE X T H0 Γ (.Subscript a b pos) (e2 gIx fa fb) ka.item :=
  PE.wk (pe_ix ix_list ha hb hs) (bin_sem hp fun F O σ H ρ v u x y d Q R rv ru hg hq => by
    unfold gIx at hg
    split at hg
    · obtain ⟨p, vs, rfl, h1, _, h3⟩ := Rp.seq R rv
      obtain ⟨w, h4, h5⟩ := h3 _ _ hg
      exact ⟨p, vs, _, w, rfl, ru.int, SqL.of h1, h4, hq F H w R (.refl _) (.refl _) h5⟩
    · obtain ⟨p, vs, rfl, h1, _, h3⟩ := Rp.scr R rv
      obtain ⟨w, h4, h5⟩ := h3 _ _ hg
      exact ⟨p, vs, _, w, rfl, ru.int, h1, h4, hq F H w R (.refl _) (.refl _) h5⟩
    · cases hg)
theorem de_ixt (ha : DE X T H0 Γ a fa ka) (hb : DE X T H0 Γ b fb kb) (hp : ka.pers = true := by rfl) (hs : PlainIx b := by exact fun _ _ => rfl) : DE X T H0 Γ (.Subscript a b pos) (e2 gIxT fa fb) ka.item :=
  PE.wk (pe_ix ix_tup ha hb hs) (bin_sem hp fun F O σ H ρ v u x y d Q R rv ru hg hq => by
    unfold gIxT at hg
    split at hg
    · obtain ⟨p, vs, rfl, h1, _, h3⟩ := Rp.tup R rv
      obtain ⟨w, h4, h5⟩ := h3 _ _ hg
      exact ⟨p, vs, _, w, rfl, ru.int, h1, h4, hq F H w R (.refl _) (.refl _) h5⟩
    · cases hg)
/-- a call of a built-in of one argument -/
theorem callB_sem {K : PySem.W.Frag} {r : List V → Hp → VK → Prop} {g : D → Option D}
    (hr : ∀ F O σ H ρ v x d Q, Rl K T H0 Γ F O σ H ρ → RU K T H v x → g x = some d → (∀ F' H' w, Rl K T H0 Γ F' O σ H' ρ → Same F F' → Sm H H' → Rp K T H0 F' H' O k w d → Q w H') → r [v] H Q) :
    ∀ σ H Q, tD K T H0 Γ (e1 g fa) k σ H Q → tCB r (tDA K T H0 Γ (aCons fa aNil)) σ H Q := by
  rintro σ H Q ⟨F, O, ρ, d, R, hf, hq⟩
  unfold e1 at hf
  cases h1 : fa ρ with
  | none => rw [h1] at hf; cases hf
  | some x =>
    rw [h1] at hf
    simp only [Option.bind_some] at hf
    refine ⟨F, O, ρ, [x], R, by unfold aCons aNil; rw [h1]; rfl, fun F1 H1 vs R1 s1 t1 r1 => ?_⟩
    cases r1 with
    | cons r1 r2 =>
      cases r2
      exact hr F1 O σ H1 ρ _ x d Q R1 r1 hf fun F' H' w R' s' t' rw => hq F' H' w R' (s1.trans s') (t1.trans t') rw
theorem de_len (hg : Gl X "len") (hm : X.mg "len" = none) (ha : DE X T H0 Γ a fa ka) (hs : starEach [a] X.env = (false, eval a X.env) :: starEach [] X.env := by rfl) : DE X T H0 Γ (.Call (.Name "len" po) [a] [] pos) (e1 gLen fa) (.q q) :=
  PE.wk (pe_callB call_len hg hm PySem.boot_len (da_cons ha da_nil hs) (he := hs)) (callB_sem fun F O σ H ρ v x d Q R rv hg hq => by
    unfold gLen at hg
    split at hg
    · cases hg
      cases rv with
      | @lst a vs ds h1 h2 h3 => exact ⟨_, _, rfl, .inl ⟨vs, SqL.of h1, rfl⟩, by rw [h3.length]; exact hq F H _ R (.refl _) (.refl _) (RepG.int _)⟩
    · cases hg
      cases rv with
      | @scr a vs ds h1 h3 => exact ⟨_, _, rfl, .inl ⟨vs, h1.seq, rfl⟩, by rw [h3.length]; exact hq F H _ R (.refl _) (.refl _) (RepG.int _)⟩
    · cases hg
      cases rv with
      | @tup a vs ds h1 h3 => exact ⟨_, _, rfl, .inr ⟨vs, SqT.of h1, rfl⟩, by rw [h3.length]; exact hq F H _ R (.refl _) (.refl _) (RepG.int _)⟩
    · cases hg)
theorem big6 {n : Nat} (h : n ≤ 1000000) : n ≤ sizeLine := by rw [sizeLine_eq]; omega

/-! ### lists made -/
/-- the kind of a list's items -/
def Knd.its : Knd → Option Q3
  | .q q => some q
  | .B => none
  | .bl q => some q
  | .fl q => some q
  | .ol q => some q
theorem Rp.lst {K : PySem.W.Frag} {F H : Hp} {O : Own} {σ : L2.St} {ρ : List D} {v : V} {ds : List D} (R : Rl K T H0 Γ F O σ H ρ) (h : Rp K T H0 F H O k v (.lst ds)) (hk : k.its = some q) : ∃ a vs, v = .ref a ∧ H a = some (.lst vs) ∧ Rqs K T H0 q F vs ds := by
  cases k with
  | q k =>
    cases hk
    cases h with
    | @lst a vs ds h1 h2 h3 => exact ⟨a, vs, rfl, R.fh _ _ h1, h3⟩
  | B => cases hk
  | bl k =>
    cases hk
    obtain ⟨a, vs, ds, rfl, e, h1, h3⟩ := h
    cases e
    exact ⟨a, vs, rfl, h1, h3⟩
  | fl k =>
    cases hk
    obtain ⟨a, vs, ds, rfl, e, h1, h3⟩ := h
    cases e
    exact ⟨a, vs, rfl, R.fh _ _ h1, h3⟩
  | ol k =>
    cases hk
    obtain ⟨a, vs, ds, rfl, e, h1, _, _, h3⟩ := h
    cases e
    exact ⟨a, vs, rfl, h1, h3⟩
theorem Rp.tupq {K : PySem.W.Frag} {F H : Hp} {O : Own} {σ : L2.St} {ρ : List D} {v : V} {ds : List D} (R : Rl K T H0 Γ F O σ H ρ) (h : Rp K T H0 F H O (.q q) v (.tup ds)) : ∃ a vs, v = .ref a ∧ SqT K F a vs ∧ Rqs K T H0 q F vs ds := by
  cases h with
  | @tup a vs ds h1 h3 => exact ⟨a, vs, rfl, SqT.of h1, h3⟩
def gCat : D → D → Option D
  | .lst xs, .lst ys => if xs.length + ys.length ≤ 1000000 then some (.lst (xs ++ ys)) else none
  | _, _ => none
theorem new_lst {K : PySem.W.Frag} {F H : Hp} {O : Own} {σ : L2.St} {ρ : List D} {vs : List V} {ds : List D} {Q : VK} (R : Rl K T H0 Γ F O σ H ρ) (rs : Rqs K T H0 q F vs ds)
    (hq : ∀ F' H' w, Rl K T H0 Γ F' O σ H' ρ → Same F F' → Sm H H' → Rp K T H0 F' H' O (.ol q) w (.lst ds) → Q w H') (p : Addr) (hp : H p = none) : Q (.ref p) (upd H p (.lst vs)) :=
  hq F _ _ (R.junk hp).1 (.refl _) (R.junk hp).2 ⟨p, vs, ds, rfl, rfl, upd_same, R.fh.free hp, R.notOwn hp, rs⟩
theorem de_cat (ha : DE X T H0 Γ a fa ka) (hb : DE X T H0 Γ b fb kb) (hka : ka.its = some q := by rfl) (hkb : kb.its = some q := by rfl) (hp : ka.pers = true := by rfl) : DE X T H0 Γ (.BinOp a .Add b pos) (e2 gCat fa fb) (.ol q) :=
  PE.wk (pe_op op_cat ha hb) (bin_sem hp fun F O σ H ρ v u x y d Q R rv ru hg hq => by
    unfold gCat at hg
    split at hg
    · split at hg
      · rename_i hl
        cases hg
        obtain ⟨a1, vs, rfl, h1, h2⟩ := Rp.lst R rv hka
        obtain ⟨a2, us, rfl, h3, h4⟩ := Rp.lst R ru hkb
        refine ⟨a1, a2, vs, us, rfl, rfl, h1, h3, by rw [h2.length, h4.length]; exact big6 hl, fun p hp => new_lst R (h2.append h4) hq p hp⟩
      · cases hg
    · cases hg)
/-- list(xs), list(t) -/
def gList : D → Option D
  | .lst ds => some (.lst ds)
  | _ => none
def gListT : D → Option D
  | .tup ds => some (.lst ds)
  | _ => none
theorem callB_semK {K : PySem.W.Frag} {r : List V → Hp → VK → Prop} {g : D → Option D}
    (hr : ∀ F O σ H ρ v x d Q, Rl K T H0 Γ F O σ H ρ → Rp K T H0 F H O ka v x → g x = some d → (∀ F' H' w, Rl K T H0 Γ F' O σ H' ρ → Same F F' → Sm H H' → Rp K T H0 F' H' O k w d → Q w H') → r [v] H Q) :
    ∀ σ H Q, tD K T H0 Γ (e1 g fa) k σ H Q → tCB r (tCons (tD K T H0 Γ fa ka) tNil) σ H Q := by
  rintro σ H Q ⟨F, O, ρ, d, R, hf, hq⟩
  unfold e1 at hf
  cases h1 : fa ρ with
  | none => rw [h1] at hf; cases hf
  | some x =>
    rw [h1] at hf
    simp only [Option.bind_some] at hf
    refine ⟨F, O, ρ, x, R, h1, fun F1 H1 v R1 s1 t1 r1 => ?_⟩
    exact hr F1 O σ H1 ρ _ x d Q R1 r1 hf fun F' H' w R' s' t' rw => hq F' H' w R' (s1.trans s') (t1.trans t') rw
theorem de_list (hg : Gl X "list") (hm : X.mg "list" = none) (ha : DE X T H0 Γ a fa ka) (hk : ka.its = some q := by rfl) (hs : starEach [a] X.env = (false, eval a X.env) :: starEach [] X.env := by rfl) : DE X T H0 Γ (.Call (.Name "list" po) [a] [] pos) (e1 gList fa) (.ol q) :=
  PE.wk (pe_callTy call_list_of hg hm (by decide +kernel) (pa_cons ha pa_nil hs) (he := hs)) (callB_semK fun F O σ H ρ v x d Q R rv hg hq => by
    unfold gList at hg
    split at hg
    · cases hg
      obtain ⟨a1, vs, rfl, h1, h2⟩ := Rp.lst R rv hk
      exact ⟨a1, vs, rfl, .inl (SqL.of h1), fun p hp => new_lst R h2 hq p hp⟩
    · cases hg)
theorem de_listT (hg : Gl X "list") (hm : X.mg "list" = none) (ha : DE X T H0 Γ a fa (.q q)) (hs : starEach [a] X.env = (false, eval a X.env) :: starEach [] X.env := by rfl) : DE X T H0 Γ (.Call (.Name "list" po) [a] [] pos) (e1 gListT fa) (.ol q) :=
  PE.wk (pe_callTy call_list_of hg hm (by decide +kernel) (pa_cons ha pa_nil hs) (he := hs)) (callB_semK fun F O σ H ρ v x d Q R rv hg hq => by
    unfold gListT at hg
    split at hg
    · cases hg
      obtain ⟨a1, vs, rfl, h1, h2⟩ := Rp.tupq R rv
      exact ⟨a1, vs, rfl, .inr (same_sqT R.fh h1), fun p hp => new_lst R h2 hq p hp⟩
    · cases hg)
/-- tuple(xs) of a list -/
def gTuple : D → Option D
  | .lst ds => some (.tup ds)
  | _ => none
theorem de_tuple (hg : Gl X "tuple") (hm : X.mg "tuple" = none) (ha : DE X T H0 Γ a fa ka) (hk : ka.its = some q := by rfl) (hs : starEach [a] X.env = (false, eval a X.env) :: starEach [] X.env := by rfl) : DE X T H0 Γ (.Call (.Name "tuple" po) [a] [] pos) (e1 gTuple fa) (.q q) :=
  PE.wk (pe_callTy call_tuple_of hg hm (by decide +kernel) (pa_cons ha pa_nil hs) (he := hs)) (callB_semK fun F O σ H ρ v x d Q R rv hg hq => by
    unfold gTuple at hg
    split at hg
    · cases hg
      obtain ⟨a1, vs, rfl, h1, h2⟩ := Rp.lst R rv hk
      refine ⟨a1, vs, rfl, .inl ⟨SqL.of h1, fun p hp => ?_⟩⟩
      obtain ⟨R2, s2, t2⟩ := R.laid (o := .tup vs) hp
      exact hq _ _ _ R2 s2 t2 (RepG.tup upd_same (s2.rqs h2))
    · cases hg)
/-- slices -/
def cutD (xs : List D) (lo hi : Option Int) : List D := (xs.drop (HT.sIx xs.length 0 lo)).take (HT.sIx xs.length xs.length hi - HT.sIx xs.length 0 lo)
def oNo : List D → Option (Option Int) := fun _ => some none
def oYes (f : EF) : List D → Option (Option Int) := fun ρ => (f ρ).bind fun d => match d with
  | .int i => some (some i)
  | _ => none
def tDO (K : PySem.W.Frag) (T : Tb) (H0 : HZ) (Γ : List Mode) (fo : List D → Option (Option Int)) : TO := fun σ H Q =>
  ∃ F O ρ o, Rl K T H0 Γ F O σ H ρ ∧ fo ρ = some o ∧ ∀ F' H', Rl K T H0 Γ F' O σ H' ρ → Same F F' → Sm H H' → Q o H'
abbrev DO (X : Cx) (T : Tb) (H0 : HZ) (Γ : List Mode) (e : Option Expr) (fo : List D → Option (Option Int)) : Prop := PO X e (tDO X.K T H0 Γ fo)
theorem do_no : DO X T H0 Γ none oNo := ⟨fun pins s σ H Q I ⟨F, O, ρ, o, R, hf, hq⟩ => by
  cases hf
  exact (po_none (X := X)).run pins s σ H Q I (hq F H R (.refl _) (.refl _))⟩
theorem do_yes (h : DE X T H0 Γ e fe k) : DO X T H0 Γ (some e) (oYes fe) := ⟨fun pins s σ H Q I ⟨F, O, ρ, o, R, hf, hq⟩ => by
  refine (po_some h).run pins s σ H Q I ?_
  unfold oYes at hf
  cases h1 : fe ρ with
  | none => rw [h1] at hf; cases hf
  | some d =>
    rw [h1] at hf
    simp only [Option.bind_some] at hf
    split at hf
    · cases hf
      exact ⟨F, O, ρ, _, R, h1, fun F1 H1 v R1 s1 t1 r1 => ⟨_, Rp.int r1, hq F1 H1 R1 s1 t1⟩⟩
    · cases hf⟩
variable {lo hi : Option Expr} {fl fh : List D → Option (Option Int)} {p2 : Pos}
def eSl (g : D → Option Int → Option Int → Option D) (f : EF) (fl fh : List D → Option (Option Int)) : EF := fun ρ => (f ρ).bind fun x => (fl ρ).bind fun l => (fh ρ).bind fun h => g x l h
def gSlL (x : D) (l h : Option Int) : Option D := match x with
  | .lst ds => some (.lst (cutD ds l h))
  | _ => none
def gSlT (x : D) (l h : Option Int) : Option D := match x with
  | .tup ds => some (.tup (cutD ds l h))
  | _ => none
theorem RepsG.cutV {K : PySem.W.Frag} {N : Addr → Prop} {F : Hp} {vs : List V} {ds : List D} (r : RepsG K T N F vs ds) (l h : Option Int) : RepsG K T N F (L2.cutV vs l h) (cutD ds l h) := by
  unfold L2.cutV cutD
  rw [r.length]
  exact (r.drop _).take _
theorem sl_sem {K : PySem.W.Frag} {r : V → Option Int → Option Int → Hp → VK → Prop} {g : D → Option Int → Option Int → Option D} (hp : ka.pers = true)
    (hr : ∀ F O σ H ρ v x l h d Q, Rl K T H0 Γ F O σ H ρ → Rp K T H0 F H O ka v x → g x l h = some d → (∀ F' H' w, Rl K T H0 Γ F' O σ H' ρ → Same F F' → Sm H H' → Rp K T H0 F' H' O k w d → Q w H') → r v l h H Q) :
    ∀ σ H Q, tD K T H0 Γ (eSl g fa fl fh) k σ H Q → tSl r (tD K T H0 Γ fa ka) (tDO K T H0 Γ fl) (tDO K T H0 Γ fh) σ H Q := by
  rintro σ H Q ⟨F, O, ρ, d, R, hf, hq⟩
  unfold eSl at hf
  cases h1 : fa ρ with
  | none => rw [h1] at hf; cases hf
  | some x =>
    rw [h1] at hf
    simp only [Option.bind_some] at hf
    cases h2 : fl ρ with
    | none => rw [h2] at hf; cases hf
    | some l =>
      rw [h2] at hf
      simp only [Option.bind_some] at hf
      cases h3 : fh ρ with
      | none => rw [h3] at hf; cases hf
      | some h =>
        rw [h3] at hf
        simp only [Option.bind_some] at hf
        refine ⟨F, O, ρ, x, R, h1, fun F1 H1 v R1 s1 t1 r1 => ⟨F1, O, ρ, l, R1, h2, fun F2 H2 R2 s2 t2 => ⟨F2, O, ρ, h, R2, h3, fun F3 H3 R3 s3 t3 => ?_⟩⟩⟩
        exact hr F3 O σ H3 ρ v x l h d Q R3 (r1.pers hp (s2.trans s3) (t2.trans t3)) hf fun F' H' w R' s' t' rw => hq F' H' w R' (((s1.trans s2).trans s3).trans s') (((t1.trans t2).trans t3).trans t') rw
theorem de_slL (ha : DE X T H0 Γ a fa ka) (hl : DO X T H0 Γ lo fl) (hh : DO X T H0 Γ hi fh) (hk : ka.its = some q := by rfl) (hp : ka.pers = true := by rfl) : DE X T H0 Γ (.Subscript a (.Slice lo hi none p2) pos) (eSl gSlL fa fl fh) (.ol q) :=
  PE.wk (pe_slice sl_list ha hl hh) (sl_sem hp fun F O σ H ρ v x l h d Q R rv hg hq => by
    unfold gSlL at hg
    split at hg
    · cases hg
      obtain ⟨a1, vs, rfl, h1, h2⟩ := Rp.lst R rv hk
      exact ⟨a1, vs, rfl, SqL.of h1, fun p hp => new_lst R (h2.cutV l h) hq p hp⟩
    · cases hg)
theorem cut_all {xs : List D} {l h : Option Int} (w : HT.sIx xs.length 0 l = 0 ∧ HT.sIx xs.length xs.length h = xs.length) : cutD xs l h = xs := by
  unfold cutD
  rw [w.1, w.2]
  simp
theorem de_slT (ha : DE X T H0 Γ a fa (.q q)) (hl : DO X T H0 Γ lo fl) (hh : DO X T H0 Γ hi fh) : DE X T H0 Γ (.Subscript a (.Slice lo hi none p2) pos) (eSl gSlT fa fl fh) (.q q) :=
  PE.wk (pe_slice sl_tupA ha hl hh) (sl_sem rfl fun F O σ H ρ v x l h d Q R rv hg hq => by
    unfold gSlT at hg
    split at hg
    · cases hg
      obtain ⟨a1, vs, rfl, h1, h2⟩ := Rp.tupq R rv
      refine ⟨a1, vs, rfl, same_sqT R.fh h1, fun hw => ?_, fun hw p hp => ?_⟩
      · rw [h2.length] at hw
        exact hq F H _ R (.refl _) (.refl _) (by rw [cut_all hw]; exact rv)
      · obtain ⟨R2, s2, t2⟩ := R.laid (o := .tup (L2.cutV vs l h)) hp
        exact hq _ _ _ R2 s2 t2 (RepG.tup upd_same (s2.rqs (h2.cutV l h)))
    · cases hg)
/-- t + u -/
def gCatT : D → D → Option D
  | .tup xs, .tup ys => if xs.length + ys.length ≤ 1000000 then some (.tup (xs ++ ys)) else none
  | _, _ => none
theorem RepsG.nil_iff {K : PySem.W.Frag} {N : Addr → Prop} {F : Hp} {vs : List V} {ds : List D} (r : RepsG K T N F vs ds) : vs = [] ↔ ds = [] := by cases r <;> simp
theorem de_catT (ha : DE X T H0 Γ a fa (.q q)) (hb : DE X T H0 Γ b fb (.q q)) : DE X T H0 Γ (.BinOp a .Add b pos) (e2 gCatT fa fb) (.q q) :=
  PE.wk (pe_op op_catA ha hb) (bin_sem rfl fun F O σ H ρ v u x y d Q R rv ru hg hq => by
    unfold gCatT at hg
    split at hg
    · split at hg
      · rename_i hl
        cases hg
        obtain ⟨a1, vs, rfl, h1, h2⟩ := Rp.tupq R rv
        obtain ⟨a2, us, rfl, h3, h4⟩ := Rp.tupq R ru
        refine ⟨a1, a2, vs, us, rfl, rfl, same_sqT R.fh h1, same_sqT R.fh h3, by rw [h2.length, h4.length]; exact big6 hl, fun e => ?_, fun _ e => ?_, fun _ _ p hp => ?_⟩
        · have := h2.nil_iff.mp e
          subst this
          exact hq F H _ R (.refl _) (.refl _) (by simpa using ru)
        · have := h4.nil_iff.mp e
          subst this
          exact hq F H _ R (.refl _) (.refl _) (by simpa using rv)
        · obtain ⟨R2, s2, t2⟩ := R.laid (o := .tup (vs ++ us)) hp
          exact hq _ _ _ R2 s2 t2 (RepG.tup upd_same (s2.rqs (h2.append h4)))
      · cases hg
    · cases hg)
end

/-! ### == of data of any depth -/
def conv : Nat → D → PyData
  | _, .non => .none
  | _, .bl b => .bool b
  | _, .int i => .int i
  | _, .str s => .str s
  | n + 1, .lst ds => .list (ds.map (conv n))
  | n + 1, .scr ds => .list (ds.map (conv n))
  | n + 1, .tup ds => .tuple (ds.map (conv n))
  | _, _ => .none
def dok : Nat → D → Bool
  | _, .non => true
  | _, .bl _ => true
  | _, .int _ => true
  | _, .str s => PyData.canLay0 (.str s)
  | n + 1, .lst ds => ds.all (dok n)
  | n + 1, .scr ds => ds.all (dok n)
  | n + 1, .tup ds => ds.all (dok n)
  | _, _ => false
theorem depthAll_le {n : Nat} : ∀ {ds : List PyData}, (∀ d ∈ ds, d.depth ≤ n) → PyData.depthAll ds ≤ n
  | [], _ => by simp [PyData.depthAll]
  | d :: ds, h => by
    simp only [PyData.depthAll]
    have h1 := h d List.mem_cons_self
    have h2 := depthAll_le (ds := ds) fun x hx => h x (List.mem_cons_of_mem _ hx)
    omega
theorem layAll_of : ∀ {ds : List PyData}, (∀ d ∈ ds, d.canLay0 = true) → PyData.canLayAll0 ds = true
  | [], _ => by simp [PyData.canLayAll0]
  | d :: ds, h => by
    simp only [PyData.canLayAll0, Bool.and_eq_true]
    exact ⟨h d List.mem_cons_self, layAll_of (ds := ds) fun x hx => h x (List.mem_cons_of_mem _ hx)⟩
theorem conv_ok : ∀ (n : Nat) (d : D), dok n d = true → (conv n d).canLay0 = true ∧ (conv n d).depth ≤ n := by
  intro n
  induction n with
  | zero =>
    intro d h
    cases d <;> first | (simp [dok] at h; done) | (refine ⟨?_, ?_⟩ <;> simp [conv, PyData.canLay0, PyData.depth] <;> (try simpa [dok, PyData.canLay0] using h))
  | succ n ih =>
    intro d h
    have key : ∀ ds : List D, ds.all (dok n) = true → PyData.canLayAll0 (ds.map (conv n)) = true ∧ PyData.depthAll (ds.map (conv n)) ≤ n := fun ds h => by
      refine ⟨layAll_of fun x hx => ?_, depthAll_le fun x hx => ?_⟩ <;> obtain ⟨y, hy, rfl⟩ := List.mem_map.mp hx
      · exact (ih y (List.all_eq_true.mp h y hy)).1
      · exact (ih y (List.all_eq_true.mp h y hy)).2
    cases d with
    | lst ds => obtain ⟨h1, h2⟩ := key ds (by simpa [dok] using h); simp only [conv, PyData.canLay0, PyData.depth]; exact ⟨h1, by omega⟩
    | scr ds => obtain ⟨h1, h2⟩ := key ds (by simpa [dok] using h); simp only [conv, PyData.canLay0, PyData.depth]; exact ⟨h1, by omega⟩
    | tup ds => obtain ⟨h1, h2⟩ := key ds (by simpa [dok] using h); simp only [conv, PyData.canLay0, PyData.depth]; exact ⟨h1, by omega⟩
    | str s => simp only [conv, PyData.depth]; exact ⟨by simpa [dok] using h, by omega⟩
    | non => simp [conv, PyData.canLay0, PyData.depth]
    | bl b => simp [conv, PyData.canLay0, PyData.depth]
    | int i => simp [conv, PyData.canLay0, PyData.depth]
    | ins _ _ => simp [dok] at h
    | dic _ _ => simp [dok] at h
    | dit _ _ => simp [dok] at h
    | exn _ _ => simp [dok] at h
theorem shaped_of {n : Nat} {d : D} (h : dok n d = true) (hn : n ≤ 64) : SeqAt.shaped (conv n d) = true := by
  obtain ⟨h1, h2⟩ := conv_ok n d h
  unfold SeqAt.shaped
  rw [h1, Bool.true_and]
  exact decide_eq_true (by omega)
theorem dp_all {K : PySem.W.Frag} {T : Tb} {N : Addr → Prop} {H : Hp} {n : Nat} (ih : ∀ (d : D) (v : V), dok n d = true → RepG K T N H v d → Dp K H v (conv n d)) : ∀ {vs : List V} {ds : List D}, ds.all (dok n) = true → RepsG K T N H vs ds → DpAll K H vs (ds.map (conv n))
  | _, _, _, .nil => .nil
  | _, _, h, .cons r rs => by
    rw [List.all_cons, Bool.and_eq_true] at h
    exact .cons (ih _ _ h.1 r) (dp_all ih h.2 rs)
theorem dp_of {K : PySem.W.Frag} {T : Tb} {N : Addr → Prop} {H : Hp} : ∀ (n : Nat) (d : D) (v : V), dok n d = true → RepG K T N H v d → Dp K H v (conv n d) := by
  intro n
  induction n with
  | zero =>
    intro d v h r
    cases r <;> first | (simp [dok] at h; done) | (simp only [conv]; constructor)
  | succ n ih =>
    intro d v h r
    cases r with
    | non => simp only [conv]; constructor
    | bl b => simp only [conv]; constructor
    | int b => simp only [conv]; constructor
    | str b => simp only [conv]; constructor
    | tup h1 rs => simp only [conv]; exact .tup (SqT.of h1) (dp_all ih (by simpa [dok] using h) rs)
    | lst h1 _ rs => simp only [conv]; exact .lst (.inl (.inl h1)) (dp_all ih (by simpa [dok] using h) rs)
    | scr h1 rs => simp only [conv]; exact .lst h1.seq (dp_all ih (by simpa [dok] using h) rs)
    | ins _ _ _ _ => simp [dok] at h
    | dic _ _ _ => simp [dok] at h
    | dit _ _ _ => simp [dok] at h
    | exn _ _ _ _ => simp [dok] at h
def gEqD (x y : D) : Option D := if dok 6 x = true ∧ dok 6 y = true then some (.bl (PyData.eqv (conv 6 x) (conv 6 y))) else none
def gNeD (x y : D) : Option D := if dok 6 x = true ∧ dok 6 y = true then some (.bl (!PyData.eqv (conv 6 x) (conv 6 y))) else none
def gInD (x y : D) : Option D := match y with
  | .lst ds => if dok 6 x = true ∧ ds.all (dok 6) = true then some (.bl (ds.any fun z => PyData.eqv (conv 6 z) (conv 6 x))) else none
  | _ => none
def gNotInD (x y : D) : Option D := match y with
  | .lst ds => if dok 6 x = true ∧ ds.all (dok 6) = true then some (.bl (!ds.any fun z => PyData.eqv (conv 6 z) (conv 6 x))) else none
  | _ => none
section
variable {X : Cx} {T : Tb} {H0 : HZ} {Γ Γ1 Γn Γm : List Mode} {J : Jm} {e a b tg iter : Expr} {es : List Expr} {st : Stmt} {sts : List Stmt} {f g : SF} {fe fa fb : EF} {k ka kb : Knd} {pos po : Pos} {q p : Q3} {fi : List D → Option (List D)} {c : Bool} {fs : List D → Option (List D)}
theorem cs_eqD {K : PySem.W.Frag} (hp : ka.pers = true) : ∀ σ H Q, tD K T H0 Γ (e2 gEqD fa fb) (.q q) σ H Q → tOp (rEqD K) (tD K T H0 Γ fa ka) (tD K T H0 Γ fb kb) σ H Q := bin_sem hp fun F O σ H ρ v u x y d Q R rv ru hg hq => by
  unfold gEqD at hg
  split at hg
  · rename_i h
    cases hg
    exact ⟨_, _, dp_of 6 x v h.1 (R.toB rv), dp_of 6 y u h.2 (R.toB ru), shaped_of h.1 (by omega), shaped_of h.2 (by omega), hq F H _ R (.refl _) (.refl _) (RepG.bl _)⟩
  · cases hg
theorem cs_neD {K : PySem.W.Frag} (hp : ka.pers = true) : ∀ σ H Q, tD K T H0 Γ (e2 gNeD fa fb) (.q q) σ H Q → tOp (rNeD K) (tD K T H0 Γ fa ka) (tD K T H0 Γ fb kb) σ H Q := bin_sem hp fun F O σ H ρ v u x y d Q R rv ru hg hq => by
  unfold gNeD at hg
  split at hg
  · rename_i h
    cases hg
    exact ⟨_, _, dp_of 6 x v h.1 (R.toB rv), dp_of 6 y u h.2 (R.toB ru), shaped_of h.1 (by omega), shaped_of h.2 (by omega), hq F H _ R (.refl _) (.refl _) (RepG.bl _)⟩
  · cases hg
theorem conv_lst {n : Nat} {ds : List D} : conv (n + 1) (.lst ds) = .list (ds.map (conv n)) := rfl
theorem any_conv {n : Nat} {x : PyData} {ds : List D} : (ds.map (conv n)).any (fun z => PyData.eqv z x) = ds.any fun z => PyData.eqv (conv n z) x := by
  rw [List.any_map]; rfl
theorem cs_inD {K : PySem.W.Frag} (hp : ka.pers = true) : ∀ σ H Q, tD K T H0 Γ (e2 gInD fa fb) (.q q) σ H Q → tOp (rInD K) (tD K T H0 Γ fa ka) (tD K T H0 Γ fb kb) σ H Q := bin_sem hp fun F O σ H ρ v u x y d Q R rv ru hg hq => by
  unfold gInD at hg
  split at hg
  · rename_i ds
    split at hg
    · rename_i h
      cases hg
      have h2 : dok 7 (.lst ds) = true := by simpa [dok] using h.2
      refine ⟨_, _, dp_of 6 x v h.1 (R.toB rv), dp_of 7 _ u h2 (R.toB ru), shaped_of h.1 (by omega), shaped_of (n := 7) h2 (by omega), ?_⟩
      rw [any_conv]
      exact hq F H _ R (.refl _) (.refl _) (RepG.bl _)
    · cases hg
  · cases hg
theorem cs_notInD {K : PySem.W.Frag} (hp : ka.pers = true) : ∀ σ H Q, tD K T H0 Γ (e2 gNotInD fa fb) (.q q) σ H Q → tOp (rNotInD K) (tD K T H0 Γ fa ka) (tD K T H0 Γ fb kb) σ H Q := bin_sem hp fun F O σ H ρ v u x y d Q R rv ru hg hq => by
  unfold gNotInD at hg
  split at hg
  · rename_i ds
    split at hg
    · rename_i h
      cases hg
      have h2 : dok 7 (.lst ds) = true := by simpa [dok] using h.2
      refine ⟨_, _, dp_of 6 x v h.1 (R.toB rv), dp_of 7 _ u h2 (R.toB ru), shaped_of h.1 (by omega), shaped_of (n := 7) h2 (by omega), ?_⟩
      rw [any_conv]
      exact hq F H _ R (.refl _) (.refl _) (RepG.bl _)
    · cases hg
  · cases hg
/-- ints of a list, bools of a list -/
def intsOf : List D → Option (List Int)
  | [] => some []
  | .int i :: r => (intsOf r).map (i :: ·)
  | _ => none
def blsOf : List D → Option (List Bool)
  | [] => some []
  | .bl i :: r => (blsOf r).map (i :: ·)
  | _ => none
theorem intsOf_map : ∀ ns : List Int, intsOf (ns.map D.int) = some ns
  | [] => rfl
  | n :: ns => by rw [List.map_cons]; unfold intsOf; rw [intsOf_map ns]; rfl
theorem blsOf_map : ∀ ns : List Bool, blsOf (ns.map D.bl) = some ns
  | [] => rfl
  | n :: ns => by rw [List.map_cons]; unfold blsOf; rw [blsOf_map ns]; rfl
theorem intsOf_eq : ∀ {ds : List D} {ns : List Int}, intsOf ds = some ns → ds = ns.map D.int
  | [], _, h => by cases h; rfl
  | .int i :: r, ns, h => by
    unfold intsOf at h
    cases h1 : intsOf r with
    | none => rw [h1] at h; cases h
    | some ms => rw [h1] at h; cases h; rw [intsOf_eq h1]; rfl
  | .non :: _, _, h => nomatch h
  | .bl _ :: _, _, h => nomatch h
  | .str _ :: _, _, h => nomatch h
  | .tup _ :: _, _, h => nomatch h
  | .lst _ :: _, _, h => nomatch h
  | .scr _ :: _, _, h => nomatch h
  | .ins _ _ :: _, _, h => nomatch h
  | .dic _ _ :: _, _, h => nomatch h
  | .dit _ _ :: _, _, h => nomatch h
  | .exn _ _ :: _, _, h => nomatch h
theorem blsOf_eq : ∀ {ds : List D} {ns : List Bool}, blsOf ds = some ns → ds = ns.map D.bl
  | [], _, h => by cases h; rfl
  | .bl i :: r, ns, h => by
    unfold blsOf at h
    cases h1 : blsOf r with
    | none => rw [h1] at h; cases h
    | some ms => rw [h1] at h; cases h; rw [blsOf_eq h1]; rfl
  | .non :: _, _, h => nomatch h
  | .int _ :: _, _, h => nomatch h
  | .str _ :: _, _, h => nomatch h
  | .tup _ :: _, _, h => nomatch h
  | .lst _ :: _, _, h => nomatch h
  | .scr _ :: _, _, h => nomatch h
  | .ins _ _ :: _, _, h => nomatch h
  | .dic _ _ :: _, _, h => nomatch h
  | .dit _ _ :: _, _, h => nomatch h
  | .exn _ _ :: _, _, h => nomatch h
theorem RepsG.ints {K : PySem.W.Frag} {N : Addr → Prop} {F : Hp} : ∀ {vs : List V} {ns : List Int}, RepsG K T N F vs (ns.map D.int) → vs = ns.map V.int
  | _, [], .nil => rfl
  | _, n :: ns, .cons r rs => by
    cases r
    rw [RepsG.ints rs]; rfl
theorem RepsG.bls {K : PySem.W.Frag} {N : Addr → Prop} {F : Hp} : ∀ {vs : List V} {ns : List Bool}, RepsG K T N F vs (ns.map D.bl) → vs = ns.map V.bl
  | _, [], .nil => rfl
  | _, n :: ns, .cons r rs => by
    cases r
    rw [RepsG.bls rs]; rfl
def gSum : D → Option D
  | .lst ds => (intsOf ds).map fun ns => .int ns.sum
  | _ => none
def gAll : D → Option D
  | .lst ds => (blsOf ds).map fun bs => .bl (bs.all id)
  | _ => none
def gAny : D → Option D
  | .lst ds => (blsOf ds).map fun bs => .bl (bs.any id)
  | _ => none
theorem de_sum (hc : X.calm = true) (hg : Gl X "sum") (hm : X.mg "sum" = none) (ha : DE X T H0 Γ a fa ka) (hs : starEach [a] X.env = (false, eval a X.env) :: starEach [] X.env := by rfl) : DE X T H0 Γ (.Call (.Name "sum" po) [a] [] pos) (e1 gSum fa) (.q q) :=
  PE.wk (pe_callB (cr_sum hc) hg hm (by decide +kernel) (da_cons ha da_nil hs) (he := hs)) (callB_sem fun F O σ H ρ v x d Q R rv hg hq => by
    unfold gSum at hg
    split at hg
    · rename_i ds
      cases h1 : intsOf ds with
      | none => rw [h1] at hg; cases hg
      | some ns =>
        rw [h1] at hg
        cases hg
        have := intsOf_eq h1
        subst this
        cases rv with
        | @lst a vs ds h1 h2 h3 =>
          rw [h3.ints] at h1
          exact ⟨a, ns, rfl, SqL.of h1, hq F H _ R (.refl _) (.refl _) (RepG.int _)⟩
    · cases hg)
theorem de_all (hc : X.calm = true) (hg : Gl X "all") (hm : X.mg "all" = none) (ha : DE X T H0 Γ a fa ka) (hs : starEach [a] X.env = (false, eval a X.env) :: starEach [] X.env := by rfl) : DE X T H0 Γ (.Call (.Name "all" po) [a] [] pos) (e1 gAll fa) (.q q) :=
  PE.wk (pe_callB (cr_all hc) hg hm (by decide +kernel) (da_cons ha da_nil hs) (he := hs)) (callB_sem fun F O σ H ρ v x d Q R rv hg hq => by
    unfold gAll at hg
    split at hg
    · rename_i ds
      cases h1 : blsOf ds with
      | none => rw [h1] at hg; cases hg
      | some ns =>
        rw [h1] at hg
        cases hg
        have := blsOf_eq h1
        subst this
        cases rv with
        | @lst a vs ds h1 h2 h3 =>
          rw [h3.bls] at h1
          exact ⟨a, ns, rfl, SqL.of h1, hq F H _ R (.refl _) (.refl _) (RepG.bl _)⟩
    · cases hg)
theorem de_any (hc : X.calm = true) (hg : Gl X "any") (hm : X.mg "any" = none) (ha : DE X T H0 Γ a fa ka) (hs : starEach [a] X.env = (false, eval a X.env) :: starEach [] X.env := by rfl) : DE X T H0 Γ (.Call (.Name "any" po) [a] [] pos) (e1 gAny fa) (.q q) :=
  PE.wk (pe_callB (cr_any hc) hg hm (by decide +kernel) (da_cons ha da_nil hs) (he := hs)) (callB_sem fun F O σ H ρ v x d Q R rv hg hq => by
    unfold gAny at hg
    split at hg
    · rename_i ds
      cases h1 : blsOf ds with
      | none => rw [h1] at hg; cases hg
      | some ns =>
        rw [h1] at hg
        cases hg
        have := blsOf_eq h1
        subst this
        cases rv with
        | @lst a vs ds h1 h2 h3 =>
          rw [h3.bls] at h1
          exact ⟨a, ns, rfl, SqL.of h1, hq F H _ R (.refl _) (.refl _) (RepG.bl _)⟩
    · cases hg)
/-- x in (a, b, ..) of ints -/
def gInT (x y : D) : Option D := match x, y with
  | .int i, .tup ds => (intsOf ds).map fun ns => .bl (ns.any fun j => decide (j = i))
  | _, _ => none
theorem cs_inT {K : PySem.W.Frag} (hp : ka.pers = true) : ∀ σ H Q, tD K T H0 Γ (e2 gInT fa fb) (.q q) σ H Q → tOp (rIn K false) (tD K T H0 Γ fa ka) (tD K T H0 Γ fb kb) σ H Q := bin_sem hp fun F O σ H ρ v u x y d Q R rv ru hg hq => by
  unfold gInT at hg
  split at hg
  · rename_i i ds
    cases h1 : intsOf ds with
    | none => rw [h1] at hg; cases hg
    | some ns =>
      rw [h1] at hg
      cases hg
      have := intsOf_eq h1
      subst this
      obtain ⟨p, vs, rfl, h2, h3, _⟩ := Rp.tup R ru
      have e := h3.ints
      subst e
      rw [rv.int]
      refine ⟨p, _, rfl, .inr h2, rfl, ?_, ?_⟩
      · rw [List.all_map]; exact List.all_eq_true.mpr fun _ _ => rfl
      · have : inV (V.int i) (ns.map V.int) = ns.any fun j => decide (j = i) := by
          unfold inV
          rw [List.any_map]
          congr 1
        rw [if_neg Bool.false_ne_true, this]
        exact hq F H _ R (.refl _) (.refl _) (RepG.bl _)
  · cases hg
/-- isinstance(x, a built-in type) -/
def tyOf : D → Option String
  | .non => some "NoneType"
  | .bl _ => some "bool"
  | .int _ => some "int"
  | .str _ => some "str"
  | .lst _ => some "list"
  | .scr _ => some "list"
  | .dic _ _ => some "dict"
  | .dit _ _ => some "dict"
  | _ => none
def gIsi (ty : String) (d : D) : Option D := (if (match d with | .tup _ => true | _ => false) then some "tuple" else tyOf d).bind fun t => (kitB t ty).map .bl
theorem de_isi {tn : String} (hg : Gl X "isinstance") (hm : X.mg "isinstance" = none) (ha : DE X T H0 Γ a fa ka) (hb : PE X b (tC (.ty tn)))
    (hs : starEach [a, b] X.env = (false, eval a X.env) :: starEach [b] X.env := by rfl) (hs2 : starEach [b] X.env = (false, eval b X.env) :: starEach [] X.env := by rfl) (hpl : (backTo pos (starEach [b] X.env)).any (·.1) = false := by rfl) : DE X T H0 Γ (.Call (.Name "isinstance" po) [a, b] [] pos) (e1 (gIsi tn) fa) (.q q) :=
  PE.wk (pe_callB call_isi hg hm (by decide +kernel) (pa_cons ha (pa_cons hb pa_nil hs2) hs) (he := hs) (hpl := hpl)) (by
    rintro σ H Q ⟨F, O, ρ, d, R, hf, hq⟩
    unfold e1 at hf
    cases h1 : fa ρ with
    | none => rw [h1] at hf; cases hf
    | some x =>
      rw [h1] at hf
      simp only [Option.bind_some] at hf
      refine ⟨F, O, ρ, x, R, h1, fun F1 H1 v R1 s1 t1 r1 => ?_⟩
      have rv := R1.toB r1
      have fin : ∀ {t : String} {d : D}, TyX X.K H1 v (.type t) → (kitB t tn).map D.bl = some d → d = d → (∀ w, Rp X.K T H0 F1 H1 O (.q q) w d → Q w H1) → rIsi X.K [v, .ty tn] H1 Q := fun {t d} ht hk _ hq => by
        cases h2 : kitB t tn with
        | none => rw [h2] at hk; cases hk
        | some b =>
          rw [h2] at hk
          cases hk
          exact ⟨v, .ty tn, .type t, .type tn, b, rfl, .ty tn, ht, kit_ty h2, hq _ (RepG.bl b)⟩
      have hq1 : ∀ w, Rp X.K T H0 F1 H1 O (.q q) w d → Q w H1 := fun w hw => hq F1 H1 w R1 s1 t1 hw
      unfold gIsi at hf
      cases rv with
      | non => exact fin (.base .non) (by simpa [tyOf] using hf) rfl hq1
      | bl b => exact fin (.base (.bl b)) (by simpa [tyOf] using hf) rfl hq1
      | int b => exact fin (.base (.int b)) (by simpa [tyOf] using hf) rfl hq1
      | str b => exact fin (.base (.str b)) (by simpa [tyOf] using hf) rfl hq1
      | lst h2 _ _ => exact fin (.base (.lst h2)) (by simpa [tyOf] using hf) rfl hq1
      | scr h2 _ =>
        rcases h2 with ⟨o, h2⟩ | ⟨o, its, n, h2, h3, _⟩
        · exact fin (.base (.frz h2)) (by simpa [tyOf] using hf) rfl hq1
        · exact fin (.kList h2 h3) (by simpa [tyOf] using hf) rfl hq1
      | tup h2 _ =>
        exact fin (.base (.tup h2)) (by simpa using hf) rfl hq1
      | ins _ _ _ _ => simp [tyOf] at hf
      | dic h2 _ _ => exact fin (.base (.dK h2)) (by simpa [tyOf] using hf) rfl hq1
      | dit h2 _ _ => exact fin (.base (.dT h2)) (by simpa [tyOf] using hf) rfl hq1
      | exn _ _ _ _ => simp [tyOf] at hf)
end
end DL

namespace DL
open PySem PySem.Spec PyProof.Rows L2

/-! ### own lists that change -/
def sApp (i : Nat) (f : EF) : SF := fun ρ => match ρ[i]? with
  | some (.lst ds) => (f ρ).bind fun d => if ds.length < 1000000 then some (.nx (ρ.set i (.lst (ds ++ [d])))) else none
  | _ => none
def sExt (i : Nat) (f : EF) : SF := fun ρ => match ρ[i]? with
  | some (.lst ds) => (f ρ).bind fun d => match d with
    | .lst es => if ds.length + es.length ≤ 1000000 then some (.nx (ρ.set i (.lst (ds ++ es)))) else none
    | _ => none
  | _ => none
def sRev (i : Nat) : SF := fun ρ => match ρ[i]? with
  | some (.lst ds) => some (.nx (ρ.set i (.lst ds.reverse)))
  | _ => none
def sClr (i : Nat) : SF := fun ρ => match ρ[i]? with
  | some (.lst _) => some (.nx (ρ.set i (.lst [])))
  | _ => none
def sPut (i : Nat) (fi fe : EF) : SF := fun ρ => (fe ρ).bind fun d => match ρ[i]? with
  | some (.lst ds) => (fi ρ).bind fun n => match n with
    | .int n => (ixN ds.length n).bind fun j => some (.nx (ρ.set i (.lst (ds.set j d))))
    | _ => none
  | _ => none
section
variable {X : Cx} {T : Tb} {H0 : HZ} {Γ Γ1 Γn Γm : List Mode} {J : Jm} {e a b tg iter : Expr} {es : List Expr} {st : Stmt} {sts : List Stmt} {f g : SF} {fe fa fb : EF} {k ka kb : Knd} {pos po : Pos} {q p : Q3} {fi : List D → Option (List D)} {c : Bool} {fs : List D → Option (List D)}
theorem lt_line {n : Nat} (h : n < 1000000) : n < sizeLine := by rw [sizeLine_eq]; omega
theorem ds_append (i : Nat) (hm : Γ[i]? = some (.ow q)) (h : PE X e (tBM X.K "list" rAppend (tVar i) (tCons (tD X.K T H0 Γ fe (.q q)) tNil))) (hs : swapsWith e none pos.line X.env = pure false := by rfl) : DS X T H0 Γ (.Expr e pos) (sApp i fe) Γ J :=
  PS.wk (ps_expr h hs) fun E σ H ⟨F, O, ρ, out, R, hf, hq⟩ => by
    obtain ⟨a, vs, ds, h1, h2, h3, h4, h5⟩ := R.sl i _ hm
    unfold sApp at hf
    rw [h2] at hf
    simp only at hf
    cases h6 : fe ρ with
    | none => rw [h6] at hf; cases hf
    | some d =>
      rw [h6] at hf
      simp only [Option.bind_some] at hf
      split at hf
      · rename_i hl
        cases hf
        refine ⟨.ref a, h1, .inl ⟨rfl, vs, SqL.of h3⟩, F, O, ρ, d, R, h6, fun F1 H1 v R1 s1 t1 r1 => ?_⟩
        have h7 := t1 _ _ h3
        refine ⟨a, vs, v, rfl, rfl, h7, by rw [h5.length]; exact lt_line hl, ?_⟩
        have R2 := R1.upo (us := vs ++ [v]) (ds := ds ++ [d]) (q := q) hm h1 h7 h4 ((s1.rqs h5).append (.cons r1 .nil))
        rw [show Γ.set i (.ow q) = Γ from by
          apply List.ext_getElem?
          intro j
          by_cases hj : i = j
          · subst hj; rw [List.getElem?_set_self (List.getElem?_eq_some_iff.mp hm).1, hm]
          · rw [List.getElem?_set_ne hj]] at R2
        exact hq F1 O σ _ s1 R2
      · cases hf
theorem set_same {i : Nat} {m : Mode} (hm : Γ[i]? = some m) : Γ.set i m = Γ := by
  apply List.ext_getElem?
  intro j
  by_cases hj : i = j
  · subst hj; rw [List.getElem?_set_self (List.getElem?_eq_some_iff.mp hm).1, hm]
  · rw [List.getElem?_set_ne hj]
theorem ds_extend (i : Nat) (hm : Γ[i]? = some (.ow q)) (hk : ka.its = some q) (h : PE X e (tBM X.K "list" rExtend (tVar i) (tCons (tD X.K T H0 Γ fe ka) tNil))) (hs : swapsWith e none pos.line X.env = pure false := by rfl) : DS X T H0 Γ (.Expr e pos) (sExt i fe) Γ J :=
  PS.wk (ps_expr h hs) fun E σ H ⟨F, O, ρ, out, R, hf, hq⟩ => by
    obtain ⟨a, vs, ds, h1, h2, h3, h4, h5⟩ := R.sl i _ hm
    unfold sExt at hf
    rw [h2] at hf
    simp only at hf
    cases h6 : fe ρ with
    | none => rw [h6] at hf; cases hf
    | some d =>
      rw [h6] at hf
      simp only [Option.bind_some] at hf
      split at hf
      · rename_i es
        split at hf
        · rename_i hl
          cases hf
          refine ⟨.ref a, h1, .inl ⟨rfl, vs, SqL.of h3⟩, F, O, ρ, _, R, h6, fun F1 H1 v R1 s1 t1 r1 => ?_⟩
          have h7 := t1 _ _ h3
          obtain ⟨b, us, rfl, h8, h9⟩ := Rp.lst R1 r1 hk
          refine ⟨a, b, vs, us, rfl, rfl, h7, h8, by rw [h5.length, h9.length]; exact big6 hl, ?_⟩
          have R2 := R1.upo (us := vs ++ us) (ds := ds ++ es) (q := q) hm h1 h7 h4 ((s1.rqs h5).append h9)
          rw [set_same hm] at R2
          exact hq F1 O σ _ s1 R2
        · cases hf
      · cases hf
theorem ds_reverse (i : Nat) (hm : Γ[i]? = some (.ow q)) (h : PE X e (tBM0 X.K "list" rReverse (tVar i))) (hs : swapsWith e none pos.line X.env = pure false := by rfl) : DS X T H0 Γ (.Expr e pos) (sRev i) Γ J :=
  PS.wk (ps_expr h hs) fun E σ H ⟨F, O, ρ, out, R, hf, hq⟩ => by
    obtain ⟨a, vs, ds, h1, h2, h3, h4, h5⟩ := R.sl i _ hm
    unfold sRev at hf
    rw [h2] at hf
    cases hf
    refine ⟨.ref a, h1, .inl ⟨rfl, vs, SqL.of h3⟩, a, vs, rfl, rfl, h3, ?_⟩
    have R2 := R.upo (us := vs.reverse) (ds := ds.reverse) (q := q) hm h1 h3 h4 h5.reverse
    rw [set_same hm] at R2
    exact hq F O σ _ (.refl _) R2
theorem ds_clear (i : Nat) (hm : Γ[i]? = some (.ow q)) (h : PE X e (tBM0 X.K "list" rClear (tVar i))) (hs : swapsWith e none pos.line X.env = pure false := by rfl) : DS X T H0 Γ (.Expr e pos) (sClr i) Γ J :=
  PS.wk (ps_expr h hs) fun E σ H ⟨F, O, ρ, out, R, hf, hq⟩ => by
    obtain ⟨a, vs, ds, h1, h2, h3, h4, h5⟩ := R.sl i _ hm
    unfold sClr at hf
    rw [h2] at hf
    cases hf
    refine ⟨.ref a, h1, .inl ⟨rfl, vs, SqL.of h3⟩, a, vs, rfl, rfl, h3, ?_⟩
    have R2 := R.upo (us := []) (ds := []) (q := q) hm h1 h3 h4 .nil
    rw [set_same hm] at R2
    exact hq F O σ _ (.refl _) R2
/-- x[i] = e -/
theorem ds_put (i : Nat) (hm : Γ[i]? = some (.ow q)) (h : PS X st (tAsg (tD X.K T H0 Γ fe (.q q)) (L2.gSub (tVar i) (tD X.K T H0 Γ fa ka) rSetL))) : DS X T H0 Γ st (sPut i fa fe) Γ J :=
  PS.wk h fun E σ H ⟨F, O, ρ, out, R, hf, hq⟩ => by
    unfold sPut at hf
    cases h6 : fe ρ with
    | none => rw [h6] at hf; cases hf
    | some d =>
      rw [h6] at hf
      simp only [Option.bind_some] at hf
      refine ⟨F, O, ρ, d, R, h6, fun F1 H1 v R1 s1 t1 r1 => ?_⟩
      obtain ⟨a, vs, ds, h1, h2, h3, h4, h5⟩ := R1.sl i _ hm
      rw [h2] at hf
      simp only at hf
      cases h7 : fa ρ with
      | none => rw [h7] at hf; cases hf
      | some n =>
        rw [h7] at hf
        simp only [Option.bind_some] at hf
        split at hf
        · rename_i n
          cases h8 : ixN ds.length n with
          | none => rw [h8] at hf; cases hf
          | some j =>
            rw [h8] at hf
            cases hf
            refine ⟨.ref a, h1, F1, O, ρ, _, R1, h7, fun F2 H2 u R2 s2 t2 r2 => ?_⟩
            have h9 := t2 _ _ h3
            refine ⟨a, vs, n, j, rfl, r2.int, h9, by rw [h5.length]; exact h8, ?_⟩
            have R3 := R2.upo (us := vs.set j v) (ds := ds.set j d) (q := q) hm h1 h9 h4 ((s2.rqs h5).set (s2.rq r1) j)
            rw [set_same hm] at R3
            exact hq F2 O σ _ (s1.trans s2) R3
        · cases hf

/-! ### defs -/
def spD (K : PySem.W.Frag) (T : Tb) (n : Nat) (φ : List D → Option D) (rk : RK) : Sp := fun vs H Q _ => vs.length = n ∧ ∃ ds d, LamX.Tabs T.t H ∧ RUs K T H vs ds ∧ φ ds = some d ∧ ∀ H' v, RetOk K T (ntb H) H' rk v d → Q v H'
def RK.knd : RK → Knd
  | .q .U => .B
  | .q .A => .q .A
  | .q .L => .q .L
  | .ol q => .ol q
  | .od _ => .B
  | .pl _ => .B
def RK.ok : RK → Bool
  | .q .U => true
  | .q .A => true
  | .q .L => true
  | .ol .A => true
  | .ol .L => true
  | _ => false
/-- a def that is found by its name keeps its promise -/
structure OkF (P : Program) (w : World) (K : PySem.W.Frag) (mg : Str → Option Value) (base : Heap) (T : Tb) (k : Nat) (x : Str) (ps : List Str) (φ : List D → Option D) (rk : RK) : Prop where
  ex : ∃ f fd, mg x = some (.ref f) ∧ PySem.W.keepIn K (.ref f) = true ∧ Binds K fd ps [] ∧ FnOk P w K mg base CX0 k f fd ps (spD K T ps.length φ rk)
/-- what a callee hands back, in the caller's eyes -/
theorem ret_in {K : PySem.W.Frag} {F H1 H' : Hp} {O : Own} {σ : L2.St} {ρ : List D} {rk : RK} {v : V} {d : D} (R : Rl K T H0 Γ F O σ H1 ρ) (h : RetOk K T (ntb H1) H' rk v d) (hk : rk.ok = true) : ∃ F', Rl K T H0 Γ F' O σ H' ρ ∧ Same F F' ∧ Sm H1 H' ∧ Rp K T H0 F' H' O rk.knd v d := by
  have fh : Same F (ntb H1) := fun b o e => ntb_some (R.fh _ _ e) (R.nF _ _ e)
  have H01 : Same H0 (ntb H1) := R.h0.trans fh
  have step : ∀ {Fc : Hp}, Same (ntb H1) Fc → Same Fc H' → NoT Fc → LamX.Tabs T.t H' → Rl K T H0 Γ (cut Fc fun b => ∃ i, O i b) O σ H' ρ ∧ Same F (cut Fc fun b => ∃ i, O i b) ∧ Sm H1 H' ∧ (∀ a o, Fc a = some o → isMut o = false → ¬ ∃ i, O i a) := fun {Fc} s1 s2 n1 tb => by
    have sF : Same F (cut Fc fun b => ∃ i, O i b) := fun b o e => by
      rw [cut_out]
      · exact s1 _ _ (fh _ _ e)
      · rintro ⟨i, hi⟩
        rw [(R.on i b hi).1] at e; cases e
    have sm : Sm H1 H' := ⟨fun b o e n => s2 _ _ (s1 _ _ (ntb_some e n))⟩
    refine ⟨(R.grow sm tb).more sF (fun b o e => ?_) n1.cut (fun i b hi => cut_in ⟨i, hi⟩), sF, sm, ?_⟩
    · unfold cut at e
      split at e
      · cases e
      · exact s2 _ _ e
    · rintro a o e hm ⟨i, hi⟩
      obtain ⟨_, u, h2, h3⟩ := R.on i a hi
      have := s1 _ _ (ntb_some h2 (isT_mut h3))
      rw [e] at this; cases this
      rw [hm] at h3; cases h3
  have nkc : ∀ {q : Q3}, (q = .A ∨ q = .L) → ∀ a, NK (ntb H1) q a → ¬ ∃ i, O i a := fun {q} hq a ha ⟨i, hi⟩ => by
    obtain ⟨_, u, h2, h3⟩ := R.on i a hi
    rcases hq with rfl | rfl
    · exact ha
    · have ha : ntb H1 a = none := ha
      rw [ntb_some h2 (isT_mut h3)] at ha; cases ha
  have nk0 : ∀ {q : Q3}, (q = .A ∨ q = .L) → ∀ a, NK (ntb H1) q a → NK H0 q a := fun {q} hq a ha => by
    rcases hq with rfl | rfl
    · exact ha
    · exact H01.free ha
  cases rk with
  | q q =>
    obtain ⟨Fc, s1, s2, ⟨n1, tb⟩, r⟩ := h
    obtain ⟨R2, s3, s4, hT⟩ := step s1 s2 n1 tb
    cases q with
    | U => exact ⟨_, R2, s3, s4, r.mono s2 fun _ _ => trivial⟩
    | A => exact ⟨_, R2, s3, s4, (r.cut (nkc (.inl rfl)) hT).mono (.refl _) (nk0 (.inl rfl))⟩
    | L => exact ⟨_, R2, s3, s4, (r.cut (nkc (.inr rfl)) hT).mono (.refl _) (nk0 (.inr rfl))⟩
  | ol q =>
    have hq : ∀ {q' : Q3}, (RK.ol q = .q q' ∨ RK.ol q = .ol q') → (q' = .A ∨ q' = .L) := fun {q'} e => by
      rcases e with e | e
      · cases e
      · cases e
        cases q <;> first | exact .inl rfl | exact .inr rfl | cases hk
    obtain ⟨Fc, a, vs, ds, e1, e2, s1, s2, ⟨n1, tb⟩, h1, h2, r⟩ := h
    obtain ⟨R2, s3, s4, hT⟩ := step s1 s2 n1 tb
    refine ⟨_, R2, s3, s4, a, vs, ds, e1, e2, h1, ?_, fun i hi => ?_, (r.cut (nkc (hq (.inr rfl))) hT).mono (.refl _) (nk0 (hq (.inr rfl)))⟩
    · unfold cut
      split
      · rfl
      · exact h2
    · obtain ⟨_, u, h3, h4⟩ := R.on i a hi
      rw [s1 _ _ (ntb_some h3 (isT_mut h4))] at h2; cases h2
  | od S => cases hk
  | pl z => cases hk
def eCall (φ : List D → Option D) (fs : List D → Option (List D)) : EF := fun ρ => (fs ρ).bind φ
theorem call_sem {K : PySem.W.Frag} {n : Nat} {φ : List D → Option D} {rk : RK} {E : XK} (hk : rk.ok = true) (hn : ∀ ρ ds, fs ρ = some ds → ds.length = n) :
    ∀ σ H Q, tD K T H0 Γ (eCall φ fs) rk.knd σ H Q → tCall (spD K T n φ rk) [] E (tDA K T H0 Γ fs) σ H Q := by
  rintro σ H Q ⟨F, O, ρ, d, R, hf, hq⟩
  unfold eCall at hf
  cases h1 : fs ρ with
  | none => rw [h1] at hf; cases hf
  | some ds =>
    rw [h1] at hf
    simp only [Option.bind_some] at hf
    refine ⟨F, O, ρ, ds, R, h1, fun F1 H1 vs R1 s1 t1 r1 => ?_⟩
    show spD K T n φ rk (vs ++ []) H1 Q E
    rw [List.append_nil]
    refine ⟨by rw [r1.length]; exact hn _ _ h1, ds, d, R1.tb, r1, hf, fun H' v r => ?_⟩
    obtain ⟨F2, R2, s2, t2, r2⟩ := ret_in R1 r hk
    exact hq F2 H' v R2 (s1.trans s2) (t1.trans t2) r2
theorem aCons_len {n : Nat} (h : ∀ ρ ds, fs ρ = some ds → ds.length = n) : ∀ ρ ds, aCons fe fs ρ = some ds → ds.length = n + 1 := fun ρ ds e => by
  unfold aCons at e
  cases h1 : fe ρ with
  | none => rw [h1] at e; cases e
  | some x =>
    rw [h1] at e
    simp only [Option.bind_some] at e
    cases h2 : fs ρ with
    | none => rw [h2] at e; cases e
    | some xs =>
      rw [h2] at e
      cases e
      rw [List.length_cons, h ρ xs h2]
theorem aNil_len : ∀ ρ ds, aNil ρ = some ds → ds.length = 0 := fun ρ ds e => by cases e; rfl
theorem de_call {j k : Nat} {x : Str} {ps : List Str} {φ : List D → Option D} {rk : RK} (h : OkF X.prog X.w X.K X.mg X.base T j x ps φ rk) (hr : Room k X.A) (hg : Gl X x) (ha : DA X T H0 Γ (e :: es) fs) (hn : ∀ ρ ds, fs ρ = some ds → ds.length = ps.length) (hj : j ≤ k := by decide) (hk : rk.ok = true := by rfl)
    (hdb : (x == ("__debug__" : Str)) = false := by decide) (he : starEach (e :: es) X.env = (false, eval e X.env) :: starEach es X.env := by rfl) (hpl : (backTo pos (starEach es X.env)).any (·.1) = false := by rfl) :
    DE X T H0 Γ (.Call (.Name x po) (e :: es) [] pos) (eCall φ fs) rk.knd := by
  obtain ⟨f, fd, h1, h2, h3, h4⟩ := h.ex
  exact PE.wk (pe_call h4 (hr.mono hj) hg h1 h2 h3 .nil pass0 ha hdb he hpl) (call_sem hk hn)
end
end DL

namespace DL
open PySem PySem.Spec PyProof.Rows L2

/-! ### a def's entry -/
/-- what a parameter is taken for: U: anything; A: data without mutable things; fA: a list of such; fU: a list -/
inductive PKn where
  | U | A | fA | fU
def PKn.mode : PKn → Mode
  | .U => .fz .U
  | .A => .fz .A
  | .fA => .fl .A
  | .fU => .fl .U
def PKn.chk : PKn → D → Bool
  | .U, _ => true
  | .A, d => d.lf
  | .fA, .lst ds => D.lfs ds
  | .fU, .lst _ => true
  | _, _ => false
def chks : List PKn → List D → Bool
  | [], [] => true
  | p :: ps, d :: ds => p.chk d && chks ps ds
  | _, _ => false
def fnD (pks : List PKn) (m : Nat) (nx : Bool) (body : SF) : List D → Option D := fun args =>
  if chks pks args = true then (body (args ++ List.replicate m .non)).bind fun o => match o with
    | .rt d => some d
    | .nx _ => if nx = true then some .non else none
    | _ => none
  else none
abbrev ms0 (pks : List PKn) (m : Nat) : List Mode := pks.map PKn.mode ++ List.replicate m .no
theorem chks_len : ∀ {pks : List PKn} {ds : List D}, chks pks ds = true → ds.length = pks.length
  | [], [], _ => rfl
  | p :: ps, d :: ds, h => by
    unfold chks at h
    rw [Bool.and_eq_true] at h
    rw [List.length_cons, List.length_cons, chks_len h.2]
theorem chks_get : ∀ {pks : List PKn} {ds : List D} {i : Nat} {p : PKn}, chks pks ds = true → pks[i]? = some p → ∃ d, ds[i]? = some d ∧ p.chk d = true
  | [], [], _, _, _, e => by simp at e
  | p :: ps, d :: ds, 0, q, h, e => by
    unfold chks at h
    rw [Bool.and_eq_true] at h
    simp at e; subst e
    exact ⟨d, rfl, h.1⟩
  | p :: ps, d :: ds, i + 1, q, h, e => by
    unfold chks at h
    rw [Bool.and_eq_true] at h
    obtain ⟨x, h1, h2⟩ := chks_get (i := i) h.2 (by simpa using e)
    exact ⟨x, by simpa using h1, h2⟩
theorem rl_start {K : PySem.W.Frag} {T : Tb} {H : Hp} {pks : List PKn} {m : Nat} {N : List Str} {vs : List V} {ds : List D} (hN : N.length = pks.length + m) (hr : RUs K T H vs ds) (hc : chks pks ds = true) (ht : LamX.Tabs T.t H) :
    Rl K T ⟨ntb H, 0, []⟩ (ms0 pks m) (ntb H) (fun _ _ => False) (L2.start N vs) H (ds ++ List.replicate m .non) := by
  have hl := chks_len hc
  have hv := hr.length
  have hr : RUs K T (ntb H) vs ds := hr.monoS ⟨fun b o e n => ntb_some e n⟩ fun _ h => h
  refine ⟨.refl _, fun b o e => ntb_le e, fun _ _ h => h.elim, fun _ _ _ h => h.elim, ?_, ?_, fun i md hm => ?_, fun b o e => ntb_not e, ht⟩
  · unfold L2.start; simp; omega
  · simp; omega
  · by_cases hi : i < pks.length
    · unfold ms0 at hm
      rw [List.getElem?_append_left (by simpa using hi), List.getElem?_map] at hm
      cases hp : pks[i]? with
      | none => rw [hp] at hm; cases hm
      | some p =>
        rw [hp] at hm
        cases hm
        obtain ⟨d, h1, h2⟩ := chks_get hc hp
        obtain ⟨v, h3, h4⟩ := hr.get h1
        have e1 : (L2.start N vs)[i]? = some (some v) := by
          unfold L2.start
          rw [List.getElem?_append_left (by rw [List.length_map]; omega), List.getElem?_map, h3]; rfl
        have e2 : (ds ++ List.replicate m D.non)[i]? = some d := by
          rw [List.getElem?_append_left (by omega), h1]
        rw [e1, e2]
        cases p with
        | U => exact ⟨v, d, rfl, rfl, h4⟩
        | A => exact ⟨v, d, rfl, rfl, h4.lf h2⟩
        | fA =>
          cases d <;> first | (cases h2; done) | skip
          cases h4 with
          | @lst a vs ds h5 h6 h7 => exact ⟨a, vs, _, rfl, rfl, h5, RepsG.lf h7 h2⟩
        | fU =>
          cases d <;> first | (cases h2; done) | skip
          cases h4 with
          | @lst a vs ds h5 h6 h7 => exact ⟨a, vs, _, rfl, rfl, h5, h7⟩
    · unfold ms0 at hm
      rw [List.getElem?_append_right (by simpa using hi)] at hm
      have : md = .no := by
        have := List.mem_of_getElem? hm
        rw [List.mem_replicate] at this
        exact this.2
      subst this
      trivial
/-- what the top has left of a def -/
structure FtF (K : PySem.W.Frag) (mg : Str → Option Value) (x qual : Str) (st : Stmt) (ps : List Str) : Prop where
  ex : ∃ f fd, Fun K x qual st f fd ∧ Binds K fd ps [] ∧ mg x = some (.ref f)
abbrev bodyX (P : Program) (w : World) (K : PySem.W.Frag) (mg : Str → Option Value) (base : Heap) (N : List Str) (x : Str) (st : Stmt) (f : Addr) (cdv : Value) (A : Around) (outer : List Env) (s : Shared) (H : Hp) (E : XK) : Cx := (cxOf CX0 P w K mg base N x (defScope st) f cdv A outer s H E).nox
section
variable {P : Program} {w : World} {K : PySem.W.Frag} {mg : Str → Option Value} {base : Heap} {T : Tb}
theorem fn_body {x qual : Str} {st : Stmt} {N ps : List Str} {pks : List PKn} {m k : Nat} {body : SF} {Γn : List Mode} {rk : RK} {nx : Bool} {f : Addr} {fd : FuncData} (F : Fun K x qual st f fd) (S : FnScope N ps (defScope st)) (hN : N.length = pks.length + m) (hp : ps.length = pks.length)
    (hnx : nx = true → ∃ q, rk = .q q) (hb : ∀ (f : Addr) (cdv : Value) (A : Around) (outer : List Env) (s : Shared) (H : Hp) (E : XK), Room k (bodyX P w K mg base N qual st f cdv A outer s H E).A → DSs (bodyX P w K mg base N qual st f cdv A outer s H E) T ⟨ntb H, 0, []⟩ (ms0 pks m) (defBody st) body Γn (jm rk)) :
    FnOk P w K mg base CX0 (k + 1) f fd ps (spD K T ps.length (fnD pks m nx body) rk) := by
  refine F.ok S (fun vs H Q E h => h.1) fun cdv A outer s H vs Q E hr h => ?_
  obtain ⟨hl, ds, d, ht, r, hf, hq⟩ := h
  refine ⟨_, hb f cdv A outer s H E hr, ?_⟩
  unfold fnD at hf
  split at hf
  · rename_i hc
    cases h1 : body (ds ++ List.replicate m .non) with
    | none => rw [h1] at hf; cases hf
    | some o =>
      rw [h1] at hf
      simp only [Option.bind_some] at hf
      refine ⟨ntb H, _, _, o, rl_start hN r hc ht, h1, ?_⟩
      split at hf
      · cases hf
        exact fun H' v hv => hq H' v hv
      · split at hf
        · rename_i hx
          cases hf
          obtain ⟨q, rfl⟩ := hnx hx
          exact fun F' O' σ' H' s R => hq H' .non ⟨F', R.h0, R.fh, ⟨R.nF, R.tb⟩, .non⟩
        · cases hf
      · cases hf
  · cases hf
theorem mk_okf {x : Str} {st : Stmt} {N ps : List Str} {pks : List PKn} {m k : Nat} {body : SF} {Γn : List Mode} {rk : RK} {nx : Bool} (F : FtF K mg x x st ps) (S : FnScope N ps (defScope st)) (hN : N.length = pks.length + m) (hp : ps.length = pks.length)
    (hnx : nx = true → ∃ q, rk = .q q) (hb : ∀ (f : Addr) (cdv : Value) (A : Around) (outer : List Env) (s : Shared) (H : Hp) (E : XK), Room k (bodyX P w K mg base N x st f cdv A outer s H E).A → DSs (bodyX P w K mg base N x st f cdv A outer s H E) T ⟨ntb H, 0, []⟩ (ms0 pks m) (defBody st) body Γn (jm rk)) :
    OkF P w K mg base T (k + 1) x ps (fnD pks m nx body) rk := by
  obtain ⟨f, fd, h1, h2, h3⟩ := F.ex
  exact ⟨f, fd, h3, h1.kp, h2, fn_body h1 S hN hp hnx hb⟩
/-- a law's promise, from its denotation -/
def spLaw (K : PySem.W.Frag) (M : Nat) (tt : List (Addr × Str) := []) : Sp := fun vs H Q _ => ∃ (a : Addr) (ns : List Int), vs = [.ref a] ∧ LamX.Tabs tt H ∧ SqS K H a (ns.map V.int) ∧ ns.length ≤ M ∧ ∀ H', Q (.bl true) H'
theorem law_ok {k : Nat} {f : Addr} {fd : FuncData} {x : Str} {φ : List D → Option D} {M : Nat} (h : FnOk P w K mg base CX0 k f fd [x] (spD K T 1 φ (.q .A))) (hφ : ∀ ns : List Int, ns.length ≤ M → φ [.scr (ns.map .int)] = some (.bl true)) : FnOk P w K mg base CX0 k f fd [x] (spLaw K M T.t) :=
  h.imp fun vs H Q E ⟨a, ns, e, ht, hs, hl, hq⟩ => by
    subst e
    exact ⟨rfl, [.scr (ns.map .int)], _, ht, .cons (.scr hs (vals_reps ns)) .nil, hφ ns hl, fun H' v ⟨F, _, _, _, r⟩ => by cases r; exact hq H'⟩
end
theorem law_sp {K : PySem.W.Frag} {M : Nat} {H : Hp} {a : Addr} {ns : List Int} (hl : ns.length ≤ M) (hO : Only H) (hS : SqL K H a (ns.map V.int)) : spLaw K M [] [.ref a] H (fun v _ => v = .bl true) fun _ _ _ => False := by
  refine ⟨a, ns, rfl, (fun p hp => nomatch hp), ?_, hl, fun _ => rfl⟩
  rcases hS with (h | h) | h
  · rcases hO a with z | ⟨o, xs, z⟩
    · rw [h] at z; cases z
    · rw [h] at z; cases z
  · exact .inl h
  · exact .inr h
end DL

namespace DL
open PySem PySem.Spec PyProof.Rows L2
section
variable {X : Cx} {T : Tb} {H0 : HZ} {Γ Γ1 Γn Γm : List Mode} {J : Jm} {e a b tg iter : Expr} {es : List Expr} {st : Stmt} {sts : List Stmt} {f g : SF} {fe fa fb : EF} {k ka kb : Knd} {pos po : Pos} {q p : Q3} {fi : List D → Option (List D)} {c : Bool} {fs : List D → Option (List D)}
theorem dss_one (h1 : DS X T H0 Γ st f Γ1 J) (h : wkAll Γ1 Γn = true) : DSs X T H0 Γ [st] f Γn J := PSs.wk (pss_one h1) fun E σ H ⟨F, O, ρ, out, R, hf, hq⟩ => by
  refine ⟨F, O, ρ, out, R, hf, ?_⟩
  cases out with
  | nx ρ' =>
    intro F1 O1 σ1 H1 s1 R1
    obtain ⟨F', O', s, R'⟩ := wk_of h F1 O1 σ1 H1 ρ' R1
    exact hq F' O' σ1 H1 (s1.trans s) R'
  | bk ρ' => exact hq
  | ct ρ' => exact hq
  | rt d => exact hq
  | ex c es ρ' => exact hq
/-- names that no one asks for any more are forgotten -/
def sThen (f : SF) (cl : List Nat) : SF := fun ρ => (f ρ).bind fun o => match o with
  | .nx ρ' => some (.nx (clrs cl ρ'))
  | o => some o
theorem dss_clr {cl : List Nat} (h1 : DSs X T H0 Γ sts f Γn J) (h : cl.all (fun i => decide (Γn[i]? = some .no)) = true) : DSs X T H0 Γ sts (sThen f cl) Γn J := PSs.wk h1 fun E σ H ⟨F, O, ρ, out, R, hf, hq⟩ => by
  unfold sThen at hf
  cases h2 : f ρ with
  | none => rw [h2] at hf; cases hf
  | some o =>
    rw [h2] at hf
    simp only [Option.bind_some] at hf
    refine ⟨F, O, ρ, o, R, h2, ?_⟩
    cases o with
    | nx ρ' => cases hf; exact fun F1 O1 σ1 H1 s1 R1 => hq F1 O1 σ1 H1 s1 (R1.clr h)
    | bk ρ' => cases hf; exact hq
    | ct ρ' => cases hf; exact hq
    | rt d => cases hf; exact hq
    | ex c es ρ' => cases hf; exact hq
theorem hr65 {k : Nat} {A : Around} (hr : Room k A) : A.units + 65 < cLine := by
  have := hr.un
  omega
/-- a written tuple of ints -/
def TupK (K : PySem.W.Frag) (p : Addr) (ns : List Int) : Prop := ∃ (o : Obj) (its : Array Value) (n : Nat), K.lookup p = some o ∧ o.cls = .type "tuple" ∧ o.data = .seq its n ∧ its.size ≤ sizeLine ∧ Vals (ns.map V.int) its.toList
def gAbs (x : D) : Option D := i1 (fun i => some (.int (if i < 0 then -i else i))) x
theorem de_abs (hg : Gl X "abs") (hm : X.mg "abs" = none) (ha : DE X T H0 Γ a fa ka) (hs : starEach [a] X.env = (false, eval a X.env) :: starEach [] X.env := by rfl) : DE X T H0 Γ (.Call (.Name "abs" po) [a] [] pos) (e1 gAbs fa) (.q q) :=
  PE.wk (pe_callB call_abs hg hm (by decide +kernel) (da_cons ha da_nil hs) (he := hs)) (callB_sem fun F O σ H ρ v x d Q R rv hg hq => by
    unfold gAbs i1 at hg
    split at hg
    · cases hg
      cases rv
      exact ⟨_, rfl, hq F H _ R (.refl _) (.refl _) (RepG.int _)⟩
    · cases hg)
/-- a list's truth -/
def t2t (a : EF) : List D → Option Bool := fun ρ => (a ρ).bind fun d => match d with
  | .lst ds => some (!ds.isEmpty)
  | _ => none
theorem dt_tru (ha : DE X T H0 Γ a fa ka) (he : ∀ whole, isTrue a X.env whole = (do let v ← whole; standAt a.pos; holding [v] (truthy v)) := by intro _; rfl) : DT X T H0 Γ a (t2t fa) :=
  PT.wk (pt_truth ha he) fun σ H Q ⟨F, O, ρ, d, R, hf, hq⟩ => by
    unfold t2t at hf
    cases h1 : fa ρ with
    | none => rw [h1] at hf; cases hf
    | some x =>
      rw [h1] at hf
      simp only [Option.bind_some] at hf
      split at hf
      · rename_i ds
        cases hf
        refine ⟨F, O, ρ, _, R, h1, fun F1 H1 v R1 s1 t1 r1 => ?_⟩
        have rv := R1.toB r1
        cases rv with
        | @lst a vs ds h2 h3 h4 =>
          refine ⟨!ds.isEmpty, .inl ⟨vs, SqL.of h2, ?_⟩, hq F1 H1 R1 s1 t1⟩
          have := h4.length
          cases vs <;> cases ds <;> simp_all
      · cases hf
end
end DL
namespace DL
open PySem PySem.Spec PyProof.Rows L2
/-- what the head's facts say of a def -/
def FtH (K : PySem.W.Frag) (x qual : Str) (st : Stmt) : Prop := ∃ (f : Addr) (oc : Value) (od : Option Addr) (kV dc pm : Value) (an : Option Addr) (cd ct : Value) (sl : Array (Option Value)),
  PySem.W.nsIn K mainGlobals x = some (some (.ref f)) ∧ K.lookup f = some ⟨oc, od, .func (PySem.W.fnOf x qual (defArgs st) (defBody st) (defScope st) .none kV dc pm an cd ct), sl⟩ ∧ PySem.W.codeIn K cd qual = true ∧ PySem.W.keepIn K (.ref f) = true
theorem ft_mk {K : PySem.W.Frag} {h : Heap} {mg : Str → Option Value} {x qual : Str} {st : Stmt} {ps : List Str} (X : K.In h) (G : h.Ns mainGlobals mg) (e : FtH K x qual st)
    (b : ∀ (kV doc pm : Value) (an : Option Addr) (cdv ct : Value) (us : List Value), us.length = ps.length → bindArgs (PySem.W.fnOf x qual (defArgs st) (defBody st) (defScope st) .none kV doc pm an cdv ct) ⟨us, []⟩ = pure (ps.zip us)) : FtF K mg x qual st ps := by
  obtain ⟨f, oc, od, kV, dc, pm, an, cd, ct, sl, h1, h2, h3, h4⟩ := e
  exact ⟨f, _, fun_mk h2 h3 h4, (fun_mk h2 h3 h4).binds b, PySem.W.mg_of X G h1⟩
theorem ft_law {l : PySem.W.OpenLaw} {w : World} {K : PySem.W.Frag} {h : Heap} {mg : Str → Option Value} {fa : Addr} {st : Stmt} {x : Str} {k : Nat} {sp : Sp} (X : K.In h) (G : h.Ns mainGlobals mg) (hfa : mg "law" = some (.ref fa)) (e : FtH K "law" "law" st)
    (hb : ∀ (kV dc pm : Value) (an : Option Addr) (cd ct : Value) (s : Shared) (v : Value), BindsTo s (PySem.W.fnOf "law" "law" (defArgs st) (defBody st) (defScope st) .none kV dc pm an cd ct) ⟨[v], []⟩ [(x, v)])
    (F : ∀ (fd : FuncData) (base : Heap), Fun K "law" "law" st fa fd → FnOk l.prog w K mg base CX0 k fa fd [x] sp) :
    ∃ fd : FuncData, (∀ (s : Shared) (v : Value), BindsTo s fd ⟨[v], []⟩ [(x, v)]) ∧ ∀ base : Heap, K.In base → base.Ns mainGlobals mg → FnOk l.prog w K mg base CX0 k fa fd [x] sp := by
  obtain ⟨f, oc, od, kV, dc, pm, an, cd, ct, sl, h1, h2, h3, h4⟩ := e
  have e := hfa.symm.trans (PySem.W.mg_of X G h1)
  cases e
  exact ⟨_, fun s v => hb kV dc pm an cd ct s v, fun base _ _ => F _ base (fun_mk h2 h3 h4)⟩
end DL

namespace DL
open PySem PySem.Spec PyProof.Rows L2

/-! ### instances -/
theorem lookup_names : ∀ {fs : List (Str × V)} {names : List Str} {j : Nat} {f : Str}, fs.map (·.1) = names → names.Nodup → names[j]? = some f → fs.lookup f = (fs.map (·.2))[j]?
  | [], _, j, f, e, _, h => by subst e; simp at h
  | (g, v) :: fs, _, 0, f, e, _, h => by
    subst e
    simp at h
    subst h
    simp [List.lookup]
  | (g, v) :: fs, _, j + 1, f, e, nd, h => by
    subst e
    rw [List.map_cons] at nd h
    rw [List.getElem?_cons_succ] at h
    have nd' := List.nodup_cons.mp nd
    have hne : ¬ f = g := fun e => nd'.1 (e ▸ List.mem_of_getElem? h)
    have : (f == g) = false := by simpa using hne
    rw [List.map_cons, List.getElem?_cons_succ, ← lookup_names (fs := fs) rfl nd'.2 h, List.lookup, this]
theorem lookup_no : ∀ {fs : List (Str × V)} {f : Str}, f ∉ fs.map (·.1) → fs.lookup f = none
  | [], _, _ => rfl
  | (g, v) :: fs, f, h => by
    rw [List.map_cons, List.mem_cons, not_or] at h
    have : (f == g) = false := by simpa using h.1
    rw [List.lookup, this]
    exact lookup_no h.2
theorem putF_new : ∀ {fs : List (Str × V)} {f : Str} {v : V}, f ∉ fs.map (·.1) → putF f v fs = fs ++ [(f, v)]
  | [], _, _, _ => rfl
  | (g, u) :: fs, f, v, h => by
    rw [List.map_cons, List.mem_cons, not_or] at h
    unfold putF
    rw [if_neg (fun e => h.1 e.symm), putF_new h.2]; rfl
/-- a field of a class, as the head has it -/
structure ClsF (K : PySem.W.Frag) (T : Tb) (c j : Nat) (f : Str) : Prop where
  cl : Cls K (T c).1
  na : NoAttr K (T c).1 f
  nm : (T c).2[j]? = some f
  nd : (T c).2.Nodup
def eFld (c j : Nat) (fo : EF) : EF := fun ρ => (fo ρ).bind fun d => match d with
  | .ins c' ds => if c' = c then ds[j]? else none
  | _ => none
section
variable {X : Cx} {T : Tb} {H0 : HZ} {Γ Γ1 Γn Γm : List Mode} {J : Jm} {e a b o tg iter : Expr} {es : List Expr} {st : Stmt} {sts : List Stmt} {f g : SF} {fe fa fb fo : EF} {k ka kb : Knd} {pos po : Pos} {q p : Q3} {fi : List D → Option (List D)} {c : Bool} {fs : List D → Option (List D)} {cl j : Nat} {x : Str}
theorem Rp.ins {K : PySem.W.Frag} {F H : Hp} {O : Own} {σ : L2.St} {ρ : List D} {v : V} {ds : List D} (R : Rl K T H0 Γ F O σ H ρ) (h : Rp K T H0 F H O k v (.ins cl ds)) : ∃ a dx fs, v = .ref a ∧ H a = some (.ins (T cl).1 dx fs) ∧ fs.map (·.1) = (T cl).2 ∧
    ∀ (i : Nat) d, ds[i]? = some d → ∃ w, (fs.map (·.2))[i]? = some w ∧ Rp K T H0 F H O k.item w d := by
  cases k with
  | q k =>
    cases h with
    | @ins a dx c fs ds h1 h2 h3 h4 => exact ⟨a, dx, fs, rfl, R.fh _ _ h1, h3, fun i d hd => h4.get hd⟩
  | B =>
    cases h with
    | @ins a dx c fs ds h1 h2 h3 h4 => exact ⟨a, dx, fs, rfl, h1, h3, fun i d hd => h4.get hd⟩
  | bl k => obtain ⟨a, vs, ds, _, e, _⟩ := h; cases e
  | fl k => obtain ⟨a, vs, ds, _, e, _⟩ := h; cases e
  | ol k => obtain ⟨a, vs, ds, _, e, _⟩ := h; cases e
theorem de_fld (C : ClsF X.K T cl j x) (ha : DE X T H0 Γ o fo ka) (hb : attributeBase o x X.env (eval o X.env) = eval o X.env := by rfl) : DE X T H0 Γ (.Attribute o x pos) (eFld cl j fo) ka.item :=
  PE.wk (pe_fld ha hb) fun σ H Q ⟨F, O, ρ, d, R, hf, hq⟩ => by
    unfold eFld at hf
    cases h1 : fo ρ with
    | none => rw [h1] at hf; cases hf
    | some y =>
      rw [h1] at hf
      simp only [Option.bind_some] at hf
      split at hf
      · split at hf
        · rename_i hc
          subst hc
          refine ⟨F, O, ρ, _, R, h1, fun F1 H1 v R1 s1 t1 r1 => ?_⟩
          obtain ⟨a, dx, fs, e1, h2, h3, h4⟩ := Rp.ins R1 r1
          obtain ⟨w, h5, h6⟩ := h4 _ _ hf
          exact ⟨a, _, dx, fs, w, e1, h2, C.cl, C.na, by rw [lookup_names h3 C.nd C.nm]; exact h5, hq F1 H1 w R1 s1 t1 h6⟩
        · cases hf
      · cases hf

/-! ### methods -/
structure OkM (P : Program) (w : World) (K : PySem.W.Frag) (mg : Str → Option Value) (base : Heap) (T : Tb) (k : Nat) (c : Nat) (m : Str) (ps : List Str) (φ : List D → Option D) (rk : RK) : Prop where
  ex : ∃ f fd, Meth K (T c).1 m f ∧ Binds K fd ps [] ∧ FnOk P w K mg base CX0 k f fd ps (spD K T ps.length φ rk)
  cl : Cls K (T c).1
  no : m ∉ (T c).2
def eMeth (c : Nat) (φ : List D → Option D) (fo : EF) (fs : List D → Option (List D)) : EF := fun ρ => (fo ρ).bind fun d => match d with
  | .ins c' ds => if c' = c then (fs ρ).bind fun as => φ (.ins c ds :: as) else none
  | _ => none
theorem meth_sem {K : PySem.W.Frag} {n : Nat} {φ : List D → Option D} {rk : RK} {E : XK} {m : Str} (hk : rk.ok = true) (no : m ∉ (T cl).2) (hp : ka.pers = true) (hn : ∀ ρ ds, fs ρ = some ds → ds.length + 1 = n) :
    ∀ σ H Q, tD K T H0 Γ (eMeth cl φ fo fs) rk.knd σ H Q → tMeth (T cl).1 m (spD K T n φ rk) [] E (tD K T H0 Γ fo ka) (tDA K T H0 Γ fs) σ H Q := by
  rintro σ H Q ⟨F, O, ρ, d, R, hf, hq⟩
  unfold eMeth at hf
  cases h1 : fo ρ with
  | none => rw [h1] at hf; cases hf
  | some y =>
    rw [h1] at hf
    simp only [Option.bind_some] at hf
    split at hf
    · rename_i c' ds'
      split at hf
      · rename_i hc
        subst hc
        cases h2 : fs ρ with
        | none => rw [h2] at hf; cases hf
        | some as =>
          rw [h2] at hf
          simp only [Option.bind_some] at hf
          refine ⟨F, O, ρ, _, R, h1, fun F1 H1 v R1 s1 t1 r1 => ?_⟩
          obtain ⟨a, dx, fs', e1, h3, h4, _⟩ := Rp.ins R1 r1
          refine ⟨a, dx, fs', e1, h3, lookup_no (by rw [h4]; exact no), F1, O, ρ, as, R1, h2, fun F2 H2 vs R2 s2 t2 r2 => ?_⟩
          show spD K T n φ rk (v :: (vs ++ [])) H2 Q E
          rw [List.append_nil]
          refine ⟨by rw [List.length_cons, r2.length]; exact hn _ _ h2, _ :: as, d, R2.tb, .cons (t2.rU (R1.toB r1)) r2, hf, fun H' v r => ?_⟩
          obtain ⟨F3, R3, s3, t3, r3⟩ := ret_in R2 r hk
          exact hq F3 H' v R3 ((s1.trans s2).trans s3) ((t1.trans t2).trans t3) r3
      · cases hf
    · cases hf
theorem de_meth {i k : Nat} {m : Str} {ps : List Str} {φ : List D → Option D} {rk : RK} {pl : Sem Bool} {apos : Pos} (h : OkM X.prog X.w X.K X.mg X.base T i cl m ps φ rk) (hr : Room k X.A) (ho : DE X T H0 Γ o fo ka) (ha : DA X T H0 Γ (e :: es) fs) (hn : ∀ ρ ds, fs ρ = some ds → ds.length + 1 = ps.length) (hp : ka.pers = true := by rfl) (hj : i ≤ k := by decide) (hk : rk.ok = true := by rfl)
    (hst : starEach (e :: es) X.env = (false, eval e X.env) :: starEach es X.env := by rfl) (hpl : (backTo pos (starEach es X.env)).any (·.1) = false := by rfl)
    (ht : eval (.Call (.Attribute o m apos) (e :: es) [] pos) X.env = (do
      let ov ← eval o X.env
      standAt apos.atName
      let (f, first) ← holding [ov] (getMethod ov m pl)
      callWith pos f first (backTo pos (starEach (e :: es) X.env)) (backToKw pos (keywordEach [] X.env))) := by rfl) :
    DE X T H0 Γ (.Call (.Attribute o m apos) (e :: es) [] pos) (eMeth cl φ fo fs) rk.knd := by
  obtain ⟨f, fd, h1, h2, h3⟩ := h.ex
  exact PE.wk (pe_meth ho h.cl h1 h3 (hr.mono hj) h2 .nil pass0 ha hst hpl ht) (meth_sem hk h.no hp hn)
theorem de_meth0 {i k : Nat} {m : Str} {ps : List Str} {φ : List D → Option D} {rk : RK} {pl : Sem Bool} {apos : Pos} (h : OkM X.prog X.w X.K X.mg X.base T i cl m ps φ rk) (hr : Room k X.A) (ho : DE X T H0 Γ o fo ka) (hn : 1 = ps.length := by rfl) (hp : ka.pers = true := by rfl) (hj : i ≤ k := by decide) (hk : rk.ok = true := by rfl)
    (ht : eval (.Call (.Attribute o m apos) [] [] pos) X.env = (do
      let ov ← eval o X.env
      standAt apos.atName
      let (f, first) ← holding [ov] (getMethod ov m pl)
      callWith pos f first (backTo pos (starEach [] X.env)) (backToKw pos (keywordEach [] X.env))) := by rfl) :
    DE X T H0 Γ (.Call (.Attribute o m apos) [] [] pos) (eMeth cl φ fo aNil) rk.knd := by
  obtain ⟨f, fd, h1, h2, h3⟩ := h.ex
  refine PE.wk (pe_meth0 ho h.cl h1 h3 (hr.mono hj) h2 .nil pass0 ht) fun σ H Q hw => ?_
  obtain ⟨F, O, ρ, d, R, h4, h5⟩ := meth_sem (K := X.K) (E := E0) hk h.no hp (fun ρ ds e => by cases e; exact hn) σ H Q hw
  refine ⟨F, O, ρ, d, R, h4, fun F1 H1 v R1 s1 t1 r1 => ?_⟩
  obtain ⟨a, dx, fs', e1, e2, e3, F2, O2, ρ2, as, R2, h6, h7⟩ := h5 F1 H1 v R1 s1 t1 r1
  cases h6
  exact ⟨a, dx, fs', e1, e2, e3, h7 F2 H1 [] R2 (.refl _) (.refl _) .nil⟩

/-! ### an instance being made -/
theorem FieldsR.get {K : PySem.W.Frag} {h0 : Hp} {F H : Hp} {o : Addr → Prop} : ∀ {ms : List FM} {vs : List V} {ds : List D} {i : Nat} {m : FM}, FieldsR K T h0 F H o ms vs ds → ms[i]? = some m → ∃ v d, vs[i]? = some v ∧ ds[i]? = some d ∧ FieldR K T h0 F H o v d m
  | m :: ms, v :: vs, d :: ds, 0, _, ⟨h1, _⟩, e => by simp at e; subst e; exact ⟨v, d, rfl, rfl, h1⟩
  | m :: ms, v :: vs, d :: ds, i + 1, _, ⟨_, h2⟩, e => by
    obtain ⟨w, y, h3, h4, h5⟩ := FieldsR.get (i := i) h2 (by simpa using e)
    exact ⟨w, y, by simpa using h3, by simpa using h4, h5⟩
  | [], _, _, _, _, _, e => by simp at e
  | _ :: _, [], _, _, _, h, _ => h.elim
  | _ :: _, _ :: _, [], _, _, h, _ => h.elim
theorem FieldsR.len {K : PySem.W.Frag} {h0 : Hp} {F H : Hp} {o : Addr → Prop} : ∀ {ms : List FM} {vs : List V} {ds : List D}, FieldsR K T h0 F H o ms vs ds → vs.length = ms.length ∧ ds.length = ms.length
  | [], [], [], _ => ⟨rfl, rfl⟩
  | m :: ms, v :: vs, d :: ds, ⟨_, h2⟩ => by
    have := FieldsR.len h2
    simp only [List.length_cons]; omega
  | [], _ :: _, _, h => h.elim
  | [], [], _ :: _, h => h.elim
  | _ :: _, [], _, h => h.elim
  | _ :: _, _ :: _, [], h => h.elim
theorem FieldsR.snoc {K : PySem.W.Frag} {h0 : Hp} {F H : Hp} {o : Addr → Prop} {v : V} {d : D} {m : FM} (hv : FieldR K T h0 F H o v d m) : ∀ {ms : List FM} {vs : List V} {ds : List D}, FieldsR K T h0 F H o ms vs ds → FieldsR K T h0 F H o (ms ++ [m]) (vs ++ [v]) (ds ++ [d])
  | [], [], [], _ => ⟨hv, trivial⟩
  | m :: ms, v :: vs, d :: ds, ⟨h1, h2⟩ => ⟨h1, FieldsR.snoc hv h2⟩
  | [], _ :: _, _, h => h.elim
  | [], [], _ :: _, h => h.elim
  | _ :: _, [], _, h => h.elim
  | _ :: _, _ :: _, [], h => h.elim
theorem FieldsR.put {K : PySem.W.Frag} {h0 : Hp} {F H H' : Hp} {o : Addr → Prop} {d : D} {q : Q3} : ∀ {ms : List FM} {vs : List V} {ds : List D} {j : Nat} {v : V}, FieldsR K T h0 F H o ms vs ds → ms[j]? = some (.ow q) → (∀ i, i ≠ j → ∀ m, ms[i]? = some m → ∃ p, m = FM.fz p) → vs[j]? = some v → FieldR K T h0 F H' o v d (.ow q) → FieldsR K T h0 F H' o ms vs (ds.set j d)
  | m :: ms, v :: vs, d' :: ds, 0, _, ⟨_, h2⟩, e, hz, ev, hv => by
    simp at e ev
    subst e; subst ev
    refine ⟨hv, ?_⟩
    have : ∀ {ms : List FM} {vs : List V} {ds : List D}, FieldsR K T h0 F H o ms vs ds → (∀ (i : Nat) (m : FM), ms[i]? = some m → ∃ p, m = FM.fz p) → FieldsR K T h0 F H' o ms vs ds := by
      intro ms
      induction ms with
      | nil => intro vs ds h _; cases vs <;> cases ds <;> first | trivial | exact h.elim
      | cons m ms ih =>
        intro vs ds h hz
        cases vs with
        | nil => exact h.elim
        | cons v vs =>
          cases ds with
          | nil => exact h.elim
          | cons d ds =>
            obtain ⟨p, rfl⟩ := hz 0 m rfl
            exact ⟨h.1, ih h.2 fun i m' hm => hz (i + 1) m' (by simpa using hm)⟩
    exact this h2 fun i m' hm => hz (i + 1) (by omega) m' (by simpa using hm)
  | m :: ms, v' :: vs, d' :: ds, j + 1, v, ⟨h1, h2⟩, e, hz, ev, hv => by
    obtain ⟨p, rfl⟩ := hz 0 (by omega) m rfl
    exact ⟨h1, FieldsR.put h2 (by simpa using e) (fun i hi m' hm => hz (i + 1) (by omega) m' (by simpa using hm)) (by simpa using ev) hv⟩
  | [], _, _, _, _, _, e, _, _, _ => by simp at e
  | _ :: _, [], _, _, _, h, _, _, _, _ => h.elim
  | _ :: _, _ :: _, [], _, _, h, _, _, _, _ => h.elim
/-- the read of a field of the own instance -/
def eSf (i j : Nat) : EF := fun ρ => match ρ[i]? with
  | some (.ins _ ds) => ds[j]?
  | _ => none
theorem take_get {names : List Str} {n j : Nat} {f : Str} (h : names[j]? = some f) (hj : j < n) : (names.take n)[j]? = some f := by rw [List.getElem?_take_of_lt hj]; exact h
theorem sf_core {K : PySem.W.Frag} {F H : Hp} {O : Own} {σ : L2.St} {ρ : List D} {i : Nat} {ms : List FM} {m : FM} (C : ClsF K T cl j x) (R : Rl K T H0 Γ F O σ H ρ) (hm : Γ[i]? = some (.os (.ins cl ms))) (hj : ms[j]? = some m) :
    ∃ a dx fs v d, σ[i]? = some (some (.ref a)) ∧ eSf i j ρ = some d ∧ H a = some (.ins (T cl).1 dx fs) ∧ fs.lookup x = some v ∧ FieldR K T H0 F H (O i) v d m := by
  obtain ⟨v, d, h1, h2, a, dx, fs, ds, e1, e2, h3, h4, hz, h5, h6⟩ := R.sl i _ hm
  subst e1; subst e2
  obtain ⟨w, y, h7, h8, h9⟩ := h6.get hj
  have hl := h6.len
  have hj2 : j < ms.length := (List.getElem?_eq_some_iff.mp hj).1
  refine ⟨a, dx, fs, w, y, h1, by unfold eSf; rw [h2]; exact h8, h3, ?_, h9⟩
  rw [lookup_names h5 (C.nd.sublist (List.take_sublist _ _)) (take_get C.nm (by omega))]
  exact h7
theorem de_sf {i : Nat} {ms : List FM} (C : ClsF X.K T cl j x) (hm : Γ[i]? = some (.os (.ins cl ms))) (hj : ms[j]? = some (.fz q)) (h : PE X (.Attribute o x pos) (tFld X.K (tVar i) x)) : DE X T H0 Γ (.Attribute o x pos) (eSf i j) (.q q) :=
  PE.wk h fun σ H Q ⟨F, O, ρ, d, R, hf, hq⟩ => by
    obtain ⟨a, dx, fs, v, d', h1, h2, h3, h4, h5⟩ := sf_core C R hm hj
    rw [h2] at hf; cases hf
    exact ⟨.ref a, h1, a, _, dx, fs, v, rfl, h3, C.cl, C.na, h4, hq F H v R (.refl _) (.refl _) h5⟩
theorem de_sfo {i : Nat} {ms : List FM} (C : ClsF X.K T cl j x) (hm : Γ[i]? = some (.os (.ins cl ms))) (hj : ms[j]? = some (.ow q)) (h : PE X (.Attribute o x pos) (tFld X.K (tVar i) x)) : DE X T H0 Γ (.Attribute o x pos) (eSf i j) (.bl q) :=
  PE.wk h fun σ H Q ⟨F, O, ρ, d, R, hf, hq⟩ => by
    obtain ⟨a, dx, fs, v, d', h1, h2, h3, h4, b, vs, es, e1, e2, h6, _, h7⟩ := sf_core C R hm hj
    rw [h2] at hf; cases hf
    exact ⟨.ref a, h1, a, _, dx, fs, v, rfl, h3, C.cl, C.na, h4, hq F H v R (.refl _) (.refl _) ⟨b, vs, es, e1, e2, h6, h7⟩⟩
/-- self.f = e, a new field -/
def sSf (i : Nat) (fe : EF) : SF := fun ρ => (fe ρ).bind fun d => match ρ[i]? with
  | some (.ins c ds) => some (.nx (ρ.set i (.ins c (ds ++ [d]))))
  | _ => none
/-- the instance of slot i is changed -/
theorem Rl.ups {K : PySem.W.Frag} {F H : Hp} {O O' : Own} {σ : L2.St} {ρ : List D} {i : Nat} {S S' : Shp} {a : Addr} {u : HO} {d : D} (R : Rl K T H0 Γ F O σ H ρ) (hm : Γ[i]? = some (.os S)) (ha : O i a) (hu : isMut u = true) (hO : ∀ j b, O' j b → O j b ∨ (j = i ∧ F b = none ∧ (∀ j, ¬ O j b) ∧ ∃ o, H b = some o ∧ isMut o = true)) (hO2 : ∀ j b, O j b → O' j b)
    (hn : ∃ v, σ[i]? = some (some v) ∧ OwnS K T H0 F (upd H a u) (O' i) v d S') : Rl K T H0 (Γ.set i (.os S')) F O' σ (upd H a u) (ρ.set i d) := by
  have hi : i < Γ.length := (List.getElem?_eq_some_iff.mp hm).1
  have fa := (R.on i a ha).1
  have TB : LamX.Tabs T.t (upd H a u) := let ⟨_, _, z1, z2⟩ := R.on i a ha; tabs_up R.tb z1 z2
  refine ⟨R.h0, fun b o e => ?_, fun j b h => ?_, fun j k b h1 h2 => ?_, by simp [R.ls], by simp [R.lr], fun j mj hj => ?_, R.nF, TB⟩
  · rw [upd_ne (ne_of_none e fa)]; exact R.fh _ _ e
  · have key : F b = none ∧ ∃ o, H b = some o ∧ isMut o = true := by
      rcases hO j b h with h | ⟨_, h1, _, h2⟩
      · exact R.on j b h
      · exact ⟨h1, h2⟩
    obtain ⟨k1, o, k2, k3⟩ := key
    by_cases hb : b = a
    · subst hb; exact ⟨k1, u, upd_same, hu⟩
    · exact ⟨k1, o, by rw [upd_ne hb]; exact k2, k3⟩
  · rcases hO j b h1 with h1 | ⟨e1, _, n1, _⟩ <;> rcases hO k b h2 with h2 | ⟨e2, _, n2, _⟩
    · exact R.od j k b h1 h2
    · exact (n2 j h1).elim
    · exact (n1 k h2).elim
    · rw [e1, e2]
  · by_cases hji : j = i
    · subst hji
      rw [List.getElem?_set_self hi] at hj
      cases hj
      rw [List.getElem?_set_self (by rw [R.lr]; exact hi)]
      obtain ⟨v, h1, h2⟩ := hn
      exact ⟨v, d, h1, rfl, h2⟩
    · rw [List.getElem?_set_ne (Ne.symm hji)] at hj
      rw [List.getElem?_set_ne (Ne.symm hji)]
      have s := R.sl j mj hj
      have ne : ∀ b, O j b → b ≠ a := fun b hb z => by subst z; exact hji (R.od _ _ _ hb ha)
      cases mj with
      | no => trivial
      | fz k => exact s
      | fl k => exact s
      | ow k =>
        obtain ⟨b, ws, es, h1, h2, h3, h4, h5⟩ := s
        exact ⟨b, ws, es, h1, h2, by rw [upd_ne (ne b h4)]; exact h3, hO2 _ _ h4, h5⟩
      | os S2 =>
        obtain ⟨v, d2, h1, h2, h3⟩ := s
        exact ⟨v, d2, h1, h2, h3.move (.refl _) (fun b hb => by rw [upd_ne (ne b hb)]) fun b hb => hO2 _ _ hb⟩
theorem names_snoc {names : List Str} {n : Nat} {f : Str} (h : names[n]? = some f) : names.take n ++ [f] = names.take (n + 1) := by
  rw [List.take_add_one, h]; rfl
theorem notin_take {names : List Str} {n : Nat} {f : Str} (nd : names.Nodup) (h : names[n]? = some f) : f ∉ names.take n := fun hm => by
  obtain ⟨i, hi, e⟩ := List.mem_iff_getElem.mp hm
  have hi2 : i < n := by rw [List.length_take] at hi; omega
  have e2 : names[i]? = some f := by
    have := List.getElem?_eq_getElem hi
    rw [e, List.getElem?_take_of_lt hi2] at this
    exact this
  have := nodup_ix nd e2 h
  omega
theorem ds_sfq {i : Nat} {ms : List FM} (C : ClsF X.K T cl ms.length x) (hm : Γ[i]? = some (.os (.ins cl ms))) (hl : (T cl).2.length ≤ 100) (h : PS X st (sFld X.K (tVar i) (tD X.K T H0 Γ fe (.q q)) x)) : DS X T H0 Γ st (sSf i fe) (Γ.set i (.os (.ins cl (ms ++ [.fz q])))) J :=
  PS.wk h fun E σ H ⟨F, O, ρ, out, R, hf, hq⟩ => by
    unfold sSf at hf
    cases h1 : fe ρ with
    | none => rw [h1] at hf; cases hf
    | some y =>
      rw [h1] at hf
      simp only [Option.bind_some] at hf
      refine ⟨F, O, ρ, y, R, h1, fun F1 H1 v R1 s1 t1 r1 => ?_⟩
      obtain ⟨v0, d0, h2, h3, a, dx, fs, ds, e1, e2, h4, h5, hz, h6, h7⟩ := R1.sl i _ hm
      subst e1; subst e2
      rw [h3] at hf
      cases hf
      have hlen := h7.len
      have hx : x ∉ fs.map (·.1) := by rw [h6, hlen.2]; exact notin_take C.nd C.nm
      have hfl : fs.length = ms.length := by rw [← hlen.1, List.length_map]
      have hlt : ms.length < (T cl).2.length := (List.getElem?_eq_some_iff.mp C.nm).1
      refine ⟨.ref a, h2, a, _, dx, fs, rfl, h4, C.cl, C.na, by omega, ?_⟩
      rw [putF_new hx]
      refine hq F1 O σ _ s1 (R1.ups (O' := O) hm h5 rfl (fun j b h => .inl h) (fun j b h => h) ⟨_, h2, a, dx, _, _, rfl, rfl, upd_same, h5, hz, ?_, ?_⟩)
      · rw [List.map_append, h6, List.length_append, List.length_cons, List.length_nil, hlen.2]
        exact names_snoc C.nm
      · rw [List.map_append]
        refine FieldsR.snoc (m := .fz q) r1 (?_ : FieldsR _ _ _ _ _ _ _ _ _)
        have hsep : ∀ b, O i b → b ≠ a → (upd H1 a (.ins (T cl).1 dx (fs ++ [(x, v)]))) b = H1 b := fun b _ hb => upd_ne hb
        have : ∀ {ms : List FM} {vs : List V} {ds : List D}, FieldsR X.K T H0 F1 H1 (O i) ms vs ds → FieldsR X.K T H0 F1 (upd H1 a (.ins (T cl).1 dx (fs ++ [(x, v)]))) (O i) ms vs ds := by
          intro ms
          induction ms with
          | nil => intro vs ds h; cases vs <;> cases ds <;> first | trivial | exact h.elim
          | cons m ms ih =>
            intro vs ds h
            cases vs with
            | nil => exact h.elim
            | cons w vs =>
              cases ds with
              | nil => exact h.elim
              | cons d ds =>
                refine ⟨?_, ih h.2⟩
                cases m with
                | fz p => exact h.1
                | ow p =>
                  obtain ⟨b, us, es, g1, g2, g3, g4, g5⟩ := h.1
                  refine ⟨b, us, es, g1, g2, ?_, g4, g5⟩
                  rw [hsep b g4 (fun z => by subst z; rw [h4] at g3; cases g3)]; exact g3
        exact this h7
theorem FieldsR.upi {K : PySem.W.Frag} {h0 : Hp} {F H : Hp} {o o' : Addr → Prop} {a C dx : Addr} {fs : List (Str × V)} {u : HO} (ha : H a = some (.ins C dx fs)) (ho : ∀ b, o b → o' b) : ∀ {ms : List FM} {vs : List V} {ds : List D}, FieldsR K T h0 F H o ms vs ds → FieldsR K T h0 F (upd H a u) o' ms vs ds
  | [], [], [], _ => trivial
  | m :: ms, v :: vs, d :: ds, ⟨h1, h2⟩ => by
    refine ⟨?_, FieldsR.upi ha ho h2⟩
    cases m with
    | fz p => exact h1
    | ow p =>
      obtain ⟨b, us, es, g1, g2, g3, g4, g5⟩ := h1
      exact ⟨b, us, es, g1, g2, by rw [upd_ne (fun z => by subst z; rw [ha] at g3; cases g3)]; exact g3, ho _ g4, g5⟩
  | [], _ :: _, _, h => h.elim
  | [], [], _ :: _, h => h.elim
  | _ :: _, [], _, h => h.elim
  | _ :: _, _ :: _, [], h => h.elim
/-- self.f = [..], a new list of the instance's own -/
theorem ds_sfo {i : Nat} {ms : List FM} (C : ClsF X.K T cl ms.length x) (hm : Γ[i]? = some (.os (.ins cl ms))) (hl : (T cl).2.length ≤ 100) (h : PS X st (sFld X.K (tVar i) (tD X.K T H0 Γ fe (.ol q)) x)) : DS X T H0 Γ st (sSf i fe) (Γ.set i (.os (.ins cl (ms ++ [.ow q])))) J :=
  PS.wk h fun E σ H ⟨F, O, ρ, out, R, hf, hq⟩ => by
    unfold sSf at hf
    cases h1 : fe ρ with
    | none => rw [h1] at hf; cases hf
    | some y =>
      rw [h1] at hf
      simp only [Option.bind_some] at hf
      refine ⟨F, O, ρ, y, R, h1, fun F1 H1 v R1 s1 t1 ⟨b, vs, es, e3, e4, g1, g2, g3, g4⟩ => ?_⟩
      subst e3; subst e4
      obtain ⟨v0, d0, h2, h3, a, dx, fs, ds, e1, e2, h4, h5, hz, h6, h7⟩ := R1.sl i _ hm
      subst e1; subst e2
      rw [h3] at hf
      cases hf
      have hlen := h7.len
      have hx : x ∉ fs.map (·.1) := by rw [h6, hlen.2]; exact notin_take C.nd C.nm
      have hfl : fs.length = ms.length := by rw [← hlen.1, List.length_map]
      have hlt : ms.length < (T cl).2.length := (List.getElem?_eq_some_iff.mp C.nm).1
      have hba : b ≠ a := fun z => by subst z; exact g3 i h5
      refine ⟨.ref a, h2, a, _, dx, fs, rfl, h4, C.cl, C.na, by omega, ?_⟩
      rw [putF_new hx]
      refine hq F1 (resv O i b) σ _ s1 (R1.ups (O' := resv O i b) hm h5 rfl (fun j c h => ?_) (fun j c h => .inl h) ⟨_, h2, a, dx, _, _, rfl, rfl, upd_same, .inl h5, hz, ?_, ?_⟩)
      · rcases h with h | ⟨e1, e2⟩
        · exact .inl h
        · subst e2; exact .inr ⟨e1, g2, g3, _, g1, rfl⟩
      · rw [List.map_append, h6, List.length_append, List.length_cons, List.length_nil, hlen.2]
        exact names_snoc C.nm
      · rw [List.map_append]
        exact FieldsR.snoc (m := .ow q) ⟨b, vs, es, rfl, rfl, by rw [upd_ne hba]; exact g1, .inr ⟨rfl, rfl⟩, g4⟩ (FieldsR.upi h4 (fun b h => .inl h) h7)
/-- self.f.append(e) -/
def sSa (i j : Nat) (fe : EF) : SF := fun ρ => match ρ[i]? with
  | some (.ins c ds) => (match ds[j]? with
    | some (.lst es) => (fe ρ).bind fun d => if es.length < 1000000 then some (.nx (ρ.set i (.ins c (ds.set j (.lst (es ++ [d])))))) else none
    | _ => none)
  | _ => none
def onlyOw (ms : List FM) (j : Nat) : Bool := (List.range ms.length).all fun i => i == j || (match ms[i]? with
  | some (.fz _) => true
  | _ => false)
theorem onlyOw_of {ms : List FM} {j : Nat} (h : onlyOw ms j = true) : ∀ i, i ≠ j → ∀ m, ms[i]? = some m → ∃ p, m = .fz p := fun i hi m hm => by
  have := List.all_eq_true.mp h i (List.mem_range.mpr (List.getElem?_eq_some_iff.mp hm).1)
  rw [Bool.or_eq_true] at this
  rcases this with h | h
  · exact (hi (by simpa using h)).elim
  · rw [hm] at h
    cases m with
    | fz p => exact ⟨p, rfl⟩
    | ow p => cases h
theorem ds_sfa {i : Nat} {ms : List FM} (C : ClsF X.K T cl j x) (hm : Γ[i]? = some (.os (.ins cl ms))) (hj : ms[j]? = some (.ow q)) (hon : onlyOw ms j = true) (h : PE X e (tBM X.K "list" rAppend (tFld X.K (tVar i) x) (tCons (tD X.K T H0 Γ fe (.q q)) tNil))) (hs : swapsWith e none pos.line X.env = pure false := by rfl) : DS X T H0 Γ (.Expr e pos) (sSa i j fe) Γ J :=
  PS.wk (ps_expr h hs) fun E σ H ⟨F, O, ρ, out, R, hf, hq⟩ => by
    obtain ⟨v0, d0, h2, h3, a, dx, fs, ds, e1, e2, h4, h5, hz, h6, h7⟩ := R.sl i _ hm
    subst e1; subst e2
    unfold sSa at hf
    rw [h3] at hf
    simp only at hf
    obtain ⟨w, y, g1, g2, b, vs, es, e3, e4, g3, g4, g5⟩ := h7.get hj
    subst e3; subst e4
    rw [g2] at hf
    simp only at hf
    have hlen := h7.len
    have hj2 : j < ms.length := (List.getElem?_eq_some_iff.mp hj).1
    cases h8 : fe ρ with
    | none => rw [h8] at hf; cases hf
    | some d =>
      rw [h8] at hf
      simp only [Option.bind_some] at hf
      split at hf
      · rename_i hl
        cases hf
        have hlook : fs.lookup x = some (.ref b) := by
          rw [lookup_names h6 (C.nd.sublist (List.take_sublist _ _)) (take_get C.nm (by omega))]; exact g1
        refine ⟨.ref a, h2, a, _, dx, fs, _, rfl, h4, C.cl, C.na, hlook, .inl ⟨rfl, vs, SqL.of g3⟩, F, O, ρ, d, R, h8, fun F1 H1 v R1 s1 t1 r1 => ?_⟩
        have g6 := t1 _ _ g3
        have h9 := t1 _ _ h4
        have hba : a ≠ b := fun z => by subst z; rw [h4] at g3; cases g3
        refine ⟨b, vs, v, rfl, rfl, g6, by rw [g5.length]; exact lt_line hl, ?_⟩
        have h10 : FieldsR X.K T H0 F1 H1 (O i) ms (fs.map (·.2)) ds := h7.move s1 (fun c hc => by
          obtain ⟨_, o, k1, k2⟩ := R.on i c hc
          rw [t1 _ _ k1 (isT_mut k2), k1]) fun _ h => h
        have R2 := R1.ups (O' := O) (S' := .ins cl ms) (u := .lst (vs ++ [v])) (d := .ins cl (ds.set j (.lst (es ++ [d])))) hm g4 rfl (fun j b h => .inl h) (fun j b h => h) ⟨_, h2, a, dx, fs, _, rfl, rfl, by rw [upd_ne hba]; exact h9, h5, hz, by rw [List.length_set]; exact h6,
          h10.put hj (onlyOw_of hon) g1 ⟨b, _, _, rfl, rfl, upd_same, g4, (s1.rqs g5).append (.cons r1 .nil)⟩⟩
        rw [set_same hm] at R2
        exact hq F1 O σ _ s1 R2
      · cases hf

/-! ### __init__ and its call -/
def spI (K : PySem.W.Frag) (T : Tb) (c n : Nat) (φ : List D → Option (List D)) (q : Q3) : Sp := fun vs H Q _ => ∃ x as, vs = .ref x :: as ∧ as.length = n ∧ ∃ dx ds fds, H x = some (.ins (T c).1 dx []) ∧ LamX.Tabs T.t H ∧ RUs K T (cut (ntb H) (· = x)) as ds ∧ φ ds = some fds ∧
  ∀ F H' dx' fs, Same (cut (ntb H) (· = x)) F → F x = none → Same F H' → (NoT F ∧ LamX.Tabs T.t H') → H' x = some (.ins (T c).1 dx' fs) → fs.map (·.1) = (T c).2 → Rqs K T (cut (ntb H) (· = x)) q F (fs.map (·.2)) fds → Q .non H'
def initD (c : Nat) (pks : List PKn) (m : Nat) (body : SF) : List D → Option (List D) := fun args =>
  if chks pks args = true then (body (.ins c [] :: (args ++ List.replicate m .non))).bind fun (o : Out) => match o with
    | Out.nx ρ => (match ρ[0]? with
      | some (D.ins _ ds) => some ds
      | _ => none)
    | _ => none
  else none
def FM.allLe (ms : List FM) (q : Q3) : Bool := ms.all fun m => m.le q
structure OkC (P : Program) (w : World) (K : PySem.W.Frag) (mg : Str → Option Value) (base : Heap) (T : Tb) (k : Nat) (c : Nat) (x : Str) (n : Nat) (φ : List D → Option (List D)) (q : Q3) : Prop where
  ex : ∃ fi fd ps, ps.length = n + 1 ∧ Mk K (T c).1 fi ∧ Binds K fd ps [] ∧ FnOk P w K mg base CX0 k fi fd ps (spI K T c n φ q)
  mg : mg x = some (.ref (T c).1)
def eMake (c : Nat) (φ : List D → Option (List D)) (fs : List D → Option (List D)) : EF := fun ρ => ((fs ρ).bind φ).map (.ins c)
theorem make_sem {K : PySem.W.Frag} {n : Nat} {φ : List D → Option (List D)} {E : XK} (hp : p.le .L = true) (hn : ∀ ρ ds, fs ρ = some ds → ds.length = n) :
    ∀ σ H Q, tD K T H0 Γ (eMake cl φ fs) (.q .L) σ H Q → tMake (T cl).1 (spI K T cl n φ p) [] E (tDA K T H0 Γ fs) σ H Q := by
  rintro σ H Q ⟨F, O, ρ, d, R, hf, hq⟩
  unfold eMake at hf
  cases h1 : fs ρ with
  | none => rw [h1] at hf; cases hf
  | some ds =>
    rw [h1] at hf
    simp only [Option.bind_some] at hf
    cases h2 : φ ds with
    | none => rw [h2] at hf; cases hf
    | some fds =>
      rw [h2] at hf
      cases hf
      refine ⟨F, O, ρ, ds, R, h1, fun F1 H1 vs R1 s1 t1 r1 => ?_⟩
      intro x dx hx hdx hne
      show spI K T cl n φ p (.ref x :: (vs ++ [])) _ _ E
      rw [List.append_nil]
      have s2' : Same H1 (upd (upd H1 dx (.own x)) x (.ins (T cl).1 dx [])) := fun b o e => by
        have hb : ¬ b = x := ne_of_none e hx
        rw [upd_ne hb, upd_ne (ne_of_none e hdx)]; exact e
      have s2 : Sm H1 (cut (ntb (upd (upd H1 dx (.own x)) x (.ins (T cl).1 dx []))) (· = x)) := ⟨fun b o e n => by
        have hb : ¬ b = x := ne_of_none e hx
        rw [cut_out (S := (· = x)) hb]; exact ntb_some (s2' _ _ e) n⟩
      refine ⟨x, vs, rfl, by rw [r1.length]; exact hn _ _ h1, dx, ds, fds, upd_same, R1.tb.ext s2', s2.rUs r1, h2, fun F2 H' dx' fs' s3 f3 s4 n4 h4 h5 h6 => ⟨rfl, ?_⟩⟩
      have s5 : Sm H1 F2 := s2.trans s3.sm
      have sF : Same F1 (upd (cut F2 fun b => ∃ i, O i b) x (.ins (T cl).1 dx' fs')) := fun b o e => by
        have hb : b ≠ x := ne_of_none (R1.fh _ _ e) hx
        rw [upd_ne hb, cut_out]
        · exact s5 _ _ (R1.fh _ _ e) (R1.nF _ _ e)
        · rintro ⟨i, hi⟩
          rw [(R1.on i b hi).1] at e; cases e
      have sC : Same (cut F2 fun b => ∃ i, O i b) (upd (cut F2 fun b => ∃ i, O i b) x (.ins (T cl).1 dx' fs')) := fun b o e => by
        unfold cut at e
        split at e
        · cases e
        · rename_i hb
          rw [upd_ne (ne_of_none e f3), cut_out hb]; exact e
      refine hq _ H' (.ref x) ((R1.grow (s5.trans s4.sm) n4.2).more sF (fun b o e => ?_) (n4.1.cut.upd rfl) (fun i b hi => ?_)) (s1.trans sF) (t1.trans (s5.trans s4.sm)) ?_
      · by_cases hb : b = x
        · subst hb; rw [upd_same] at e; cases e; exact h4
        · rw [upd_ne hb] at e
          unfold cut at e
          split at e
          · cases e
          · exact s4 _ _ e
      · obtain ⟨_, o, k1, _⟩ := R1.on i b hi
        rw [upd_ne (ne_of_none k1 hx)]
        exact cut_in ⟨i, hi⟩
      · refine RepG.ins upd_same (show H0.h x = none from (R1.h0.trans R1.fh).free hx) h5 ?_
        refine (RepsG.cut (S := fun b => ∃ i, O i b) (fun a ha => ?_) (fun a o e hm => ?_) h6).mono sC fun a ha => ?_
        · rintro ⟨i, hi⟩
          obtain ⟨_, o, k1, k2⟩ := R1.on i a hi
          cases p with
          | A => exact ha
          | L =>
            have ha : cut (ntb (upd (upd H1 dx (.own x)) x (.ins (T cl).1 dx []))) (· = x) a = none := ha
            rw [s2 _ _ k1 (isT_mut k2)] at ha; cases ha
          | U => cases hp
        · rintro ⟨i, hi⟩
          obtain ⟨_, u, k1, k2⟩ := R1.on i a hi
          rw [s5 _ _ k1 (isT_mut k2)] at e; cases e
          rw [hm] at k2; cases k2
        · cases p with
          | A => exact ha.elim
          | L => exact (Sm.ofF (fun b o e => R1.nF _ _ (R1.h0 _ _ e)) (R1.h0.trans R1.fh) s2).free ha
          | U => cases hp
theorem de_make {i k : Nat} {n : Nat} {φ : List D → Option (List D)} (h : OkC X.prog X.w X.K X.mg X.base T i cl x n φ p) (hr : Room k X.A) (hg : Gl X x) (ha : DA X T H0 Γ (e :: es) fs) (hn : ∀ ρ ds, fs ρ = some ds → ds.length = n) (hp : p.le .L = true := by rfl) (hj : i + 1 ≤ k := by decide)
    (hdb : (x == ("__debug__" : Str)) = false := by decide) (he : starEach (e :: es) X.env = (false, eval e X.env) :: starEach es X.env := by rfl) (hpl : (backTo pos (starEach es X.env)).any (·.1) = false := by rfl) :
    DE X T H0 Γ (.Call (.Name x po) (e :: es) [] pos) (eMake cl φ fs) (.q .L) := by
  obtain ⟨f, fd, ps, h1, h2, h3, h4⟩ := h.ex
  exact PE.wk (pe_make h2 h4 (hr.mono hj) hg h.mg h3 .nil pass0 ha hdb he hpl) (make_sem hp hn)
end
end DL

namespace DL
open PySem PySem.Spec PyProof.Rows L2
theorem slot_start {K : PySem.W.Frag} {T : Tb} {z : HZ} {F H : Hp} {o : Addr → Prop} {pks : List PKn} {m n : Nat} {vs : List V} {ds : List D} (hr : RUs K T F vs ds) (hc : chks pks ds = true) {i : Nat} {md : Mode} (hm : (ms0 pks m)[i]? = some md) :
    SlotR K T z F H o (vs.map some ++ List.replicate n none)[i]? (ds ++ List.replicate m D.non)[i]? md := by
  have hl := chks_len hc
  have hv := hr.length
  by_cases hi : i < pks.length
  · unfold ms0 at hm
    rw [List.getElem?_append_left (by simpa using hi), List.getElem?_map] at hm
    cases hp : pks[i]? with
    | none => rw [hp] at hm; cases hm
    | some p =>
      rw [hp] at hm
      cases hm
      obtain ⟨d, h1, h2⟩ := chks_get hc hp
      obtain ⟨v, h3, h4⟩ := hr.get h1
      have e1 : (vs.map some ++ List.replicate n none)[i]? = some (some v) := by
        rw [List.getElem?_append_left (by rw [List.length_map]; omega), List.getElem?_map, h3]; rfl
      have e2 : (ds ++ List.replicate m D.non)[i]? = some d := by
        rw [List.getElem?_append_left (by omega), h1]
      rw [e1, e2]
      cases p with
      | U => exact ⟨v, d, rfl, rfl, h4⟩
      | A => exact ⟨v, d, rfl, rfl, h4.lf h2⟩
      | fA =>
        cases d <;> first | (cases h2; done) | skip
        cases h4 with
        | @lst a vs ds h5 h6 h7 => exact ⟨a, vs, _, rfl, rfl, h5, RepsG.lf h7 h2⟩
      | fU =>
        cases d <;> first | (cases h2; done) | skip
        cases h4 with
        | @lst a vs ds h5 h6 h7 => exact ⟨a, vs, _, rfl, rfl, h5, h7⟩
  · unfold ms0 at hm
    rw [List.getElem?_append_right (by simpa using hi)] at hm
    have : md = .no := by
      have := List.mem_of_getElem? hm
      rw [List.mem_replicate] at this
      exact this.2
    subst this
    trivial
def fmOk (q : Q3) : FM → Bool
  | .fz p => p.le q
  | .ow p => p.le q && Q3.L.le q
theorem fields_frz {K : PySem.W.Frag} {T : Tb} {h0 : Hp} {F F' H : Hp} {o : Addr → Prop} {q : Q3} (e : Same F F') (hH : ∀ b vs, o b → H b = some (.lst vs) → F' b = some (.lst vs)) (hN : ∀ b, o b → h0 b = none) : ∀ {ms : List FM} {vs : List V} {ds : List D}, ms.all (fmOk q) = true → FieldsR K T h0 F H o ms vs ds → Rqs K T h0 q F' vs ds
  | [], [], [], _, _ => .nil
  | m :: ms, v :: vs, d :: ds, h, ⟨h1, h2⟩ => by
    rw [List.all_cons, Bool.and_eq_true] at h
    refine .cons ?_ (fields_frz e hH hN h.2 h2)
    cases m with
    | fz p => exact RepG.mono e (NK.le h.1) h1
    | ow p =>
      obtain ⟨b, us, es, g1, g2, g3, g4, g5⟩ := h1
      have h3 := h.1
      unfold fmOk at h3
      rw [Bool.and_eq_true] at h3
      subst g1; subst g2
      exact .lst (hH _ _ g4 g3) (NK.le h3.2 _ (hN _ g4)) (g5.mono e (NK.le h3.1))
  | [], _ :: _, _, _, h => h.elim
  | [], [], _ :: _, _, h => h.elim
  | _ :: _, [], _, _, h => h.elim
  | _ :: _, _ :: _, [], _, h => h.elim
section
variable {P : Program} {w : World} {K : PySem.W.Frag} {mg : Str → Option Value} {base : Heap} {T : Tb}
theorem fn_init {x qual : Str} {st : Stmt} {N ps : List Str} {pks : List PKn} {m k c : Nat} {body : SF} {Γn : List Mode} {ms : List FM} {q : Q3} {f : Addr} {fd : FuncData} (F : Fun K x qual st f fd) (S : FnScope N ps (defScope st)) (hN : N.length = pks.length + 1 + m) (hp : ps.length = pks.length + 1)
    (hΓ : Γn[0]? = some (.os (.ins c ms))) (hms : ms.length = (T c).2.length) (hq : ms.all (fmOk q) = true)
    (hb : ∀ (f : Addr) (cdv : Value) (A : Around) (outer : List Env) (s : Shared) (H : Hp) (E : XK) (z : Addr), Room k (bodyX P w K mg base N qual st f cdv A outer s H E).A → DSs (bodyX P w K mg base N qual st f cdv A outer s H E) T ⟨cut (ntb H) (· = z), z, []⟩ (.os (.ins c []) :: ms0 pks m) (defBody st) body Γn (jm (.q .A))) :
    FnOk P w K mg base CX0 (k + 1) f fd ps (spI K T c pks.length (initD c pks m body) q) := by
  refine F.ok S (fun vs H Q E h => ?_) fun cdv A outer s H vs Q E hr h => ?_
  · obtain ⟨z, as, rfl, hl, _⟩ := h
    rw [List.length_cons, hl, hp]
  obtain ⟨z, as, rfl, hl, dx, ds, fds, hz, ht, r, hf, hQ⟩ := h
  refine ⟨_, hb f cdv A outer s H E z hr, ?_⟩
  unfold initD at hf
  split at hf
  · rename_i hc
    cases h1 : body (D.ins c [] :: (ds ++ List.replicate m D.non)) with
    | none => rw [h1] at hf; cases hf
    | some o =>
      rw [h1] at hf
      simp only [Option.bind_some] at hf
      have hlen := chks_len hc
      have cs : Same (cut (ntb H) (· = z)) H := fun b o e => by
        unfold cut at e
        split at e
        · cases e
        · exact ntb_le e
      have R0 : Rl K T ⟨cut (ntb H) (· = z), z, []⟩ (.os (.ins c []) :: ms0 pks m) (cut (ntb H) (· = z)) (fun i b => i = 0 ∧ b = z) (L2.start N (.ref z :: as)) H (D.ins c [] :: (ds ++ List.replicate m D.non)) := by
        have nn : NoT (cut (ntb H) (· = z)) := NoT.cut fun b o e => ntb_not e
        refine ⟨.refl _, cs, fun i b hb => ?_, fun i j b h1 h2 => by rw [h1.1, h2.1], ?_, ?_, fun i md hm => ?_, nn, ht⟩
        · obtain ⟨_, rfl⟩ := hb
          exact ⟨cut_in (S := (· = b)) rfl, _, hz, rfl⟩
        · unfold L2.start; simp; omega
        · simp; omega
        · cases i with
          | zero =>
            cases hm
            exact ⟨.ref z, _, rfl, rfl, z, dx, [], [], rfl, rfl, hz, ⟨rfl, rfl⟩, rfl, by simp, trivial⟩
          | succ i =>
            rw [List.getElem?_cons_succ] at hm ⊢
            unfold L2.start
            rw [List.map_cons, List.cons_append, List.getElem?_cons_succ]
            exact slot_start r hc hm
      refine ⟨_, _, _, o, R0, h1, ?_⟩
      split at hf
      · rename_i ρ
        split at hf
        · rename_i c' ds' hρ
          cases hf
          intro F' O' σ' H' s' R'
          obtain ⟨v, d, g1, g2, a, dx', fs, es, e1, e2, g3, g4, g5, g6, g7⟩ := R'.sl 0 _ hΓ
          rw [hρ] at g2
          cases g2
          cases e2
          have g5 : a = z := g5
          subst g5
          have hes := g7.len
          classical
          have sF : Same F' (fun b => if O' 0 b ∧ b ≠ a then H' b else F' b) := fun b o e => by
            show (if O' 0 b ∧ b ≠ a then H' b else F' b) = some o
            rw [if_neg]
            · exact e
            · rintro ⟨h2, _⟩
              rw [(R'.on 0 b h2).1] at e; cases e
          refine hQ (fun b => if O' 0 b ∧ b ≠ a then H' b else F' b) H' dx' fs (R'.h0.trans sF) ?_ (fun b o e => ?_) ⟨fun b o e => ?_, R'.tb⟩ g3 ?_ ?_
          · show (if O' 0 a ∧ a ≠ a then H' a else F' a) = none
            rw [if_neg (fun z => z.2 rfl)]
            exact (R'.on 0 a g4).1
          · have e : (if O' 0 b ∧ b ≠ a then H' b else F' b) = some o := e
            split at e
            · exact e
            · exact R'.fh _ _ e
          · have e : (if O' 0 b ∧ b ≠ a then H' b else F' b) = some o := e
            split at e
            · rename_i hb
              obtain ⟨_, u, z1, z2⟩ := R'.on 0 b hb.1
              rw [z1] at e; cases e
              exact isT_mut z2
            · exact R'.nF _ _ e
          · rw [g6, hes.2, hms, List.take_length]
          · refine fields_frz sF (fun b vs hb hv => ?_) (fun b hb => R'.h0.free (R'.on 0 b hb).1) hq g7
            show (if O' 0 b ∧ b ≠ a then H' b else F' b) = _
            rw [if_pos ⟨hb, fun z => by subst z; rw [g3] at hv; cases hv⟩]
            exact hv
        · cases hf
      · cases hf
  · cases hf
/-- what the head says of a class, of a method -/
structure FtC (K : PySem.W.Frag) (mg : Str → Option Value) (T : Tb) (c : Nat) (x : Str) : Prop where
  mg : mg x = some (.ref (T c).1)
  cl : Cls K (T c).1
structure FtM (K : PySem.W.Frag) (T : Tb) (c : Nat) (m qual : Str) (st : Stmt) (ps : List Str) : Prop where
  ex : ∃ f fd, Fun K m qual st f fd ∧ Binds K fd ps [] ∧ Meth K (T c).1 m f
  cl : Cls K (T c).1
  no : m ∉ (T c).2
structure FtI (K : PySem.W.Frag) (mg : Str → Option Value) (T : Tb) (c : Nat) (x qual : Str) (st : Stmt) (ps : List Str) : Prop where
  ex : ∃ f fd, Fun K "__init__" qual st f fd ∧ Binds K fd ps [] ∧ Mk K (T c).1 f
  mg : mg x = some (.ref (T c).1)
theorem mk_okm {x qual : Str} {c : Nat} {st : Stmt} {N ps : List Str} {pks : List PKn} {m k : Nat} {body : SF} {Γn : List Mode} {rk : RK} {nx : Bool} (F : FtM K T c x qual st ps) (S : FnScope N ps (defScope st)) (hN : N.length = pks.length + m) (hp : ps.length = pks.length)
    (hnx : nx = true → ∃ q, rk = .q q) (hb : ∀ (f : Addr) (cdv : Value) (A : Around) (outer : List Env) (s : Shared) (H : Hp) (E : XK), Room k (bodyX P w K mg base N qual st f cdv A outer s H E).A → DSs (bodyX P w K mg base N qual st f cdv A outer s H E) T ⟨ntb H, 0, []⟩ (ms0 pks m) (defBody st) body Γn (jm rk)) :
    OkM P w K mg base T (k + 1) c x ps (fnD pks m nx body) rk := by
  obtain ⟨f, fd, h1, h2, h3⟩ := F.ex
  exact ⟨⟨f, fd, h3, h2, fn_body h1 S hN hp hnx hb⟩, F.cl, F.no⟩
theorem mk_okc {x qual : Str} {st : Stmt} {N ps : List Str} {pks : List PKn} {m k c : Nat} {body : SF} {Γn : List Mode} {ms : List FM} {q : Q3} (F : FtI K mg T c x qual st ps) (S : FnScope N ps (defScope st)) (hN : N.length = pks.length + 1 + m) (hp : ps.length = pks.length + 1)
    (hΓ : Γn[0]? = some (.os (.ins c ms))) (hms : ms.length = (T c).2.length) (hq : ms.all (fmOk q) = true)
    (hb : ∀ (f : Addr) (cdv : Value) (A : Around) (outer : List Env) (s : Shared) (H : Hp) (E : XK) (z : Addr), Room k (bodyX P w K mg base N qual st f cdv A outer s H E).A → DSs (bodyX P w K mg base N qual st f cdv A outer s H E) T ⟨cut (ntb H) (· = z), z, []⟩ (.os (.ins c []) :: ms0 pks m) (defBody st) body Γn (jm (.q .A))) :
    OkC P w K mg base T (k + 1) c x pks.length (initD c pks m body) q := by
  obtain ⟨f, fd, h1, h2, h3⟩ := F.ex
  exact ⟨⟨f, fd, ps, hp, h3, h2, fn_init h1 S hN hp hΓ hms hq hb⟩, F.mg⟩
end
end DL
namespace DL
theorem aSuc {fs : List D → Option (List D)} {n : Nat} (h : ∀ ρ ds, fs ρ = some ds → ds.length = n) : ∀ ρ ds, fs ρ = some ds → ds.length + 1 = n + 1 := fun ρ ds e => by rw [h ρ ds e]
end DL

namespace DL
open PySem PySem.Spec PyProof.Rows L2
section
variable {K : PySem.W.Frag} {T : Tb} {H0 : HZ} {F F' H H' : Hp} {O O' : Own} {σ : L2.St} {ρ : List D} {Γ Γ' : List Mode} {q : Q3}
/-- more addresses are owned -/
def resS (O : Own) (i : Nat) (S : Addr → Prop) : Own := fun j b => O j b ∨ (j = i ∧ S b)
theorem Rl.own_eq (R : Rl K T H0 Γ F O σ H ρ) (h : ∀ j b, O' j b ↔ O j b) : Rl K T H0 Γ F O' σ H ρ := by
  have : O' = O := by funext j b; exact propext (h j b)
  rw [this]; exact R
theorem Rl.addS {S : Addr → Prop} {i : Nat} {a : Addr} {o : HO} (R : Rl K T H0 Γ F (resS O i S) σ H ρ) (ha : H a = some o) (hm : isMut o = true) (hF : F a = none) (hO : ∀ j, ¬ resS O i S j a) : Rl K T H0 Γ F (resS O i (fun b => S b ∨ b = a)) σ H ρ :=
  (R.res (i := i) ha hm hF hO).own_eq fun j b => by
    unfold resS resv
    constructor
    · rintro (h | ⟨h1, h2 | h2⟩)
      · exact .inl (.inl h)
      · exact .inl (.inr ⟨h1, h2⟩)
      · exact .inr ⟨h1, h2⟩
    · rintro ((h | ⟨h1, h2⟩) | ⟨h1, h2⟩)
      · exact .inl h
      · exact .inr ⟨h1, .inl h2⟩
      · exact .inr ⟨h1, .inr h2⟩
/-- an object of the reserved ones is changed -/
theorem Rl.upS {S : Addr → Prop} {a : Addr} {o : HO} (R : Rl K T H0 Γ F (resS O Γ.length S) σ H ρ) (ha : S a) (hm : isMut o = true) : Rl K T H0 Γ F (resS O Γ.length S) σ (upd H a o) ρ := by
  have hO : resS O Γ.length S Γ.length a := .inr ⟨rfl, ha⟩
  have fa : F a = none := (R.on Γ.length a hO).1
  have TB : LamX.Tabs T.t (upd H a o) := let ⟨_, _, z1, z2⟩ := R.on Γ.length a hO; tabs_up R.tb z1 z2
  refine ⟨R.h0, fun b u e => ?_, fun j b h => ⟨(R.on j b h).1, ?_⟩, R.od, R.ls, R.lr, fun j m hj => ?_, R.nF, TB⟩
  · rw [upd_ne (ne_of_none e fa)]; exact R.fh _ _ e
  · obtain ⟨_, u, h1, h2⟩ := R.on j b h
    by_cases hb : b = a
    · subst hb; exact ⟨o, upd_same, hm⟩
    · exact ⟨u, by rw [upd_ne hb]; exact h1, h2⟩
  · have s := R.sl j m hj
    have hj2 := (List.getElem?_eq_some_iff.mp hj).1
    have ne : ∀ b, resS O Γ.length S j b → b ≠ a := fun b hb z => by
      subst z
      have := R.od _ _ _ hb hO
      omega
    cases m with
    | no => trivial
    | fz k => exact s
    | fl k => exact s
    | ow k =>
      obtain ⟨b, us, es, h1, h2, h3, h4, h5⟩ := s
      exact ⟨b, us, es, h1, h2, by rw [upd_ne (ne b h4)]; exact h3, h4, h5⟩
    | os S' =>
      obtain ⟨v, d, h1, h2, h3⟩ := s
      exact ⟨v, d, h1, h2, h3.move (.refl _) (fun b hb => by rw [upd_ne (ne b hb)]) fun _ h => h⟩
/-- the reserved addresses become a slot's -/
theorem Rl.toSlot {S : Addr → Prop} {i : Nat} {v : V} {d : D} {s : Shp} (R : Rl K T H0 Γ F (resS O Γ.length S) σ H ρ) (hd : ∀ j b, S b → ¬ O j b) (hi : i < Γ.length) (h : OwnS K T H0 F H S v d s) : Rl K T H0 (Γ.set i (.os s)) F (resS O i S) (σ.set i (some v)) H (ρ.set i d) := by
  have conv : ∀ j b, resS O i S j b → ∃ k, resS O Γ.length S k b := fun j b h => by
    rcases h with h | ⟨_, h⟩
    · exact ⟨j, .inl h⟩
    · exact ⟨Γ.length, .inr ⟨rfl, h⟩⟩
  refine ⟨R.h0, R.fh, fun j b h => let ⟨k, h⟩ := conv j b h; R.on k b h, fun j k b h1 h2 => ?_, by simp [R.ls], by simp [R.lr], fun j mj hj => ?_, R.nF, R.tb⟩
  · rcases h1 with h1 | ⟨e1, h1⟩ <;> rcases h2 with h2 | ⟨e2, h2⟩
    · exact R.od j k b (.inl h1) (.inl h2)
    · exact (hd _ _ h2 h1).elim
    · exact (hd _ _ h1 h2).elim
    · rw [e1, e2]
  · by_cases hji : j = i
    · subst hji
      rw [List.getElem?_set_self hi] at hj
      cases hj
      rw [List.getElem?_set_self (by rw [R.ls]; exact hi), List.getElem?_set_self (by rw [R.lr]; exact hi)]
      exact ⟨v, d, rfl, rfl, h.move (.refl _) (fun _ _ => rfl) fun b hb => .inr ⟨rfl, hb⟩⟩
    · rw [List.getElem?_set_ne (Ne.symm hji)] at hj
      rw [List.getElem?_set_ne (Ne.symm hji), List.getElem?_set_ne (Ne.symm hji)]
      have hj2 := (List.getElem?_eq_some_iff.mp hj).1
      have back : ∀ b, resS O Γ.length S j b → resS O i S j b := fun b h => by
        rcases h with h | ⟨h, _⟩
        · exact .inl h
        · omega
      have s := R.sl j mj hj
      cases mj with
      | no => trivial
      | fz k => exact s
      | fl k => exact s
      | ow k =>
        obtain ⟨b, us, es, h1, h2, h3, h4, h5⟩ := s
        exact ⟨b, us, es, h1, h2, h3, back b h4, h5⟩
      | os S' =>
        obtain ⟨v2, d2, h1, h2, h3⟩ := s
        exact ⟨v2, d2, h1, h2, h3.move (.refl _) (fun _ _ => rfl) back⟩

/-! ### rows -/
theorem RowsR.len {h0 : Hp} {o : Addr → Prop} : ∀ {rows : List Addr} {rds : List (List D)}, RowsR K T h0 q F H o rows rds → rows.length = rds.length
  | _, _, .nil => rfl
  | _, _, .cons _ r => by rw [List.length_cons, List.length_cons, RowsR.len r]
theorem RowsR.get {h0 : Hp} {o : Addr → Prop} : ∀ {rows : List Addr} {rds : List (List D)} {j : Nat} {ds : List D}, RowsR K T h0 q F H o rows rds → rds[j]? = some ds → ∃ b vs, rows[j]? = some b ∧ o b ∧ H b = some (.lst vs) ∧ Rqs K T h0 q F vs ds
  | _, _, _, _, .nil, e => by simp at e
  | _, _, 0, _, .cons ⟨h1, vs, h2, h3⟩ r, e => by
    simp at e; subst e
    exact ⟨_, vs, rfl, h1, h2, h3⟩
  | _, _, j + 1, _, .cons _ r, e => by
    obtain ⟨b, vs, h1, h2⟩ := RowsR.get (j := j) r (by simpa using e)
    exact ⟨b, vs, by simpa using h1, h2⟩
theorem RowsR.ne {h0 : Hp} {o : Addr → Prop} {b : Addr} {u : HO} : ∀ {rows : List Addr} {rds : List (List D)}, b ∉ rows → RowsR K T h0 q F H o rows rds → RowsR K T h0 q F (upd H b u) o rows rds
  | _, _, _, .nil => .nil
  | _, _, hb, .cons ⟨h1, vs, h2, h3⟩ r => by
    rw [List.mem_cons, not_or] at hb
    exact .cons ⟨h1, vs, by rw [upd_ne (Ne.symm hb.1)]; exact h2, h3⟩ (RowsR.ne hb.2 r)
theorem RowsR.put {h0 : Hp} {o : Addr → Prop} {b : Addr} {us : List V} {ds : List D} (hu : Rqs K T h0 q F us ds) : ∀ {rows : List Addr} {rds : List (List D)} {j : Nat}, rows.Nodup → rows[j]? = some b → RowsR K T h0 q F H o rows rds → RowsR K T h0 q F (upd H b (.lst us)) o rows (rds.set j ds)
  | _, _, _, _, e, .nil => by simp at e
  | _, _, 0, nd, e, .cons ⟨h1, vs, h2, h3⟩ r => by
    simp at e; subst e
    exact .cons ⟨h1, us, upd_same, hu⟩ (RowsR.ne (List.nodup_cons.mp nd).1 r)
  | _, _, j + 1, nd, e, .cons ⟨h1, vs, h2, h3⟩ r => by
    have e : _ := List.getElem?_cons_succ ▸ e
    have hb := List.mem_of_getElem? e
    exact .cons ⟨h1, vs, by rw [upd_ne (fun z => by subst z; exact (List.nodup_cons.mp nd).1 hb)]; exact h2, h3⟩ (RowsR.put hu (List.nodup_cons.mp nd).2 e r)
theorem RowsR.snoc {h0 : Hp} {o : Addr → Prop} {b : Addr} {vs : List V} {ds : List D} (ho : o b) (hb : H b = some (.lst vs)) (hv : Rqs K T h0 q F vs ds) : ∀ {rows : List Addr} {rds : List (List D)}, RowsR K T h0 q F H o rows rds → RowsR K T h0 q F H o (rows ++ [b]) (rds ++ [ds])
  | _, _, .nil => .cons ⟨ho, vs, hb, hv⟩ .nil
  | _, _, .cons h r => .cons h (RowsR.snoc ho hb hv r)

/-! ### a table's reads and writes -/
def eAt (f : EF) : EF := fun ρ => (f ρ).bind fun d => match d with
  | .int i => some (.int i)
  | .bl i => some (.bl i)
  | .non => some .non
  | .str s => some (.str s)
  | _ => none
end
section
variable {X : Cx} {T : Tb} {H0 : HZ} {Γ Γ1 Γn Γm : List Mode} {J : Jm} {e a b tg iter : Expr} {es : List Expr} {st : Stmt} {sts : List Stmt} {f g : SF} {fe fa fb : EF} {k ka kb : Knd} {pos po : Pos} {q p : Q3} {fi : List D → Option (List D)} {c : Bool} {fs : List D → Option (List D)}
theorem de_at (h : DE X T H0 Γ e fe k) : DE X T H0 Γ e (eAt fe) (.q q) := PE.wk h fun σ H Q ⟨F, O, ρ, d, R, hf, hq⟩ => by
  unfold eAt at hf
  cases h1 : fe ρ with
  | none => rw [h1] at hf; cases hf
  | some x =>
    rw [h1] at hf
    simp only [Option.bind_some] at hf
    refine ⟨F, O, ρ, x, R, h1, fun F1 H1 v R1 s1 t1 r1 => hq F1 H1 v R1 s1 t1 ?_⟩
    have r := R1.toB r1
    split at hf <;> cases hf <;> cases r <;> constructor
theorem de_vs (i : Nat) {S : Shp} (hm : Γ[i]? = some (.os S)) {x : Str} (h : PE X (.Name x pos) (tVar i)) (hl : S.le .U = true := by rfl) : DE X T H0 Γ (.Name x pos) (eV i) .B := PE.wk h fun σ H Q ⟨F, O, ρ, d, R, hf, hq⟩ => by
  obtain ⟨v, d', h1, h2, h3⟩ := R.sl i _ hm
  have e : d' = d := by
    unfold eV at hf
    rw [h2] at hf
    exact Option.some.inj hf
  subst e
  exact ⟨v, h1, hq F H v R (.refl _) (.refl _) ((own_frz (q := .U) R.fh (fun _ _ => rfl) hl (fun _ _ => trivial) h3).mono (.refl _) fun _ _ => trivial)⟩
theorem nodup_set {rds : List (List D)} {j : Nat} {ds : List D} : (rds.set j ds).map D.lst = (rds.map D.lst).set j (.lst ds) := by rw [List.map_set]
/-- row j of the table of slot n is changed -/
theorem Rl.upRow {K : PySem.W.Frag} {F H : Hp} {O : Own} {σ : L2.St} {ρ : List D} {n j : Nat} {a b : Addr} {rows : List Addr} {rds : List (List D)} {us : List V} {ds : List D} (R : Rl K T H0 Γ F O σ H ρ) (hm : Γ[n]? = some (.os (.tbl q))) (hs : σ[n]? = some (some (.ref a))) (ha : H a = some (.lst (rows.map .ref))) (hO : O n a) (nd : rows.Nodup) (na : a ∉ rows) (hr : RowsR K T H0 q F H (O n) rows rds) (hb : rows[j]? = some b) (hu : Rqs K T H0 q F us ds) :
    Rl K T H0 Γ F O σ (upd H b (.lst us)) (ρ.set n (.lst ((rds.map D.lst).set j (.lst ds)))) := by
  have hl := hr.len
  have hj : j < rds.length := by have := (List.getElem?_eq_some_iff.mp hb).1; omega
  obtain ⟨b', vs, h1, h2, _, _⟩ := hr.get (List.getElem?_eq_getElem hj)
  rw [hb] at h1; cases h1
  have hne : a ≠ b := fun z => na (z ▸ List.mem_of_getElem? hb)
  have R2 := R.ups (O' := O) (S' := .tbl q) (u := .lst us) (d := .lst ((rds.set j ds).map .lst)) hm h2 rfl (fun j b h => .inl h) (fun j b h => h) ⟨_, hs, a, rows, rds.set j ds, rfl, rfl, by rw [upd_ne hne]; exact ha, hO, nd, na, hr.put hu nd hb⟩
  rw [set_same hm, nodup_set] at R2
  exact R2
def atL (ds : List D) (d : D) : Option (Nat × List D) := match d with
  | .int i => (ixN ds.length i).bind fun j => match ds[j]? with
    | some (.lst es) => some (j, es)
    | _ => none
  | _ => none
/-- table[i].append(e) -/
def sRa (n : Nat) (fi fe : EF) : SF := fun ρ => match ρ[n]? with
  | some (.lst ds) => (fi ρ).bind fun i => (atL ds i).bind fun x => (fe ρ).bind fun d => if x.2.length < 1000000 then some (.nx (ρ.set n (.lst (ds.set x.1 (.lst (x.2 ++ [d])))))) else none
  | _ => none
/-- table[i][j] = e -/
def sRs (n : Nat) (fi fj fe : EF) : SF := fun ρ => (fe ρ).bind fun d => match ρ[n]? with
  | some (.lst ds) => (fi ρ).bind fun i => (atL ds i).bind fun x => (fj ρ).bind fun m => match m with
    | .int m => (ixN x.2.length m).bind fun j => some (.nx (ρ.set n (.lst (ds.set x.1 (.lst (x.2.set j d))))))
    | _ => none
  | _ => none
theorem row_at {K : PySem.W.Frag} {F H : Hp} {o : Addr → Prop} {h0 : Hp} {rows : List Addr} {rds : List (List D)} {d : D} {x : Nat × List D} (hr : RowsR K T h0 q F H o rows rds) (h : atL (rds.map D.lst) d = some x) :
    ∃ i b vs, d = .int i ∧ rds[x.1]? = some x.2 ∧ rows[x.1]? = some b ∧ atI (rows.map V.ref) i = some (.ref b) ∧ o b ∧ H b = some (.lst vs) ∧ Rqs K T h0 q F vs x.2 := by
  unfold atL at h
  split at h
  · rename_i i
    cases h1 : ixN (rds.map D.lst).length i with
    | none => rw [h1] at h; cases h
    | some j =>
      rw [h1] at h
      simp only [Option.bind_some] at h
      cases h2 : rds[j]? with
      | none => rw [List.getElem?_map, h2] at h; cases h
      | some es =>
        rw [List.getElem?_map, h2] at h
        cases h
        obtain ⟨b, vs, h3, h4, h5, h6⟩ := hr.get h2
        refine ⟨i, b, vs, rfl, h2, h3, ?_, h4, h5, h6⟩
        unfold atI
        rw [List.length_map, hr.len]
        rw [List.length_map] at h1
        rw [h1]
        simp only [Option.bind_some]
        rw [List.getElem?_map, h3]; rfl
  · cases h
theorem ds_rowapp (n : Nat) (hm : Γ[n]? = some (.os (.tbl q))) (h : PE X e (tBM X.K "list" rAppend (tOp (rIxL X.K) (tVar n) (tD X.K T H0 Γ fa ka)) (tCons (tD X.K T H0 Γ fe (.q q)) tNil))) (hs : swapsWith e none pos.line X.env = pure false := by rfl) : DS X T H0 Γ (.Expr e pos) (sRa n fa fe) Γ J :=
  PS.wk (ps_expr h hs) fun E σ H ⟨F, O, ρ, out, R, hf, hq⟩ => by
    obtain ⟨v0, d0, h1, h2, a, rows, rds, e1, e2, h3, h4, nd, na, hr⟩ := R.sl n _ hm
    subst e1; subst e2
    unfold sRa at hf
    rw [h2] at hf
    simp only at hf
    cases h6 : fa ρ with
    | none => rw [h6] at hf; cases hf
    | some i =>
      rw [h6] at hf
      simp only [Option.bind_some] at hf
      cases h7 : atL (rds.map D.lst) i with
      | none => rw [h7] at hf; cases hf
      | some x =>
        rw [h7] at hf
        simp only [Option.bind_some] at hf
        cases h8 : fe ρ with
        | none => rw [h8] at hf; cases hf
        | some d =>
          rw [h8] at hf
          simp only [Option.bind_some] at hf
          split at hf
          · rename_i hl
            cases hf
            obtain ⟨m, b, vs, e3, g1, g2, g3, g4, g5, g6⟩ := row_at hr h7
            subst e3
            refine ⟨.ref a, h1, F, O, ρ, _, R, h6, fun F1 H1 v R1 s1 t1 r1 => ?_⟩
            refine ⟨a, _, m, _, rfl, r1.int, SqL.of (t1 _ _ h3), g3, .inl ⟨rfl, vs, SqL.of (t1 _ _ g5)⟩, F1, O, ρ, d, R1, h8, fun F2 H2 v2 R2 s2 t2 r2 => ?_⟩
            have k5 := t2 _ _ (t1 _ _ g5)
            have k6 := (s1.trans s2).rqs g6
            refine ⟨b, vs, v2, rfl, rfl, k5, by rw [g6.length]; exact lt_line hl, ?_⟩
            have hr2 : RowsR X.K T H0 q F2 H2 (O n) rows rds := hr.move (s1.trans s2) (fun c hc => by
              obtain ⟨_, o, k1, k2⟩ := R.on n c hc
              rw [(t1.trans t2) _ _ k1 (isT_mut k2), k1]) fun _ h => h
            exact hq F2 O σ _ (s1.trans s2) (R2.upRow hm h1 ((t1.trans t2) _ _ h3) h4 nd na hr2 g2 (k6.append (.cons r2 .nil)))
          · cases hf
theorem ds_rowput (n : Nat) (hm : Γ[n]? = some (.os (.tbl q))) (h : PS X st (tAsg (tD X.K T H0 Γ fe (.q q)) (L2.gSub (tOp (rIxL X.K) (tVar n) (tD X.K T H0 Γ fa ka)) (tD X.K T H0 Γ fb kb) rSetL))) : DS X T H0 Γ st (sRs n fa fb fe) Γ J :=
  PS.wk h fun E σ H ⟨F, O, ρ, out, R, hf, hq⟩ => by
    unfold sRs at hf
    cases h8 : fe ρ with
    | none => rw [h8] at hf; cases hf
    | some d =>
      rw [h8] at hf
      simp only [Option.bind_some] at hf
      refine ⟨F, O, ρ, d, R, h8, fun F1 H1 v R1 s1 t1 r1 => ?_⟩
      obtain ⟨v0, d0, h1, h2, a, rows, rds, e1, e2, h3, h4, nd, na, hr⟩ := R1.sl n _ hm
      subst e1; subst e2
      rw [h2] at hf
      simp only at hf
      cases h6 : fa ρ with
      | none => rw [h6] at hf; cases hf
      | some i =>
        rw [h6] at hf
        simp only [Option.bind_some] at hf
        cases h7 : atL (rds.map D.lst) i with
        | none => rw [h7] at hf; cases hf
        | some x =>
          rw [h7] at hf
          simp only [Option.bind_some] at hf
          cases h9 : fb ρ with
          | none => rw [h9] at hf; cases hf
          | some m =>
            rw [h9] at hf
            simp only [Option.bind_some] at hf
            split at hf
            · rename_i m
              cases h10 : ixN x.2.length m with
              | none => rw [h10] at hf; cases hf
              | some j =>
                rw [h10] at hf
                cases hf
                obtain ⟨m2, b, vs, e3, g1, g2, g3, g4, g5, g6⟩ := row_at hr h7
                subst e3
                refine ⟨.ref a, h1, F1, O, ρ, _, R1, h6, fun F2 H2 v2 R2 s2 t2 r2 => ?_⟩
                refine ⟨a, _, m2, _, rfl, r2.int, SqL.of (t2 _ _ h3), g3, F2, O, ρ, _, R2, h9, fun F3 H3 v3 R3 s3 t3 r3 => ?_⟩
                have k5 := t3 _ _ (t2 _ _ g5)
                have k6 := (s2.trans s3).rqs g6
                refine ⟨b, vs, m, j, rfl, r3.int, k5, by rw [g6.length]; exact h10, ?_⟩
                have hr2 : RowsR X.K T H0 q F3 H3 (O n) rows rds := hr.move (s2.trans s3) (fun c hc => by
                  obtain ⟨_, o, k1, k2⟩ := R1.on n c hc
                  rw [(t2.trans t3) _ _ k1 (isT_mut k2), k1]) fun _ h => h
                exact hq F3 O σ _ ((s1.trans s2).trans s3) (R3.upRow hm h1 ((t2.trans t3) _ _ h3) h4 nd na hr2 g2 (RepsG.set ((s2.trans s3).rq r1) j k6))
            · cases hf
end
end DL

namespace DL
open PySem PySem.Spec PyProof.Rows L2
section
variable {X : Cx} {T : Tb} {H0 : HZ} {Γ Γ1 Γn Γm : List Mode} {J : Jm} {e a b tg iter : Expr} {es : List Expr} {st : Stmt} {sts : List Stmt} {f g : SF} {fe fa fb : EF} {k ka kb : Knd} {pos po : Pos} {q p : Q3} {fi : List D → Option (List D)} {c : Bool} {fs : List D → Option (List D)}
theorem resS_res {O : Own} {i : Nat} {a : Addr} {K : PySem.W.Frag} {F H : Hp} {σ : L2.St} {ρ : List D} (R : Rl K T H0 Γ F (resv O i a) σ H ρ) : Rl K T H0 Γ F (resS O i (fun b => b = a)) σ H ρ := R
/-- the rows of a table that is being made -/
theorem lcT_sem {K : PySem.W.Frag} {gg : TG} {own vs : List Nat} {tgd : D → List D → Option (List D)} {tt : List D → Option Bool} {n : Nat} (hn : n < Γ.length) (hs : TgS K T H0 Γ gg vs tgd q Γ1) (hv : vs.all (fun i => own.contains i) = true) (ho : own.all (fun i => decide (Γ[i]? = some .no)) = true) :
    ∀ E σ H, tDS K T H0 Γ (sSet n (eComp fi tgd tt fe)) (Γ.set n (.os (.tbl p))) J E σ H → tAsg (tLc (tDI K T H0 Γ fi q true) gg (tDT K T H0 Γ1 tt) (tD K T H0 Γ1 fe (.ol p)) own) (gName n) E σ H := by
  rintro E σ H ⟨F, O, ρ, out, R, hf, hq⟩
  unfold sSet eComp at hf
  cases h1 : fi ρ with
  | none => rw [h1] at hf; cases hf
  | some items =>
    rw [h1] at hf
    simp only [Option.bind_some] at hf
    cases h2 : compGo tgd tt fe ρ items with
    | none => rw [h2] at hf; cases hf
    | some ds =>
      rw [h2] at hf
      simp only [Option.bind_some] at hf
      split at hf
      · rename_i hlen
        cases hf
        refine ⟨F, O, ρ, items, R, h1, fun F1 H1 J1 R1 s1 s1' ok p1 hp1 => ?_⟩
        have hO1 := R1.notOwn hp1
        have hF1 : F1 p1 = none := R1.fh.free hp1
        refine ⟨fun i m H => m = items.length - i ∧ i ≤ items.length ∧ ∃ F2 rows rds rest, Same F1 F2 ∧ Sm H1 H ∧ Rl K T H0 Γ F2 (resS O Γ.length (fun b => b = p1 ∨ b ∈ rows)) σ H ρ ∧ H p1 = some (.lst (rows.map .ref)) ∧ rows.Nodup ∧ p1 ∉ rows ∧ (∀ b, b ∈ rows → ∀ j, ¬ O j b) ∧ RowsR K T H0 p F2 H (fun b => b = p1 ∨ b ∈ rows) rows rds ∧ compGo tgd tt fe ρ (items.drop i) = some rest ∧ ds = rds.map D.lst ++ rest,
          ⟨items.length, by simp, Nat.zero_le _, F1, [], [], ds, .refl _, (R1.junk hp1).2, ((R1.junk hp1).1.res (i := Γ.length) upd_same rfl hF1 hO1).own_eq (fun j b => by unfold resS resv; simp), upd_same, List.nodup_nil, by simp, by simp, .nil, by simpa using h2, rfl⟩, ?_⟩
        rintro i m H2 ⟨rfl, hi, F2, rows, rds, rest, s2, t2, R2, hp2, nd, na, nO, rr, hc, hds⟩
        obtain ⟨ok1, ok2⟩ := ok i F2 H2 s2 R2.fh (fun _ => t2)
        by_cases hlt : i < items.length
        · obtain ⟨hgo, hy⟩ := ok1 items[i] (List.getElem?_eq_getElem hlt)
          rw [List.drop_eq_getElem_cons hlt] at hc
          unfold compGo at hc
          cases h3 : tgd items[i] ρ with
          | none => rw [h3] at hc; cases hc
          | some ρ3 =>
            rw [h3] at hc
            simp only [Option.bind_some] at hc
            cases h4 : tt ρ3 with
            | none => rw [h4] at hc; cases hc
            | some b4 =>
              rw [h4] at hc
              simp only [Option.bind_some] at hc
              refine .inr ⟨hgo, fun H5 => ∃ F5 rows5 rds5 rest5, Same F1 F5 ∧ Sm H1 H5 ∧ Rl K T H0 Γ F5 (resS O Γ.length (fun b => b = p1 ∨ b ∈ rows5)) σ H5 ρ ∧ H5 p1 = some (.lst (rows5.map .ref)) ∧ rows5.Nodup ∧ p1 ∉ rows5 ∧ (∀ b, b ∈ rows5 → ∀ j, ¬ O j b) ∧ RowsR K T H0 p F5 H5 (fun b => b = p1 ∨ b ∈ rows5) rows5 rds5 ∧ compGo tgd tt fe ρ (items.drop (i + 1)) = some rest5 ∧ ds = rds5.map D.lst ++ rest5,
                fun H5 h5 => ⟨items.length - (i + 1), by omega, rfl, hlt, h5⟩, fun x H3 hx => ?_⟩
              obtain ⟨t3, F3, u3, v3, w3, r3⟩ := hy x H3 hx
              have R3 : Rl K T H0 Γ F3 (resS O Γ.length (fun b => b = p1 ∨ b ∈ rows)) σ H3 ρ := (R2.growN t3).more u3 v3 (w3.2 R2.nF) fun j b hb => by
                obtain ⟨z1, o, z2, z3⟩ := R2.on j b hb
                exact w3.1 b z1 ⟨o, z2, z3⟩
              refine hs F3 _ (wipe σ own) H3 ρ x _ ρ3 _ (R3.wiped ho) r3 h3 fun σ4 R4 k4 l4 => ⟨?_, ?_⟩
              · rw [← wipe_wipe own σ]
                exact wipe_eq l4 fun j hj => k4 j fun z => hj (by simpa using List.all_eq_true.mp hv j z)
              · have back : ∀ {F6 H6 : Hp}, Rl K T H0 Γ1 F6 (resS O Γ.length (fun b => b = p1 ∨ b ∈ rows)) σ4 H6 ρ3 → Same F3 F6 → Sm H3 H6 → Rl K T H0 Γ F6 (resS O Γ.length (fun b => b = p1 ∨ b ∈ rows)) σ H6 ρ := fun {F6 H6} R6 s6 t6 =>
                  (R3.grow t6 R6.tb).more s6 R6.fh R6.nF fun j b hb => (R6.on j b hb).1
                have len : ∀ {n : Nat} {r : List D}, ds = rds.map D.lst ++ r → r.length = n + 1 → (rows.map V.ref).length < sizeLine := fun {n r} e1 e2 => by
                  have e3 : ds.length = rds.length + r.length := by rw [e1, List.length_append, List.length_map]
                  have e4 := rr.len
                  rw [List.length_map, sizeLine_eq]
                  omega
                have mv : ∀ {F6 H6 : Hp}, Same F2 F6 → Sm H2 H6 → RowsR K T H0 p F6 H6 (fun b => b = p1 ∨ b ∈ rows) rows rds := fun {F6 H6} s6 t6 => rr.move s6 (fun b hb => by
                  obtain ⟨_, o, k1, k2⟩ := R2.on Γ.length b (.inr ⟨rfl, hb⟩)
                  rw [t6 _ _ k1 (isT_mut k2), k1]) fun _ h => h
                refine ⟨F3, _, ρ3, b4, R4, h4, fun F6 H6 R6 s6 t6 => ?_⟩
                cases b4 with
                | false =>
                  rw [if_neg Bool.false_ne_true] at hc ⊢
                  exact ⟨F6, rows, rds, rest, (s2.trans u3).trans s6, (t2.trans t3.sm).trans t6, back R6 s6 t6, t6 _ _ (t3 _ _ hp2), nd, na, nO, mv (u3.trans s6) (t3.sm.trans t6), hc, hds⟩
                | true =>
                  rw [if_pos rfl] at hc ⊢
                  cases h7 : fe ρ3 with
                  | none => rw [h7] at hc; cases hc
                  | some y7 =>
                    rw [h7] at hc
                    simp only [Option.bind_some] at hc
                    cases h8 : compGo tgd tt fe ρ (items.drop (i + 1)) with
                    | none => rw [h8] at hc; cases hc
                    | some r8 =>
                      rw [h8] at hc
                      cases hc
                      refine ⟨F6, _, ρ3, y7, R6, h7, fun F9 H9 v9 R9 s9 t9 r9 => ⟨rows.map .ref, t9 _ _ (t6 _ _ (t3 _ _ hp2)), len hds (by rw [List.length_cons]), ?_⟩⟩
                      obtain ⟨a9, vs9, es9, e1, e2, g1, g2, g3, g4⟩ := r9
                      subst e1; subst e2
                      have R9' := back R9 (s6.trans s9) (t6.trans t9)
                      have h9 : H1 p1 = none := hp1
                      have na9 : a9 ≠ p1 := fun z => g3 Γ.length (.inr ⟨rfl, .inl z⟩)
                      have nr9 : a9 ∉ rows := fun z => g3 Γ.length (.inr ⟨rfl, .inr z⟩)
                      have R10 := (R9'.addS g1 rfl g2 g3).upS (a := p1) (o := .lst (rows.map V.ref ++ [.ref a9])) (.inl (.inl rfl)) rfl
                      refine ⟨F9, rows ++ [a9], rds ++ [es9], r8, ((s2.trans u3).trans s6).trans s9, ⟨fun b o e n => ?_⟩, R10.own_eq (fun j b => ?_), by rw [List.map_append]; exact upd_same, ?_, ?_, ?_, ?_, rfl, by rw [hds, List.map_append, List.append_assoc]; rfl⟩
                      · rw [upd_ne (ne_of_none e h9)]
                        exact (((t2.trans t3.sm).trans t6).trans t9) _ _ e
                      · unfold resS
                        simp only [List.mem_append, List.mem_singleton]
                        constructor
                        · rintro (h | ⟨h, h' | h' | h'⟩)
                          · exact .inl h
                          · exact .inr ⟨h, .inl (.inl h')⟩
                          · exact .inr ⟨h, .inl (.inr h')⟩
                          · exact .inr ⟨h, .inr h'⟩
                        · rintro (h | ⟨h, (h' | h') | h'⟩)
                          · exact .inl h
                          · exact .inr ⟨h, .inl h'⟩
                          · exact .inr ⟨h, .inr (.inl h')⟩
                          · exact .inr ⟨h, .inr (.inr h')⟩
                      · rw [List.nodup_append]
                        exact ⟨nd, by simp, fun x hx y hy => by rw [List.mem_singleton] at hy; subst hy; exact fun z => nr9 (z ▸ hx)⟩
                      · rw [List.mem_append, List.mem_singleton, not_or]
                        exact ⟨na, fun z => na9 z.symm⟩
                      · intro b hb j hj
                        rw [List.mem_append, List.mem_singleton] at hb
                        rcases hb with hb | hb
                        · exact nO b hb j hj
                        · subst hb; exact g3 j (.inl hj)
                      · have m1 := (mv ((u3.trans s6).trans s9) ((t3.sm.trans t6).trans t9)).ne (b := p1) (u := .lst (rows.map V.ref ++ [.ref a9])) na
                        have m2 : RowsR K T H0 p F9 (upd H9 p1 (.lst (rows.map V.ref ++ [.ref a9]))) (fun b => b = p1 ∨ b ∈ rows ++ [a9]) rows rds := m1.move (.refl _) (fun _ _ => rfl) fun b hb => by
                          rcases hb with hb | hb
                          · exact .inl hb
                          · exact .inr (List.mem_append_left _ hb)
                        exact m2.snoc (.inr (by simp)) (by rw [upd_ne na9]; exact g1) g4
        · have : i = items.length := by omega
          subst this
          rw [List.drop_length] at hc
          cases hc
          rw [List.append_nil] at hds
          subst hds
          refine .inl ⟨ok2 (Nat.le_refl _), ?_⟩
          exact hq F2 _ _ H2 (s1.trans s2) (R2.toSlot (fun j b hb hj => by
            rcases hb with hb | hb
            · subst hb; exact hO1 j hj
            · exact nO b hb j hj) hn ⟨p1, rows, rds, rfl, rfl, hp2, .inl rfl, nd, na, rr⟩)
      · cases hf
/-- name = [[..] ..] on one line -/
theorem ds_compT {elt : Expr} {ifs : List Expr} {scope : Scope} {own : List (Str × Nat)} {gg : TG} {vs : List Nat} {tgd : D → List D → Option (List D)} {tt : List D → Option Bool} {i : Nat} {y : Str} {py spos : Pos} (hc : X.calm = true) (hN : X.N.Nodup) (hy : X.N[i]? = some y) (hyl : X.env.scope.names.lookup y = some .local)
    (hsw : swapsWith (.ListComp elt [⟨tg, iter, ifs, 0⟩] scope pos) (some (.Name y py)) spos.line X.env = pure true) (hi : DI X T H0 Γ tg iter fi q true) (ok : BlkOk X.N X.env.scope scope own)
    (hg : ∀ (s : Shared) (H : Hp) (C : Addr) (cl : List (Str × Addr)) (fp : List Addr), PG (X.blk s H scope (compEnvC scope cl C X.env) fp) tg gg) (hs : TgS X.K T H0 Γ gg vs tgd q Γ1)
    (ht : ∀ (s : Shared) (H : Hp) (C : Addr) (cl : List (Str × Addr)) (fp : List Addr), PTs (X.blk s H scope (compEnvC scope cl C X.env) fp) ifs (tDT X.K T H0 Γ1 tt))
    (he : ∀ (s : Shared) (H : Hp) (C : Addr) (cl : List (Str × Addr)) (fp : List Addr), DE (X.blk s H scope (compEnvC scope cl C X.env) fp) T H0 Γ1 elt fe (.ol p))
    (hv : vs.all (fun i => (own.map (·.2)).contains i) = true) (ho : (own.map (·.2)).all (fun i => decide (Γ[i]? = some .no)) = true) (hl : i < Γ.length := by decide) (hfs : ∀ x, foldedSetIterable iter X.env x = pure x := by intro _; rfl) :
    DS X T H0 Γ (.Assign [.Name y py] (.ListComp elt [⟨tg, iter, ifs, 0⟩] scope pos) spos) (sSet i (eComp fi tgd tt fe)) (Γ.set i (.os (.tbl p))) J :=
  PS.wk (ps_setLc hc hN hy hyl hsw hi ok hg ht he hfs) (lcT_sem hl hs hv ho)
end
end DL

namespace DL
open PySem PySem.Spec PyProof.Rows L2

/-! ### min, max, int -/
def gMin (x y : D) : Option D := i2 (fun i j => some (.int (if j < i then j else i))) x y
def gMax (x y : D) : Option D := i2 (fun i j => some (.int (if j > i then j else i))) x y
def gInt (x : D) : Option D := match x with
  | .int i => some (.int i)
  | .bl b => some (.int (if b then 1 else 0))
  | _ => none
/-! ### sorted -/
def insB {α : Type} (le : α → α → Bool) (x : α) : List α → List α
  | [] => [x]
  | y :: r => if le x y = true then x :: y :: r else y :: insB le x r
def srtB {α : Type} (le : α → α → Bool) : List α → List α
  | [] => []
  | x :: r => insB le x (srtB le r)
theorem insB_perm {α : Type} (le : α → α → Bool) (x : α) : ∀ l, (insB le x l).Perm (x :: l)
  | [] => .refl _
  | y :: r => by
    unfold insB
    split
    · exact .refl _
    · exact ((insB_perm le x r).cons y).trans (.swap _ _ _)
theorem srtB_perm {α : Type} (le : α → α → Bool) : ∀ l : List α, (srtB le l).Perm l
  | [] => .refl _
  | x :: r => (insB_perm le x (srtB le r)).trans ((srtB_perm le r).cons x)
theorem insB_pw {α : Type} {le : α → α → Bool} (tr : ∀ a b c, le a b = true → le b c = true → le a c = true) (to : ∀ a b, (le a b || le b a) = true) (x : α) : ∀ l, l.Pairwise (fun a b => le a b = true) → (insB le x l).Pairwise fun a b => le a b = true
  | [], _ => by simp [insB]
  | y :: r, h => by
    have h := List.pairwise_cons.mp h
    unfold insB
    split
    · rename_i hx
      refine List.pairwise_cons.mpr ⟨fun z hz => ?_, List.pairwise_cons.mpr h⟩
      rcases List.mem_cons.mp hz with e | hz
      · subst e; exact hx
      · exact tr _ _ _ hx (h.1 z hz)
    · rename_i hx
      refine List.pairwise_cons.mpr ⟨fun z hz => ?_, insB_pw tr to x r h.2⟩
      have hz := (insB_perm le x r).mem_iff.mp hz
      rcases List.mem_cons.mp hz with e | hz
      · subst e
        have := to z y
        rw [Bool.or_eq_true] at this
        exact this.resolve_left hx
      · exact h.1 z hz
theorem srtB_pw {α : Type} {le : α → α → Bool} (tr : ∀ a b c, le a b = true → le b c = true → le a c = true) (to : ∀ a b, (le a b || le b a) = true) : ∀ l : List α, (srtB le l).Pairwise fun a b => le a b = true
  | [] => .nil
  | x :: r => insB_pw tr to x _ (srtB_pw tr to r)
def sortI (ns : List Int) : List Int := srtB (fun a b => decide (a ≤ b)) ns
def gSortI (x : D) : Option D := match x with
  | .lst ds => (intsOf ds).map fun ns => .lst ((sortI ns).map .int)
  | _ => none
def pD (p : Int × Int) : D := .tup [.int p.1, .int p.2]
def pairOf (d : D) : Option (Int × Int) := match d with
  | .tup ds => (intsOf ds).bind fun ns => match ns with
    | [i, j] => some (i, j)
    | _ => none
  | _ => none
def pairsOf : List D → Option (List (Int × Int))
  | [] => some []
  | d :: r => (pairOf d).bind fun p => (pairsOf r).map (p :: ·)
theorem pairOf_pD (p : Int × Int) : pairOf (pD p) = some p := rfl
theorem pairOf_eq {d : D} {p : Int × Int} (h : pairOf d = some p) : d = pD p := by
  unfold pairOf at h
  split at h
  · rename_i ds
    cases h1 : intsOf ds with
    | none => rw [h1] at h; cases h
    | some ns =>
      rw [h1] at h
      simp only [Option.bind_some] at h
      split at h
      · cases h; rw [intsOf_eq h1]; rfl
      · cases h
  · cases h
theorem pairsOf_map : ∀ ps : List (Int × Int), pairsOf (ps.map pD) = some ps
  | [] => rfl
  | p :: ps => by
    rw [List.map_cons]
    unfold pairsOf
    rw [pairOf_pD, pairsOf_map ps]; rfl
theorem pairsOf_eq : ∀ {ds : List D} {ps : List (Int × Int)}, pairsOf ds = some ps → ds = ps.map pD := by
  intro ds
  induction ds with
  | nil => intro ps h; cases h; rfl
  | cons d ds ih =>
    intro ps h
    unfold pairsOf at h
    cases h1 : pairOf d with
    | none => rw [h1] at h; cases h
    | some p =>
      rw [h1] at h
      simp only [Option.bind_some] at h
      cases h2 : pairsOf ds with
      | none => rw [h2] at h; cases h
      | some qs => rw [h2] at h; cases h; rw [ih h2, pairOf_eq h1]; rfl
def inB (p : Int × Int) : Bool := decide (0 ≤ p.1) && decide (p.1 < 64) && decide (0 ≤ p.2) && decide (p.2 < 64)
def codeP (p : Int × Int) : Int := p.1 * 64 + p.2
def sortP (ps : List (Int × Int)) : List (Int × Int) := srtB (fun a b => decide (codeP a ≤ codeP b)) ps
def gSortP (x : D) : Option D := match x with
  | .lst ds => (pairsOf ds).bind fun ps => if ps.length < 64 ∧ ps.all inB = true then some (.lst ((sortP ps).map pD)) else none
  | _ => none
theorem sortI_perm (ns : List Int) : (sortI ns).Perm ns := srtB_perm _ _
theorem sortI_pw (ns : List Int) : (sortI ns).Pairwise (· ≤ ·) :=
  (srtB_pw (le := fun a b : Int => decide (a ≤ b)) (fun a b c h1 h2 => by simp at *; omega) (fun a b => by simp; omega) ns).imp fun h => of_decide_eq_true h
theorem sortI_uniq {ns ms : List Int} (h1 : ms.Perm ns) (h2 : ms.Pairwise (· ≤ ·)) : ms = sortI ns :=
  (h1.trans (sortI_perm ns).symm).eq_of_pairwise (fun a b _ _ h3 h4 => Int.le_antisymm h3 h4) h2 (sortI_pw ns)
theorem sortP_perm (ns : List (Int × Int)) : (sortP ns).Perm ns := srtB_perm _ _
theorem sortP_pw (ns : List (Int × Int)) : (sortP ns).Pairwise fun a b => codeP a ≤ codeP b :=
  (srtB_pw (le := fun a b : Int × Int => decide (codeP a ≤ codeP b)) (fun a b c h1 h2 => by simp at *; omega) (fun a b => by simp; omega) ns).imp fun h => of_decide_eq_true h
theorem inB_iff {p : Int × Int} : inB p = true ↔ (0 ≤ p.1 ∧ p.1 < 64) ∧ 0 ≤ p.2 ∧ p.2 < 64 := by
  unfold inB; simp [and_assoc]
theorem sortP_uniq {ns ms : List (Int × Int)} (hb : ns.all inB = true) (h1 : ms.Perm ns) (h2 : ms.Pairwise fun a b => codeP a ≤ codeP b) : ms = sortP ns :=
  (h1.trans (sortP_perm ns).symm).eq_of_pairwise (fun a b ha hb' h3 h4 => by
    have ia := inB_iff.mp (List.all_eq_true.mp hb a (h1.mem_iff.mp ha))
    have ib := inB_iff.mp (List.all_eq_true.mp hb b ((sortP_perm ns).mem_iff.mp hb'))
    unfold codeP at h3 h4
    apply Prod.ext <;> omega) h2 (sortP_pw ns)
theorem RepsG.perm {K : PySem.W.Frag} {T : Tb} {N : Addr → Prop} {F : Hp} {us vs : List V} (h : us.Perm vs) : ∀ {ds : List D}, RepsG K T N F vs ds → ∃ es, es.Perm ds ∧ RepsG K T N F us es := by
  induction h with
  | nil => intro ds r; exact ⟨ds, .refl _, r⟩
  | cons x h ih =>
    intro ds r
    cases r with
    | cons r rs =>
      obtain ⟨es, h1, h2⟩ := ih rs
      exact ⟨_, h1.cons _, .cons r h2⟩
  | swap x y l =>
    intro ds r
    cases r with
    | cons r rs => cases rs with
      | cons r2 rs => exact ⟨_, .swap _ _ _, .cons r2 (.cons r rs)⟩
  | trans h1 h2 ih1 ih2 =>
    intro ds r
    obtain ⟨es, h3, h4⟩ := ih2 r
    obtain ⟨fs, h5, h6⟩ := ih1 h4
    exact ⟨fs, h5.trans h3, h6⟩
theorem perm_map {α β : Type} {f : α → β} (hf : ∀ a b, f a = f b → a = b) : ∀ {es : List β} {ps : List α}, es.Perm (ps.map f) → ∃ qs : List α, qs.Perm ps ∧ es = qs.map f := by
  intro es ps h
  have : ∀ {es fs : List β}, es.Perm fs → ∀ ps : List α, fs = ps.map f → ∃ qs : List α, qs.Perm ps ∧ es = qs.map f := by
    intro es fs h
    induction h with
    | nil => intro ps e; cases ps with
      | nil => exact ⟨[], .refl _, rfl⟩
      | cons p ps => cases e
    | cons x h ih => intro ps e; cases ps with
      | nil => cases e
      | cons p ps =>
        rw [List.map_cons] at e
        injection e with e1 e2
        obtain ⟨qs, h1, h2⟩ := ih ps e2
        exact ⟨p :: qs, h1.cons _, by rw [List.map_cons, h2, e1]⟩
    | swap x y l => intro ps e; cases ps with
      | nil => cases e
      | cons p ps =>
        rw [List.map_cons] at e
        injection e with e1 e2
        cases ps with
        | nil => cases e2
        | cons p2 ps =>
          rw [List.map_cons] at e2
          injection e2 with e2 e3
          exact ⟨p2 :: p :: ps, .swap _ _ _, by rw [List.map_cons, List.map_cons, e1, e2, e3]⟩
    | trans h1 h2 ih1 ih2 =>
      intro ps e
      obtain ⟨qs, h3, h4⟩ := ih2 ps e
      obtain ⟨rs, h5, h6⟩ := ih1 qs h4
      exact ⟨rs, h5.trans h3, h6⟩
  exact this h ps rfl
theorem RepsG.mem {K : PySem.W.Frag} {T : Tb} {N : Addr → Prop} {F : Hp} : ∀ {vs : List V} {ds : List D} {v : V}, RepsG K T N F vs ds → v ∈ vs → ∃ d, d ∈ ds ∧ RepG K T N F v d
  | _, _, v, .cons r rs, h => by
    rcases List.mem_cons.mp h with h | h
    · subst h; exact ⟨_, List.mem_cons_self, r⟩
    · obtain ⟨d, h1, h2⟩ := RepsG.mem rs h
      exact ⟨d, List.mem_cons_of_mem _ h1, h2⟩
section
variable {X : Cx} {T : Tb} {H0 : HZ} {Γ Γ1 Γn Γm : List Mode} {J : Jm} {e a b tg iter : Expr} {es : List Expr} {st : Stmt} {sts : List Stmt} {f g : SF} {fe fa fb fc : EF} {k ka kb kc : Knd} {pos po : Pos} {q p : Q3} {fi : List D → Option (List D)} {c : Bool} {fs : List D → Option (List D)}
theorem callB2_sem {K : PySem.W.Frag} {r : List V → Hp → VK → Prop} {g : Int → Int → Option D}
    (hr : ∀ i j d, g i j = some d → ∃ w, atomV d = some w ∧ ∀ H Q, Q w H → r [.int i, .int j] H Q) :
    ∀ σ H Q, tD K T H0 Γ (e2 (i2 g) fa fb) (.q q) σ H Q → tCB r (tDA K T H0 Γ (aCons fa (aCons fb aNil))) σ H Q := by
  rintro σ H Q ⟨F, O, ρ, d, R, hf, hq⟩
  unfold e2 at hf
  cases h1 : fa ρ with
  | none => rw [h1] at hf; cases hf
  | some x =>
    rw [h1] at hf
    simp only [Option.bind_some] at hf
    cases h2 : fb ρ with
    | none => rw [h2] at hf; cases hf
    | some y =>
      rw [h2] at hf
      simp only [Option.bind_some] at hf
      obtain ⟨i, j, rfl, rfl, h3⟩ := i2_some hf
      obtain ⟨w, h4, h5⟩ := hr _ _ _ h3
      refine ⟨F, O, ρ, [.int i, .int j], R, by unfold aCons aNil; rw [h1]; simp only [Option.bind_some]; rw [h2]; rfl, fun F1 H1 vs R1 s1 t1 r1 => ?_⟩
      cases r1 with
      | cons r1 r2 => cases r2 with
        | cons r2 r3 =>
          cases r3; cases r1; cases r2
          exact h5 _ _ (hq F1 H1 w R1 s1 t1 (atom_rep h4))
theorem de_min (hc : X.calm = true) (hg : Gl X "min") (hm : X.mg "min" = none) (ha : DE X T H0 Γ a fa ka) (hb : DE X T H0 Γ b fb kb) (hs : starEach [a, b] X.env = (false, eval a X.env) :: starEach [b] X.env := by rfl) (hs2 : starEach [b] X.env = (false, eval b X.env) :: starEach [] X.env := by rfl) (hpl : (backTo pos (starEach [b] X.env)).any (·.1) = false := by rfl) :
    DE X T H0 Γ (.Call (.Name "min" po) [a, b] [] pos) (e2 gMin fa fb) (.q q) :=
  PE.wk (pe_callB (call_min2 hc) hg hm (by decide +kernel) (da_cons ha (da_cons hb da_nil hs2) hs) (he := hs) (hpl := hpl)) (callB2_sem fun i j d h => by cases h; exact ⟨_, rfl, fun H Q hq => ⟨i, j, rfl, hq⟩⟩)
theorem de_max (hc : X.calm = true) (hg : Gl X "max") (hm : X.mg "max" = none) (ha : DE X T H0 Γ a fa ka) (hb : DE X T H0 Γ b fb kb) (hs : starEach [a, b] X.env = (false, eval a X.env) :: starEach [b] X.env := by rfl) (hs2 : starEach [b] X.env = (false, eval b X.env) :: starEach [] X.env := by rfl) (hpl : (backTo pos (starEach [b] X.env)).any (·.1) = false := by rfl) :
    DE X T H0 Γ (.Call (.Name "max" po) [a, b] [] pos) (e2 gMax fa fb) (.q q) :=
  PE.wk (pe_callB (call_max2 hc) hg hm (by decide +kernel) (da_cons ha (da_cons hb da_nil hs2) hs) (he := hs) (hpl := hpl)) (callB2_sem fun i j d h => by cases h; exact ⟨_, rfl, fun H Q hq => ⟨i, j, rfl, hq⟩⟩)
theorem de_intc (hg : Gl X "int") (hm : X.mg "int" = none) (ha : DE X T H0 Γ a fa ka) (hs : starEach [a] X.env = (false, eval a X.env) :: starEach [] X.env := by rfl) : DE X T H0 Γ (.Call (.Name "int" po) [a] [] pos) (e1 gInt fa) (.q q) :=
  PE.wk (pe_callTy call_int1 hg hm (by decide +kernel) (da_cons ha da_nil hs) (he := hs)) (callB_sem fun F O σ H ρ v x d Q R rv hg hq => by
    unfold gInt at hg
    split at hg
    · cases hg; cases rv; exact .inl ⟨_, rfl, hq F H _ R (.refl _) (.refl _) (RepG.int _)⟩
    · cases hg; cases rv; exact .inr ⟨_, rfl, hq F H _ R (.refl _) (.refl _) (RepG.int _)⟩
    · cases hg)
theorem de_sortI (hg : Gl X "sorted") (hm : X.mg "sorted" = none) (ha : DE X T H0 Γ a fa ka) (hs : starEach [a] X.env = (false, eval a X.env) :: starEach [] X.env := by rfl) : DE X T H0 Γ (.Call (.Name "sorted" po) [a] [] pos) (e1 gSortI fa) (.ol q) :=
  PE.wk (pe_callB cr_sortedI hg hm (by decide +kernel) (da_cons ha da_nil hs) (he := hs)) (callB_sem fun F O σ H ρ v x d Q R rv hg hq => by
    unfold gSortI at hg
    split at hg
    · rename_i ds
      cases h1 : intsOf ds with
      | none => rw [h1] at hg; cases hg
      | some ns =>
        rw [h1] at hg
        cases hg
        have := intsOf_eq h1
        subst this
        cases rv with
        | @lst a vs ds h1 h2 h3 =>
          rw [h3.ints] at h1
          refine ⟨a, ns, rfl, SqL.of h1, fun ns' p hp hw hn => ?_⟩
          rw [sortI_uniq hp hw]
          exact new_lst R (vals_reps _) hq p hn
    · cases hg)
theorem de_sortP (hg : Gl X "sorted") (hm : X.mg "sorted" = none) (ha : DE X T H0 Γ a fa ka) (hk : ka.its = some q := by rfl) (hs : starEach [a] X.env = (false, eval a X.env) :: starEach [] X.env := by rfl) : DE X T H0 Γ (.Call (.Name "sorted" po) [a] [] pos) (e1 gSortP fa) (.ol q) :=
  PE.wk (pe_callB (cr_sortT (d := 2) (B := 64) (by decide)) hg hm (by decide +kernel) (pa_cons ha pa_nil hs) (he := hs)) (callB_semK fun F O σ H ρ v x d Q R rv hg hq => by
    unfold gSortP at hg
    split at hg
    · rename_i ds
      cases h1 : pairsOf ds with
      | none => rw [h1] at hg; cases hg
      | some ps =>
        rw [h1] at hg
        simp only [Option.bind_some] at hg
        split at hg
        · rename_i hl
          cases hg
          have := pairsOf_eq h1
          subst this
          obtain ⟨a1, vs, rfl, h2, h3⟩ := Rp.lst R rv hk
          have tupOf : ∀ {v : V} {p : Int × Int}, Rq X.K T H0 q F v (pD p) → ∃ t, v = .ref t ∧ SqT X.K H t ([p.1, p.2].map V.int) := fun {v p} r => by
            cases r with
            | @tup a us ds h4 h5 =>
              refine ⟨a, rfl, ?_⟩
              cases h5 with
              | cons r1 r2 => cases r2 with
                | cons r2 r3 => cases r3; cases r1; cases r2; exact SqT.of (R.fh _ _ h4)
          refine ⟨a1, vs, rfl, SqL.of h2, by rw [h3.length, List.length_map]; exact hl.1, fun x hx => ?_, fun ys p hp hw hn => ?_⟩
          · obtain ⟨d, hd, rd⟩ := h3.mem hx
            obtain ⟨p, hp, rfl⟩ := List.mem_map.mp hd
            have ib := inB_iff.mp (List.all_eq_true.mp hl.2 p hp)
            obtain ⟨t, rfl, ht⟩ := tupOf rd
            refine ⟨[p.1, p.2], ⟨t, rfl, ht⟩, rfl, fun m hm => ?_⟩
            rcases List.mem_cons.mp hm with e | hm
            · subst e; exact ib.1
            · rw [List.mem_singleton] at hm; subst hm; exact ib.2
          · obtain ⟨es, h4, h5⟩ := RepsG.perm hp h3
            obtain ⟨qs, h6, rfl⟩ := perm_map (f := pD) (fun a b e => by unfold pD at e; injection e with e; injection e with e1 e2; injection e2 with e2 _; injection e1 with e1; injection e2 with e2; exact Prod.ext e1 e2) h4
            have hs : qs.Pairwise fun a b => codeP a ≤ codeP b := by
              clear hp h4 h6 hq hn h3
              induction qs generalizing ys with
              | nil => exact .nil
              | cons p qs ih =>
                cases h5 with
                | @cons v vs _ _ r rs =>
                  rw [List.pairwise_cons] at hw ⊢
                  refine ⟨fun b hb => ?_, ih _ hw.2 rs⟩
                  obtain ⟨i, hi⟩ := List.mem_iff_getElem?.mp hb
                  obtain ⟨w, h8, h9⟩ := rs.get (i := i) (d := pD b) (by rw [List.getElem?_map, hi]; rfl)
                  obtain ⟨t, rfl, ht⟩ := tupOf r
                  obtain ⟨t2, rfl, ht2⟩ := tupOf h9
                  have := hw.1 _ (List.mem_of_getElem? h8) [p.1, p.2] [b.1, b.2] ⟨t, rfl, ht⟩ ⟨t2, rfl, ht2⟩
                  rw [code_pair, code_pair] at this
                  exact this
            rw [sortP_uniq hl.2 h6 hs] at h5
            exact new_lst R h5 hq p hn
        · cases hg
    · cases hg)

end
end DL

namespace DL
open PySem PySem.Spec PyProof.Rows L2

section
variable {X : Cx} {T : Tb} {H0 : HZ} {Γ Γ1 Γn Γm : List Mode} {J : Jm} {e a b tg iter : Expr} {es : List Expr} {st : Stmt} {sts : List Stmt} {f g : SF} {fe fa fb fc : EF} {k ka kb kc : Knd} {pos po : Pos} {q p : Q3} {fi : List D → Option (List D)} {c : Bool} {fs : List D → Option (List D)}
/-! ### enumerate, reversed, range with a step -/
def enumD (ds : List D) : List D := ds.mapIdx fun i d => .tup [.int (i : Nat), d]
def iEn (f : EF) : List D → Option (List D) := fun ρ => (f ρ).bind fun d => match d with
  | .lst ds => some (enumD ds)
  | _ => none
def iRv (f : EF) : List D → Option (List D) := fun ρ => (f ρ).bind fun d => match d with
  | .lst ds => some ds.reverse
  | .tup ds => some ds.reverse
  | _ => none
theorem ite_ok {K : PySem.W.Frag} {a : Addr} {vs : List V} {ds : List D} {F1 H1 : Hp} (hs : SqL K F1 a vs) (rs : Rqs K T H0 q F1 vs ds) : ItOk K T H0 (Ite K a) (enumD ds) q c F1 H1 := fun i F2 H2 h1 h2 _ => by
  have hs2 : SqL K H2 a vs := (h1.trans h2).seq hs
  refine ⟨fun d hd => ?_, fun hl => ⟨vs, hs2, by rw [rs.length]; simpa [enumD] using hl⟩⟩
  unfold enumD at hd
  rw [List.getElem?_mapIdx] at hd
  cases h3 : ds[i]? with
  | none => rw [h3] at hd; cases hd
  | some d0 =>
    rw [h3] at hd
    cases hd
    obtain ⟨v, hv, rv⟩ := rs.get h3
    refine ⟨⟨vs, v, hs2, hv⟩, fun x H3 ⟨t, y, e1, e2, e3, e4⟩ => ?_⟩
    subst e1; subst e3
    have := e4 vs hs2
    rw [hv] at this; cases this
    have f2 : F2 t = none := h2.free e2
    have sH : Same H2 (upd H2 t (.tup [.int (i : Nat), v])) := fun b u e => by rw [upd_ne (ne_of_none e e2)]; exact e
    have sF : Same F2 (upd F2 t (.tup [.int (i : Nat), v])) := fun b u e => by rw [upd_ne (ne_of_none e f2)]; exact e
    refine ⟨sH, upd F2 t (.tup [.int (i : Nat), v]), sF, fun b u e => ?_, ⟨fun b hb hh => ?_, fun n => n.upd rfl⟩, ?_⟩
    · by_cases hb : b = t
      · subst hb; rw [upd_same] at e ⊢; exact e
      · rw [upd_ne hb] at e ⊢; exact h2 _ _ e
    · rw [upd_ne (fun z => by subst z; obtain ⟨_, z, _⟩ := hh; rw [e2] at z; cases z)]; exact hb
    · exact RepG.tup upd_same (.cons (.int _) (.cons ((h1.trans sF).rq rv) .nil))
theorem seqF {K : PySem.W.Frag} {F H : Hp} {O : Own} {σ : L2.St} {ρ : List D} {v : V} {ds : List D} (R : Rl K T H0 Γ F O σ H ρ) (h : Rp K T H0 F H O k v (.lst ds)) (hk : k = .q q ∨ k = .fl q) : ∃ a vs, v = .ref a ∧ SqL K F a vs ∧ Rqs K T H0 q F vs ds := by
  rcases hk with rfl | rfl
  · cases h with
    | @lst a vs ds h1 h2 h3 => exact ⟨a, vs, rfl, .inl (.inl h1), h3⟩
  · obtain ⟨a, vs, ds, rfl, e, h1, h3⟩ := h
    cases e
    exact ⟨a, vs, rfl, .inl (.inl h1), h3⟩
theorem di_enum {elts : List Expr} {kk : Nat} {tpos : Pos} (hg : Gl X "enumerate") (hm : X.mg "enumerate" = none) (he : DE X T H0 Γ e fe k) (hk : k = .q q ∨ k = .fl q := by first | exact .inl rfl | exact .inr rfl) (hs : starEach [e] X.env = [(false, eval e X.env)] := by rfl) :
    DI X T H0 Γ (.Tuple elts kk tpos) (.Call (.Name "enumerate" po) [e] [] pos) (iEn fe) q c :=
  PI.wk (pi_enum hg hm (pa_cons he pa_nil hs) hs) fun σ H R ⟨F, O, ρ, items, r, hf, hq⟩ => by
    unfold iEn at hf
    cases h1 : fe ρ with
    | none => rw [h1] at hf; cases hf
    | some d =>
      rw [h1] at hf
      simp only [Option.bind_some] at hf
      split at hf
      · cases hf
        refine ⟨F, O, ρ, _, r, h1, fun F' H' v R' s s' rv => ?_⟩
        obtain ⟨a, vs, rfl, h2, h3⟩ := seqF R' rv hk
        exact ⟨a, vs, rfl, R'.fh.seq h2, hq F' H' _ R' s s' (ite_ok h2 h3)⟩
      · cases hf
theorem itv_ok {K : PySem.W.Frag} {a : Addr} {vs : List V} {ds : List D} {F1 H1 : Hp} (hs : SqL K F1 a vs) (rs : Rqs K T H0 q F1 vs ds) : ItOk K T H0 (Itv K a vs.length) ds.reverse q c F1 H1 := fun i F2 H2 h1 h2 _ => by
  have hs2 : SqL K H2 a vs := (h1.trans h2).seq hs
  have hl := rs.length
  refine ⟨fun d hd => ?_, fun hl2 => by show vs.length ≤ i; rw [List.length_reverse] at hl2; omega⟩
  have hi : i < ds.length := by have := (List.getElem?_eq_some_iff.mp hd).1; rwa [List.length_reverse] at this
  rw [List.getElem?_reverse hi] at hd
  obtain ⟨v, hv, rv⟩ := rs.get hd
  rw [← hl] at hv
  refine ⟨⟨by omega, vs, v, hs2, hv⟩, fun x H3 ⟨e1, e2⟩ => ?_⟩
  subst e1
  have := e2 vs hs2
  rw [hv] at this; cases this
  exact ⟨.refl _, F2, .refl _, h2, ⟨fun b h _ => h, fun n => n⟩, h1.rq rv⟩
theorem itvT_ok {K : PySem.W.Frag} {a : Addr} {vs : List V} {ds : List D} {F1 H1 : Hp} (hs : SqT K F1 a vs) (rs : Rqs K T H0 q F1 vs ds) : ItOk K T H0 (RT.ItvT K a vs.length) ds.reverse q c F1 H1 := fun i F2 H2 h1 h2 _ => by
  have hs2 : SqT K H2 a vs := same_sqT (h1.trans h2) hs
  have hl := rs.length
  refine ⟨fun d hd => ?_, fun hl2 => by show vs.length ≤ i; rw [List.length_reverse] at hl2; omega⟩
  have hi : i < ds.length := by have := (List.getElem?_eq_some_iff.mp hd).1; rwa [List.length_reverse] at this
  rw [List.getElem?_reverse hi] at hd
  obtain ⟨v, hv, rv⟩ := rs.get hd
  rw [← hl] at hv
  refine ⟨⟨by omega, vs, v, hs2, hv⟩, fun x H3 ⟨e1, e2⟩ => ?_⟩
  subst e1
  have := e2 vs hs2
  rw [hv] at this; cases this
  exact ⟨.refl _, F2, .refl _, h2, ⟨fun b h _ => h, fun n => n⟩, h1.rq rv⟩
theorem di_rev (hg : Gl X "reversed") (hm : X.mg "reversed" = none) (he : DE X T H0 Γ e fe k) (hk : k = .q q ∨ k = .fl q := by first | exact .inl rfl | exact .inr rfl) (hs : starEach [e] X.env = (false, eval e X.env) :: starEach [] X.env := by rfl) :
    DI X T H0 Γ tg (.Call (.Name "reversed" po) [e] [] pos) (iRv fe) q c :=
  PI.wk (RT.pi_revA hg hm he hs) fun σ H R ⟨F, O, ρ, items, r, hf, hq⟩ => by
    unfold iRv at hf
    cases h1 : fe ρ with
    | none => rw [h1] at hf; cases hf
    | some d =>
      rw [h1] at hf
      simp only [Option.bind_some] at hf
      split at hf
      · cases hf
        refine ⟨F, O, ρ, _, r, h1, fun F' H' v R' s s' rv => ?_⟩
        obtain ⟨a, vs, rfl, h2, h3⟩ := seqF R' rv hk
        exact ⟨a, vs, rfl, .inl ⟨R'.fh.seq h2, hq F' H' _ R' s s' (itv_ok h2 h3)⟩⟩
      · cases hf
        refine ⟨F, O, ρ, _, r, h1, fun F' H' v R' s s' rv => ?_⟩
        rcases hk with rfl | rfl
        · cases rv with
          | @tup a vs ds h2 h3 => exact ⟨a, vs, rfl, .inr ⟨SqT.of (R'.fh _ _ h2), hq F' H' _ R' s s' (itvT_ok (SqT.of h2) h3)⟩⟩
        · obtain ⟨a, vs, ds, _, e, _⟩ := rv; cases e
      · cases hf
def rangeC (lo c : Int) (n : Nat) : List D := (List.range n).map fun i => D.int (lo + (i : Nat) * c)
theorem itc_ok {K : PySem.W.Frag} {lo s : Int} {n : Nat} {F1 H1 : Hp} : ItOk K T H0 (Itc lo s n) (rangeC lo s n) q c F1 H1 := fun i F2 H2 h1 h2 _ => by
  refine ⟨fun d hd => ?_, fun hl => by
    have e : (rangeC lo s n).length = n := by simp [rangeC]
    rw [e] at hl; exact hl⟩
  unfold rangeC at hd
  rw [List.getElem?_map] at hd
  by_cases hi' : i < n
  · rw [List.getElem?_range hi'] at hd
    cases hd
    refine ⟨hi', fun x H3 ⟨e1, e2⟩ => ?_⟩
    subst e1; subst e2
    exact ⟨.refl _, F2, .refl _, h2, ⟨fun b h _ => h, fun n => n⟩, .int _⟩
  · rw [List.getElem?_eq_none (by simpa using hi')] at hd
    cases hd
/-- range(i, j, -1) -/
def iRgN (f g : EF) : List D → Option (List D) := fun ρ => (f ρ).bind fun d => (g ρ).bind fun d' => match d, d' with
  | .int i, .int j => if small 62 i ∧ small 62 j then some (rangeC i (-1) (i - j).toNat) else none
  | _, _ => none
theorem di_rangeN {m1 : Expr} (hg : Gl X "range") (hm : X.mg "range" = none) (ha : DE X T H0 Γ a fa ka) (hb : DE X T H0 Γ b fb kb) (hc : DE X T H0 Γ m1 (e1 gNeg (eK (.int 1))) kc) (hs : starEach [a, b, m1] X.env = (false, eval a X.env) :: starEach [b, m1] X.env := by rfl) (hs2 : starEach [b, m1] X.env = (false, eval b X.env) :: starEach [m1] X.env := by rfl) (hs3 : starEach [m1] X.env = (false, eval m1 X.env) :: starEach [] X.env := by rfl) (hpl : (backTo pos (starEach [b, m1] X.env)).any (·.1) = false := by rfl) :
    DI X T H0 Γ tg (.Call (.Name "range" po) [a, b, m1] [] pos) (iRgN fa fb) q c :=
  PI.wk (pi_range3 hg hm (da_cons ha (da_cons hb (da_cons hc da_nil hs3) hs2) hs) hs hpl) fun σ H R ⟨F, O, ρ, items, r, hf, hq⟩ => by
    unfold iRgN at hf
    cases h1 : fa ρ with
    | none => rw [h1] at hf; cases hf
    | some d =>
      rw [h1] at hf
      simp only [Option.bind_some] at hf
      cases h2 : fb ρ with
      | none => rw [h2] at hf; cases hf
      | some d' =>
        rw [h2] at hf
        simp only [Option.bind_some] at hf
        split at hf
        · split at hf
          · rename_i i j hb
            cases hf
            refine ⟨F, O, ρ, [.int i, .int j, .int (-1)], r, by unfold aCons; rw [h1]; simp only [Option.bind_some]; rw [h2]; rfl, fun F' H' vs R' s s' rv => ?_⟩
            cases rv with
            | cons r1 r2 => cases r2 with
              | cons r2 r3 => cases r3 with
                | cons r3 r4 =>
                  cases r4; cases r1; cases r2; cases r3
                  exact ⟨i, j, -1, _, rfl, RgC.neg (small62 hb.1).1 (small62 hb.1).2 (small62 hb.2).1 (small62 hb.2).2, hq F' H' _ R' s s' itc_ok⟩
          · cases hf
        · cases hf
end
end DL

namespace DL
open PySem PySem.Spec PyProof.Rows L2
theorem rblk {k : Nat} {X : Cx} {s : Shared} {H : Hp} {scope : Scope} {cenv : Env} {fp : List Addr} (h : Room k X.A) : Room k (X.blk s H scope cenv fp).A := h
def D.at : D → Bool
  | .int _ => true
  | .bl _ => true
  | .non => true
  | .str _ => true
  | _ => false
def eLf (f : EF) : EF := fun ρ => (f ρ).bind fun d => match d with
  | .lst ds => if ds.all D.at = true then some (.lst ds) else none
  | _ => none
theorem RepG.at {K : PySem.W.Frag} {T : Tb} {N N' : Addr → Prop} {F F' : Hp} {v : V} {d : D} (h : RepG K T N F v d) (hd : d.at = true) : RepG K T N' F' v d := by
  cases h <;> first | (cases hd; done) | constructor
theorem RepsG.ats {K : PySem.W.Frag} {T : Tb} {N N' : Addr → Prop} {F F' : Hp} : ∀ {vs : List V} {ds : List D}, RepsG K T N F vs ds → ds.all D.at = true → RepsG K T N' F' vs ds
  | _, _, .nil, _ => .nil
  | _, _, .cons r rs, h => by
    rw [List.all_cons, Bool.and_eq_true] at h
    exact .cons (r.at h.1) (RepsG.ats rs h.2)
section
variable {X : Cx} {T : Tb} {H0 : HZ} {Γ Γ1 Γn Γm : List Mode} {J : Jm} {e a b tg iter : Expr} {es : List Expr} {st : Stmt} {sts : List Stmt} {f g : SF} {fe fa fb fc : EF} {k ka kb kc : Knd} {pos po : Pos} {q p : Q3} {fi : List D → Option (List D)} {c : Bool} {fs : List D → Option (List D)}
/-- an item of a global that is a written tuple of ints -/
theorem de_gtupK {x : Str} {ns : List Int} {p : Addr} (hd' : (x == ("__debug__" : Str)) = false) (hg : Gl X x) (hm : X.mg x = some (.ref p)) (r : TupK X.K p ns) (hb : DE X T H0 Γ b fb kb) (hs : PlainIx b := by exact fun _ _ => rfl) : DE X T H0 Γ (.Subscript (.Name x po) b pos) (e2 gIxT (eK (.tup (ns.map D.int))) fb) (.q q) :=
  PE.wk (pe_ix ix_tup (pe_glob (v := .ref p) hg hm rfl hd') hb hs) fun σ H Q ⟨F, O, ρ, d, R, hf, hq⟩ => by
    unfold e2 eK at hf
    simp only [Option.bind_some] at hf
    cases h1 : fb ρ with
    | none => rw [h1] at hf; cases hf
    | some y =>
      rw [h1] at hf
      simp only [Option.bind_some] at hf
      refine ⟨F, O, ρ, y, R, h1, fun F1 H1 u R1 s1 t1 ru => ?_⟩
      unfold gIxT at hf
      split at hf
      · rename_i h2
        cases h2
        obtain ⟨w, h4, h5⟩ := RepsG.at (K := X.K) (T := T) (N := NK H0 q) (F := F1) (vals_reps ns) hf
        exact ⟨p, _, _, w, rfl, ru.int, .inr r, h4, hq F1 H1 w R1 s1 t1 h5⟩
      · cases hf
theorem de_lB (h : DE X T H0 Γ e fe k) : DE X T H0 Γ e (eLf fe) (.bl q) := PE.wk h fun σ H Q ⟨F, O, ρ, d, R, hf, hq⟩ => by
  unfold eLf at hf
  cases h1 : fe ρ with
  | none => rw [h1] at hf; cases hf
  | some x =>
    rw [h1] at hf
    simp only [Option.bind_some] at hf
    refine ⟨F, O, ρ, x, R, h1, fun F1 H1 v R1 s1 t1 r1 => hq F1 H1 v R1 s1 t1 ?_⟩
    have r := R1.toB r1
    split at hf
    · split at hf
      · rename_i hl
        cases hf
        cases r with
        | lst h2 _ h3 => exact ⟨_, _, _, rfl, rfl, h2, h3.ats hl⟩
      · cases hf
    · cases hf
end
end DL

namespace DL
open PySem PySem.Spec PyProof.Rows L2
/-- x not in (a, b, ..) of ints -/
def gNotInT (x y : D) : Option D := match x, y with
  | .int i, .tup ds => (intsOf ds).map fun ns => .bl (!ns.any fun j => decide (j = i))
  | _, _ => none
/-- [a, b, ..] * n -/
def gRep (x y : D) : Option D := match x, y with
  | .lst ds, .int i => if small 62 i ∧ ds.length * i.toNat ≤ 1000000 then some (.lst (List.replicate i.toNat ds).flatten) else none
  | _, _ => none
theorem RepsG.rep {K : PySem.W.Frag} {T : Tb} {N : Addr → Prop} {F : Hp} {vs : List V} {ds : List D} (h : RepsG K T N F vs ds) : ∀ n : Nat, RepsG K T N F (List.replicate n vs).flatten (List.replicate n ds).flatten
  | 0 => .nil
  | n + 1 => by
    rw [List.replicate_succ, List.replicate_succ, List.flatten_cons, List.flatten_cons]
    exact h.append (RepsG.rep h n)
section
variable {X : Cx} {T : Tb} {H0 : HZ} {Γ Γ1 Γn Γm : List Mode} {J : Jm} {e a b tg iter : Expr} {es : List Expr} {st : Stmt} {sts : List Stmt} {f g : SF} {fe fa fb fc : EF} {k ka kb kc : Knd} {pos po : Pos} {q p : Q3} {fi : List D → Option (List D)} {c : Bool} {fs : List D → Option (List D)}
theorem cs_notInT {K : PySem.W.Frag} (hp : ka.pers = true) : ∀ σ H Q, tD K T H0 Γ (e2 gNotInT fa fb) (.q q) σ H Q → tOp (rIn K true) (tD K T H0 Γ fa ka) (tD K T H0 Γ fb kb) σ H Q := bin_sem hp fun F O σ H ρ v u x y d Q R rv ru hg hq => by
  unfold gNotInT at hg
  split at hg
  · rename_i i ds
    cases h1 : intsOf ds with
    | none => rw [h1] at hg; cases hg
    | some ns =>
      rw [h1] at hg
      cases hg
      have := intsOf_eq h1
      subst this
      obtain ⟨p, vs, rfl, h2, h3, _⟩ := Rp.tup R ru
      have e := h3.ints
      subst e
      rw [rv.int]
      refine ⟨p, _, rfl, .inr h2, rfl, ?_, ?_⟩
      · rw [List.all_map]; exact List.all_eq_true.mpr fun _ _ => rfl
      · have : inV (V.int i) (ns.map V.int) = ns.any fun j => decide (j = i) := by
          unfold inV
          rw [List.any_map]
          congr 1
        rw [if_pos rfl, this]
        exact hq F H _ R (.refl _) (.refl _) (RepG.bl _)
  · cases hg
theorem de_rep (ha : DE X T H0 Γ a fa ka) (hb : DE X T H0 Γ b fb kb) (hka : ka.its = some q := by rfl) (hp : ka.pers = true := by rfl) : DE X T H0 Γ (.BinOp a .Mult b pos) (e2 gRep fa fb) (.ol q) :=
  PE.wk (pe_op op_rep ha hb) (bin_sem hp fun F O σ H ρ v u x y d Q R rv ru hg hq => by
    unfold gRep at hg
    split at hg
    · split at hg
      · rename_i i hl
        cases hg
        obtain ⟨a1, vs, rfl, h1, h2⟩ := Rp.lst R rv hka
        have h63 : (2 : Int) ^ 63 = 9223372036854775808 := by decide
        have h62 : (2 : Int) ^ 62 = 4611686018427387904 := by decide
        have hs := small62 hl.1
        refine ⟨a1, i, vs, rfl, ru.int, h1, by omega, by omega, by rw [h2.length]; exact big6 hl.2, fun p hp => new_lst R (RepsG.rep h2 _) hq p hp⟩
      · cases hg
    · cases hg)
end
end DL

namespace PySem
open PySem PySem.Spec PyProof.Rows L2
section
variable {P : Program} {w : World} {A : Around} {E : Value → Shared → Prop} {s : Shared}
/-- an empty set, just made -/
abbrev newS (w : World) : Obj := { cls := .type "set", dict := none, data := .set #[] 0 (.fresh 0 0 (!w.params.followText "set-order")) }
theorem IsList.pushed {h : Heap} {l : Addr} {xs : Array Value} (i : h.IsList l xs) (o : Obj) : (h.push o).IsList l xs ∧ l < h.objs.size := by
  refine ⟨i.push o, ?_⟩
  obtain ⟨u, e, _⟩ := i
  exact Heap.lt_size e
set_option maxHeartbeats 3200000 in
/-- set(l) of a list of ints, its table told -/
theorem set_of_ints {l : Addr} {xs : Array Value} (ks : List Int) {Q : Value → Shared → Prop} (calm : A.handled = none) (isl : s.heap.IsList l xs) (ia : IntsAre xs.toList ks) (few : ks.length + 1 < scanBound)
    (go : ∀ (hp : Heap) (t c : Nat), SetR w hp s.heap.objs.size (fun j => decide (j ∈ ks)) c → c ≤ ks.length → (∀ b o, s.heap.get? b = some o → hp.get? b = some o) → Q (.ref s.heap.objs.size) { s with heap := hp, toks := t }) :
    wpAny (model P w) A (call (.type "set") [.ref l]) Q E s := by
  have xsz : xs.size = ks.length := by
    have q := IntsAre.length ia
    rwa [Array.length_toList] at q
  obtain ⟨c, tl, mro⟩ := F.called_set.mro
  have fMade := F.called_set.made
  have fSub := F.called_set.sub
  refine wpAny_call (codeAny_of_tree ?_)
  show wpAny _ _ (callAny (.type "set") _) _ _ _
  refine wpAny_pure ⟨Code.quiet_builtin _ (by decide +kernel), codeAny_builtin F.entry_type_call ?_⟩
  rw [Around.under_plain (weight_type_call_type "set" [.ref l] []) rfl]
  have fNt := F.called_set.notType
  have fCc := F.called_set.canCreate
  have fTc := F.typeCall_set_1 (.ref l)
  repeat (any_goals (first | assumption | wp_step))
  refine codeAny_mono (code_set_led1 (.ref l) (E := E) (Q₁ := fun ob t₁ => ob = .ref s.heap.objs.size ∧ t₁ = { s with heap := s.heap.push (newS w) }) ⟨rfl, rfl⟩) fun r t₁ hr => ?_
  cases r with
  | error e => exact hr
  | ok fl =>
    cases fl with
    | ret ob =>
      obtain ⟨rfl, rfl⟩ := hr
      have atS : (s.heap.push (newS w)).get? s.heap.objs.size = some (newS w) := Heap.get?_push_size _ rfl
      have tyS : Shared.TypeIs { s with heap := s.heap.push (newS w) } (.ref s.heap.objs.size) "set" := ⟨_, atS, rfl⟩
      have fLk := F.called_set.init.lookup
      have fBd := F.called_set.init.bind (.ref s.heap.objs.size)
      repeat (any_goals (first | assumption | wp_step))
      refine codeAny_mono (codeAny_call_builtin (R := wants (fun r t₂ => r = .none ∧ ∃ hp tk c, t₂ = { s with heap := hp, toks := tk } ∧ SetR w hp s.heap.objs.size (fun j => decide (j ∈ ks)) c ∧ c ≤ ks.length ∧
          (∀ b o, s.heap.get? b = some o → hp.get? b = some o)) E) F.called_set.init.plain F.entry_set_init (check_set_init_1 tyS ?_)) fun r₂ t₂ hr₂ => ?_
      · obtain ⟨isl2, lt1⟩ := IsList.pushed isl (newS w)
        have isl3 := isl2
        obtain ⟨ou, at1, k1, nn, k2⟩ := isl3
        obtain ⟨uc, ud, ut, us⟩ := ou
        simp only at k1 k2
        subst k1; subst k2
        have fL1 := F.sub_list_set
        have fL2 := F.sub_list_frozenset
        have fL3 : (Value.type "list" == Value.type "dict") = false := by decide
        unfold Builtin.«set.__init__» noKeywords Builtin.Frozenset.updateFrom
        generalize hPI : pyIter = PI
        wp_walk
        subst hPI
        refine wpAny_pyIter_list isl2 ?_
        refine wpAny_bind (wpAny_runValue ?_)
        have calm3 : A.in1.in1.in1.handled = none := by simp [calm]
        have sz1 : (s.heap.push (newS w)).objs.size = s.heap.objs.size + 1 := Heap.size_push ..
        have ne1 : l ≠ (s.heap.push (newS w)).objs.size := by rw [sz1]; exact Nat.ne_of_lt (Nat.lt_succ_of_lt lt1)
        have nf : s.heap.objs.size ∉ [(s.heap.push (newS w)).objs.size, l] := by
          rw [sz1]
          intro z
          simp only [List.mem_cons, List.not_mem_nil, or_false] at z
          rcases z with z | z
          · exact Nat.ne_of_lt (Nat.lt_succ_self _) z
          · exact Nat.ne_of_gt lt1 z
        have vals : ∀ (i : Nat) (v : Value), xs[i]? = some v → ∃ k t, ks[i]? = some k ∧ v = .int k t := fun i v hv => by
          have il : i < ks.length := by rw [← xsz]; exact (Array.getElem?_eq_some_iff.mp hv).1
          obtain ⟨t, e⟩ := PyProof.Rows.IntsAre.int_at ia i v (by rw [Array.getElem?_toList]; exact hv)
          rw [List.getD_eq_getElem?_getD, List.getElem?_eq_getElem il] at e
          exact ⟨ks[i], t, List.getElem?_eq_getElem il, e⟩
        refine set_update_ints ((Walks.list calm3 _ l ne1 xs).toS) s.heap.objs.size nf ks xsz few vals (xs.size - 0) 0 _ (by omega) (Nat.zero_le _) ⟨⟨_, Heap.get?_push_size _ rfl, rfl, rfl⟩, (isl2.push _)⟩ ?z0 ?zR
        case z0 => exact ⟨0, Nat.le_refl 0, setR_new_at (Heap.get?_push_of_some _ atS)⟩
        case zR =>
          intro t' c' hm hc' hS'
          obtain ⟨hp, g2, d2, tk2, o2⟩ := t'
          have eg : g2 = s.gens := hm.gens
          have ed : d2 = s.drawn := hm.drawn
          have eo : o2 = s.os := hm.os
          subst eg; subst ed; subst eo
          show wpAny _ _ _ _ _ _
          refine wpAny_pure ?_
          show wpAny _ _ (ret Value.none) _ _ _
          rw [xsz] at hc'
          refine wpAny_pure ⟨rfl, hp, tk2, c', rfl, hS', hc', fun b o e => ?_⟩
          have lb : b < s.heap.objs.size := Heap.lt_size e
          refine hm.heap b o (fun z => ?_) (Heap.get?_push_of_some _ (Heap.get?_push_of_some _ e))
          rw [sz1] at z
          simp only [List.mem_cons, List.not_mem_nil, or_false] at z
          rcases z with z | z
          · exact Nat.ne_of_lt lb z
          · exact Nat.ne_of_lt (Nat.lt_succ_of_lt lb) z
      · cases r₂ with
        | error e => exact hr₂
        | ok fl₂ =>
          cases fl₂ with
          | ret r =>
            obtain ⟨rfl, hp, tk, c', rfl, hS', hc', hk'⟩ := hr₂
            repeat (any_goals (first | assumption | wp_step))
            exact go _ _ _ hS' hc' hk'
          | _ => exact hr₂.elim
    | _ => exact hr.elim
end
end PySem
namespace DL
open PySem PySem.Spec PyProof.Rows L2
theorem sub_len {α : Type} [DecidableEq α] : ∀ {xs ys : List α}, xs.Nodup → (∀ x ∈ xs, x ∈ ys) → xs.length ≤ ys.length
  | [], _, _, _ => Nat.zero_le _
  | x :: xs, ys, hn, hs => by
    obtain ⟨h1, h2⟩ := List.nodup_cons.mp hn
    have hx := hs x List.mem_cons_self
    have ih := sub_len (ys := ys.erase x) h2 fun y hy => (List.mem_erase_of_ne (show y ≠ x from fun e => h1 (by rw [← e]; exact hy))).mpr (hs y (List.mem_cons_of_mem _ hy))
    rw [List.length_erase_of_mem hx] at ih
    have := List.length_pos_of_mem hx
    rw [List.length_cons]; omega
def ints0 (b : Nat) : List Int := (List.range b).map fun (i : Nat) => (i : Int)
theorem ints0_mem {b : Nat} {i : Int} (h0 : 0 ≤ i) (h1 : i < b) : i ∈ ints0 b := List.mem_map.mpr ⟨i.toNat, List.mem_range.mpr (by omega), by omega⟩
theorem setR_few {w : World} {h : Heap} {a : Addr} {ns : List Int} {c b : Nat} (R : SetR w h a (fun j => decide (j ∈ ns)) c) (hb : ∀ x ∈ ns, 0 ≤ x ∧ x < b) : c ≤ b := by
  obtain ⟨o, es, ep, t, _, _, _, _, nd, hm, _, _, hn, _⟩ := R
  have h1 := sub_len (ys := ints0 b) nd fun x hx => by
    have hx := of_decide_eq_true ((hm x).mpr hx)
    exact ints0_mem (hb x hx).1 (hb x hx).2
  rw [List.length_map, Array.length_toList, hn] at h1
  simpa [ints0] using h1
/-- set(xs), a list of ints -/
def rSetL (K : PySem.W.Frag) (w : World) : List V → Hp → VK → Prop := fun xs H Q => ∃ (l : Addr) (ns : List Int), xs = [V.ref l] ∧ SqL K H l (ns.map V.int) ∧ ns.length ≤ 4000 ∧
  ∀ (p : Addr) (c : Nat), H p = none → c ≤ ns.length → (∀ b : Nat, (∀ x ∈ ns, 0 ≤ x ∧ x < b) → c ≤ b) → Q (.ref p) (upd H p (SetO w p (fun j => decide (j ∈ ns)) c))
theorem cr_setL {X : Cx} (hc : X.calm = true) : CallR X (.type "set") (rSetL X.K X.w) := by
  intro pins s σ H xs us Q I r h
  obtain ⟨l, ns, rfl, hl, hlen, q⟩ := h
  rw [Vals.ref1 r]
  obtain ⟨its, r1, pl, hz⟩ := I.list hl
  refine set_of_ints ns (I.ok.hd hc) pl.isList (by simpa using RZ.intsAre_vals r1) (by unfold scanBound; omega) fun hp t c hS hcl hk => ?_
  exact ⟨.ref _, upd H s.heap.objs.size (SetO X.w s.heap.objs.size (fun j => decide (j ∈ ns)) c), I.laid (t' := t) hk (Nat.le_refl _) (setO_new hS), rfl, q _ c (I.hok.fresh (Nat.le_refl _)) hcl fun b hb => setR_few hS hb⟩
/-- the numbers of a list, rising, each once -/
def insU (x : Int) : List Int → List Int
  | [] => [x]
  | y :: r => if x < y then x :: y :: r else if x = y then y :: r else y :: insU x r
def sset : List Int → List Int
  | [] => []
  | x :: r => insU x (sset r)
theorem insU_mem (x z : Int) : ∀ l, z ∈ insU x l ↔ z = x ∨ z ∈ l
  | [] => by simp [insU]
  | y :: r => by
    unfold insU
    split
    · simp
    · split
      · rename_i h; subst h; simp
      · rw [List.mem_cons, insU_mem x z r, List.mem_cons]
        constructor
        · rintro (h | h | h) <;> simp [h]
        · rintro (h | h | h) <;> simp [h]
theorem sset_mem (z : Int) : ∀ l, z ∈ sset l ↔ z ∈ l
  | [] => Iff.rfl
  | x :: r => by unfold sset; rw [insU_mem, sset_mem z r, List.mem_cons]
theorem insU_pw (x : Int) : ∀ l, l.Pairwise (· < ·) → (insU x l).Pairwise (· < ·)
  | [], _ => by simp [insU]
  | y :: r, h => by
    have h' := List.pairwise_cons.mp h
    unfold insU
    split
    · rename_i hx
      exact List.pairwise_cons.mpr ⟨fun z hz => by
        rcases List.mem_cons.mp hz with e | hz
        · rw [e]; exact hx
        · exact Int.lt_trans hx (h'.1 z hz), h⟩
    · split
      · exact h
      · refine List.pairwise_cons.mpr ⟨fun z hz => ?_, insU_pw x r h'.2⟩
        rcases (insU_mem x z r).mp hz with e | hz
        · rw [e]; omega
        · exact h'.1 z hz
theorem sset_pw : ∀ l, (sset l).Pairwise (· < ·)
  | [] => .nil
  | x :: r => insU_pw x _ (sset_pw r)
/-- lists that rise and have the same members are the same -/
theorem pw_ext : ∀ {xs ys : List Int}, xs.Pairwise (· < ·) → ys.Pairwise (· < ·) → (∀ z, z ∈ xs ↔ z ∈ ys) → xs = ys
  | [], [], _, _, _ => rfl
  | [], y :: ys, _, _, h => absurd ((h y).mpr List.mem_cons_self) List.not_mem_nil
  | x :: xs, [], _, _, h => absurd ((h x).mp List.mem_cons_self) List.not_mem_nil
  | x :: xs, y :: ys, h1, h2, h => by
    have p1 := List.pairwise_cons.mp h1
    have p2 := List.pairwise_cons.mp h2
    have e : x = y := by
      have a := (h x).mp List.mem_cons_self
      have b := (h y).mpr List.mem_cons_self
      rcases List.mem_cons.mp a with a | a
      · exact a
      · rcases List.mem_cons.mp b with b | b
        · exact b.symm
        · have := p2.1 x a; have := p1.1 y b; omega
    subst e
    congr 1
    refine pw_ext p1.2 p2.2 fun z => ?_
    have hz := h z
    rw [List.mem_cons, List.mem_cons] at hz
    constructor
    · intro m
      rcases hz.mp (.inr m) with e | m'
      · have := p1.1 z m; omega
      · exact m'
    · intro m
      rcases hz.mpr (.inr m) with e | m'
      · have := p2.1 z m; omega
      · exact m'
def fewI (ns : List Int) : Bool := decide (ns.length < 64) || ns.all fun x => decide (0 ≤ x) && decide (x < 63)
def gSSet (x : D) : Option D := match x with
  | .lst ds => (intsOf ds).bind fun ns => if ns.length ≤ 4000 ∧ fewI ns = true then some (.lst ((sset ns).map .int)) else none
  | _ => none
section
variable {X : Cx} {T : Tb} {H0 : HZ} {Γ : List Mode} {a : Expr} {fa : EF} {ka : Knd} {pos po p2 q2 : Pos} {q : Q3}
/-- sorted(set(xs)), a list of ints -/
theorem de_sset (hc : X.calm = true) (hg : Gl X "sorted") (hm : X.mg "sorted" = none) (hg2 : Gl X "set") (hm2 : X.mg "set" = none) (ha : DE X T H0 Γ a fa ka)
    (hs : starEach [a] X.env = (false, eval a X.env) :: starEach [] X.env := by rfl) (hs2 : starEach [Expr.Call (.Name "set" p2) [a] [] q2] X.env = (false, eval (Expr.Call (.Name "set" p2) [a] [] q2) X.env) :: starEach [] X.env := by rfl) :
    DE X T H0 Γ (.Call (.Name "sorted" po) [.Call (.Name "set" p2) [a] [] q2] [] pos) (e1 gSSet fa) (.ol q) :=
  PE.wk (pe_callB (cr_sortedSet hc) hg hm (by decide +kernel) (pa_cons (pe_callTy (cr_setL hc) hg2 hm2 boot_set (pa_cons ha pa_nil hs) (he := hs)) pa_nil hs2) (he := hs2)) fun σ H Q ⟨F, O, ρ, d, R, hf, hq⟩ => by
    unfold e1 at hf
    cases h1 : fa ρ with
    | none => rw [h1] at hf; cases hf
    | some x =>
      rw [h1] at hf
      simp only [Option.bind_some] at hf
      refine ⟨F, O, ρ, x, R, h1, fun F1 H1 v R1 s1 t1 r1 => ?_⟩
      have rv := R1.toB r1
      unfold gSSet at hf
      split at hf
      · rename_i ds
        cases h2 : intsOf ds with
        | none => rw [h2] at hf; cases hf
        | some ns =>
          rw [h2] at hf
          simp only [Option.bind_some] at hf
          split at hf
          · rename_i hl
            cases hf
            have := intsOf_eq h2
            subst this
            cases rv with
            | @lst l vs ds h3 h4 h5 =>
              rw [h5.ints] at h3
              refine ⟨l, ns, rfl, SqL.of h3, hl.1, fun p c hp hcl hcb => ?_⟩
              have h64 : c < 64 := by
                have := hl.2
                unfold fewI at this
                rw [Bool.or_eq_true, decide_eq_true_eq, List.all_eq_true] at this
                rcases this with h | h
                · omega
                · have := hcb 63 fun x hx => by have := h x hx; simpa using this
                  omega
              refine ⟨p, _, c, rfl, upd_same, h64, fun ys u hpw hmem hlen hu => ?_⟩
              obtain ⟨R2, t2⟩ := R1.junk (o := SetO X.w p (fun j => decide (j ∈ ns)) c) hp
              have e : ys = sset ns := pw_ext hpw (sset_pw ns) fun z => by rw [hmem, sset_mem, decide_eq_true_eq]
              rw [e]
              exact new_lst R2 (vals_reps (sset ns)) (fun F' H' w R' s' t' r' => hq F' H' w R' (s1.trans s') ((t1.trans t2).trans t') r') u hu
          · cases hf
      · cases hf
end
end DL

namespace PySem
open PySem PySem.Spec PyProof.Rows L2
section
variable {P : Program} {w : World} {A : Around} {E : Value → Shared → Prop} {s : Shared}
/-- a tuple's items, gathered -/
theorem gather_tup {l : Addr} {o : Obj} {xs : Array Value} {n : Nat} {Q : List Value → Shared → Prop} (at_ : s.heap.get? l = some o) (ty : o.cls = .type "tuple") (da : o.data = .seq xs n) (fit : xs.size ≤ sizeLine)
    (go : ∀ h' : Heap, h'.objs.size = s.heap.objs.size + 1 → (∀ b u, s.heap.get? b = some u → h'.get? b = some u) → Q xs.toList { s with heap := h' }) : wpAny (model P w) A (collect (.ref l)) Q E s := by
  have up : ∀ b u, s.heap.get? b = some u → (s.heap.push (seqObj "list" #[] 0)).get? b = some u := fun b u z => Heap.get?_push_of_some _ z
  have new : (s.heap.push (seqObj "list" #[] 0)).get? s.heap.objs.size = some (seqObj "list" #[] 0) := Heap.get?_push_size _ rfl
  unfold collect
  refine wpAny_bind (wpAny_runValue (codeAny_builtin entry_proto_collect' ?_))
  show wpAny _ _ (newList [] >>= fun z => again (.builtin "list.__iadd__" ⟨[z, .ref l], []⟩)) _ _ s
  refine wpAny_bind (wpAny_newList (wpAny_pure ⟨Code.quiet_builtin _ (by decide +kernel), codeAny_builtin entry_list_iadd' ?_⟩))
  unfold Builtin.«list.__iadd__»
  show wpAny _ _ (Builtin.List.listExtendWith _ _ _) _ _ { s with heap := s.heap.push (seqObj "list" #[] 0) }
  unfold Builtin.List.listExtendWith
  refine wpAny_bind (wpAny_typeOf (T := "tuple") ⟨o, up l o at_, ty⟩ ?_)
  rw [if_pos (by rw [Bool.or_eq_true]; exact .inr rfl)]
  refine wpAny_bind (listItems_at (up l o at_) da ?_)
  refine wpAny_bind (listItems_at (xs := #[]) (n := 0) new rfl ?_)
  rw [if_neg (by simp)]
  have fit2 : ((#[] : Array Value) ++ xs).size ≤ sizeLine + 1 := by rw [Array.size_append]; simp; omega
  refine wpAny_bind (listUpdate_at (xs := #[]) (n := 0) new rfl ?_ (Nat.zero_le _) fit2)
  refine wpAny_pure ?_
  show wpAny _ _ (load s.heap.objs.size >>= fun z => match z.data with | .seq ys _ => pure ys.toList | _ => unsupported "internal:collect") Q E _
  refine wpAny_bind (wpAny_load (get?_update_seq new _) ?_)
  have e : ((#[] : Array Value) ++ xs).toList = xs.toList := by simp
  show wpAny _ _ (pure ((#[] : Array Value) ++ xs).toList) Q E _
  rw [e]
  refine wpAny_pure (go _ ?_ fun b u z => ?_)
  · rw [Heap.size_update, size_push']
  · have lt := Heap.lt_size z
    rw [Heap.get?_update_ne _ _ _ _ (Nat.ne_of_lt lt)]
    exact up b u z
/-- sorted(t), a tuple of ints -/
theorem sorted_tupI {l : Addr} {o : Obj} {items : Array Value} {n : Nat} {ns : List Int} {Q : Value → Shared → Prop} (ho : s.heap.get? l = some o) (hc : o.cls = .type "tuple") (hd : o.data = .seq items n) (hI : IntsAre items.toList ns) (h64 : items.toList.length < 64)
    (hQ : ∀ t' p (out : Array Value) (c : Nat) (ns' : List Int), (∀ b u, s.heap.get? b = some u → t'.heap.get? b = some u) → t'.gens = s.gens → t'.drawn = s.drawn → t'.os = s.os → s.heap.objs.size ≤ p →
      t'.heap.get? p = some (seqObj "list" out c) → IntsAre out.toList ns' → ns'.Perm ns → ns'.Pairwise (· ≤ ·) → Q (.ref p) t') :
    wpAny (model P w) A (call (.builtin "sorted") [.ref l]) Q E s := by
  have hz : items.size ≤ sizeLine := by rw [Array.length_toList] at h64; rw [sizeLine_eq]; omega
  refine Calls.call_function_entry kind_sorted plain_sorted entry_sorted (args_sorted1 _) ?_
  unfold Builtin.«sorted»
  refine wpAny_bind (m := checkCount "sorted" 1 1 _) (wpAny_pure ?_)
  refine wpAny_bind (gather_tup ho hc hd hz fun h' k0 k1 => ?_)
  refine wpAny_bind (wpAny_newList ?_ (by rw [Array.length_toList]; exact hz))
  have hoL : (h'.push (seqObj "list" items.toList.toArray 0)).get? h'.objs.size = some (seqObj "list" items.toList.toArray 0) := Heap.get?_push_size _ rfl
  refine wpAny_bind (wpAny_holding (wpAny_call_entry slot_list_sort ⟨_, hoL, rfl⟩ entry_list_sort (list_sort_tree hoL hI h64 fun out ns' a1 a2 a3 => ⟨_, rfl, ?_⟩) (args_list_sort _)))
  obtain ⟨c, hcc⟩ := sortedHeap_at (vs := items.toList) (out := out) hoL
  refine wpAny_pure ⟨_, rfl, hQ _ h'.objs.size out c ns' (fun b u e => ?_) rfl rfl rfl (by rw [k0]; exact Nat.le_succ _) hcc a1 a2 a3⟩
  have q := k1 b u e
  have hlt := Heap.lt_size q
  show (sortedHeap (h'.push (seqObj "list" items.toList.toArray 0)) h'.objs.size items.toList out).get? b = some u
  rw [sortedHeap_old (Nat.ne_of_lt hlt) (by rw [size_push']; exact Nat.lt_succ_of_lt hlt)]
  exact Heap.get?_push_of_some _ q
end
end PySem
namespace DL
open PySem PySem.Spec PyProof.Rows L2
/-- sorted(t), a tuple of ints, fewer than 64 -/
def rSortTI (K : PySem.W.Frag) : List V → Hp → VK → Prop := fun vs H Q => ∃ (a : Addr) (ns : List Int), vs = [V.ref a] ∧ SqT K H a (ns.map V.int) ∧ ns.length < 64 ∧
  ∀ (ns' : List Int) (p : Addr), ns'.Perm ns → ns'.Pairwise (· ≤ ·) → H p = none → Q (.ref p) (upd H p (.lst (ns'.map V.int)))
theorem cr_sortTI {X : Cx} : CallR X (.builtin "sorted") (rSortTI X.K) := by
  intro pins s σ H vs us Q I r h
  obtain ⟨a, ns, rfl, ht, h64, q⟩ := h
  obtain ⟨its, rv, ⟨o, ho, hc, n, hdt⟩, _⟩ := I.tuple ht
  rw [Vals.ref1 r]
  have hi := rv.ints
  refine sorted_tupI ho hc hdt (by simpa using hi) (by simpa using (by rw [IntsAre.length hi]; exact h64)) fun t' p out c ns' k g d o hp hg hI hperm hpw => ?_
  have hn : H p = none := I.hok.fresh hp
  have hlen : (ns'.map V.int).length ≤ sizeLine := by rw [List.length_map, hperm.length_eq, sizeLine_eq]; omega
  have e : t' = { s with heap := t'.heap, toks := t'.toks } := by
    cases t'; cases s; cases g; cases d; cases o; rfl
  rw [e]
  exact ⟨.ref p, upd H p (.lst (ns'.map V.int)), I.laid (t' := t'.toks) k hp ⟨hlen, out.toList, c, vals_of_ints hI, hg⟩, rfl, q ns' p hperm hpw hn⟩
def gSortT (x : D) : Option D := match x with
  | .tup ds => (intsOf ds).bind fun ns => if ns.length < 64 then some (.lst ((sortI ns).map .int)) else none
  | _ => none
def t2i (a : EF) : List D → Option Bool := fun ρ => (a ρ).bind fun d => match d with
  | .int i => some (i != 0)
  | _ => none
def gLrg1 (x : D) : Option D := i1 (fun j => if small 62 j ∧ j ≤ 1000000 then some (.lst (rangeD 0 j)) else none) x
def gLrg2 (x y : D) : Option D := i2 (fun i j => if small 62 i ∧ small 62 j ∧ j - i ≤ 1000000 then some (.lst (rangeD i j)) else none) x y
def gIsB : D → D → Option D
  | .bl i, .bl j => some (.bl (decide (i = j)))
  | _, _ => none
def gIsNB : D → D → Option D
  | .bl i, .bl j => some (.bl (!decide (i = j)))
  | _, _ => none
/-- x.index(y): the first place -/
def firstD (p : D → Bool) : Nat → List D → Option Nat
  | _, [] => none
  | j, d :: r => if p d = true then some j else firstD p (j + 1) r
def gIndex (x y : D) : Option D := match x with
  | .lst ds => if dok 6 y = true ∧ (ds.all (dok 6)) = true then (firstD (fun z => PyData.eqv (conv 6 z) (conv 6 y)) 0 ds).map fun j => .int (j : Nat) else none
  | _ => none
theorem firstD_spec {p : D → Bool} : ∀ {ds : List D} {j k : Nat}, firstD p j ds = some k → j ≤ k ∧ ∃ d, ds[k - j]? = some d ∧ p d = true ∧ ∀ m d', m < k - j → ds[m]? = some d' → p d' = false
  | [], _, _, h => by cases h
  | d :: r, j, k, h => by
    unfold firstD at h
    split at h
    · rename_i hp
      cases h
      exact ⟨Nat.le_refl _, d, by simp, hp, fun m d' hm _ => by omega⟩
    · rename_i hp
      obtain ⟨h1, d2, h2, h3, h4⟩ := firstD_spec h
      have e : k - j = (k - (j + 1)) + 1 := by omega
      refine ⟨by omega, d2, by rw [e, List.getElem?_cons_succ]; exact h2, h3, fun m d' hm hd => ?_⟩
      cases m with
      | zero => simp at hd; subst hd; simpa using hp
      | succ m => exact h4 m d' (by omega) (by simpa using hd)
section
variable {X : Cx} {T : Tb} {H0 : HZ} {Γ : List Mode} {a b o : Expr} {fa fb fo : EF} {ka kb ko : Knd} {pos po p2 q2 apos cpos : Pos} {q : Q3}
theorem de_sortT (hg : Gl X "sorted") (hm : X.mg "sorted" = none) (ha : DE X T H0 Γ a fa ka) (hs : starEach [a] X.env = (false, eval a X.env) :: starEach [] X.env := by rfl) : DE X T H0 Γ (.Call (.Name "sorted" po) [a] [] pos) (e1 gSortT fa) (.ol q) :=
  PE.wk (pe_callB cr_sortTI hg hm (by decide +kernel) (da_cons ha da_nil hs) (he := hs)) (callB_sem fun F O σ H ρ v x d Q R rv hg hq => by
    unfold gSortT at hg
    split at hg
    · rename_i ds
      cases h1 : intsOf ds with
      | none => rw [h1] at hg; cases hg
      | some ns =>
        rw [h1] at hg
        simp only [Option.bind_some] at hg
        split at hg
        · rename_i h64
          cases hg
          have := intsOf_eq h1
          subst this
          cases rv with
          | @tup a vs ds h1 h3 =>
            rw [h3.ints] at h1
            refine ⟨a, ns, rfl, SqT.of h1, h64, fun ns' p hp hw hn => ?_⟩
            rw [sortI_uniq hp hw]
            exact new_lst R (vals_reps _) hq p hn
        · cases hg
    · cases hg)
/-- an int's truth -/
theorem dt_int' (ha : DE X T H0 Γ a fa ka) (he : ∀ whole, isTrue a X.env whole = (do let v ← whole; standAt a.pos; holding [v] (truthy v)) := by intro _; rfl) : DT X T H0 Γ a (t2i fa) :=
  PT.wk (pt_truth ha he) fun σ H Q ⟨F, O, ρ, d, R, hf, hq⟩ => by
    unfold t2i at hf
    cases h1 : fa ρ with
    | none => rw [h1] at hf; cases hf
    | some x =>
      rw [h1] at hf
      simp only [Option.bind_some] at hf
      split at hf
      · cases hf
        refine ⟨F, O, ρ, _, R, h1, fun F1 H1 v R1 s1 t1 r1 => ?_⟩
        rw [r1.int]
        exact ⟨_, rfl, hq F1 H1 R1 s1 t1⟩
      · cases hf
theorem rg_reps {K : PySem.W.Frag} {N : Addr → Prop} {F : Hp} (i j : Int) : RepsG K T N F (rgV i j) (rangeD i j) := by
  have h1 : rgV i j = ((List.range (j - i).toNat).map fun (k : Nat) => i + (k : Int)).map V.int := by rw [List.map_map]; rfl
  have h2 : rangeD i j = ((List.range (j - i).toNat).map fun (k : Nat) => i + (k : Int)).map D.int := by rw [List.map_map]; rfl
  rw [h1, h2]
  exact vals_reps _
theorem rgOk_of {i j : Int} (h1 : small 62 i) (h2 : small 62 j) (h3 : j - i ≤ 1000000) : RgOk i j := ⟨(small62 h1).1, (small62 h1).2, (small62 h2).1, (small62 h2).2, by omega⟩
theorem de_lrg1 (hc : X.calm = true) (hg : Gl X "list") (hm : X.mg "list" = none) (hg2 : Gl X "range") (hm2 : X.mg "range" = none) (ha : DE X T H0 Γ a fa ka)
    (hs : starEach [a] X.env = (false, eval a X.env) :: starEach [] X.env := by rfl) (hs2 : starEach [Expr.Call (.Name "range" p2) [a] [] q2] X.env = (false, eval (Expr.Call (.Name "range" p2) [a] [] q2) X.env) :: starEach [] X.env := by rfl) :
    DE X T H0 Γ (.Call (.Name "list" po) [.Call (.Name "range" p2) [a] [] q2] [] pos) (e1 gLrg1 fa) (.ol q) :=
  PE.wk (pe_listRg hc hg hm (prg_1 hg2 hm2 ha hs) hs2) fun σ H Q ⟨F, O, ρ, d, R, hf, hq⟩ => by
    unfold e1 at hf
    cases h1 : fa ρ with
    | none => rw [h1] at hf; cases hf
    | some x =>
      rw [h1] at hf
      simp only [Option.bind_some] at hf
      refine ⟨F, O, ρ, x, R, h1, fun F1 H1 v R1 s1 t1 r1 => ?_⟩
      unfold gLrg1 i1 at hf
      split at hf
      · rename_i j
        dsimp only at hf
        split at hf
        · rename_i hj
          cases hf
          rw [r1.int]
          exact ⟨j, rfl, rgOk_of (by decide) hj.1 (by omega), fun u hu => new_lst R1 (rg_reps 0 j) (fun F' H' w R' s' t' r' => hq F' H' w R' (s1.trans s') (t1.trans t') r') u hu⟩
        · cases hf
      · cases hf
theorem de_lrg2 (hc : X.calm = true) (hg : Gl X "list") (hm : X.mg "list" = none) (hg2 : Gl X "range") (hm2 : X.mg "range" = none) (ha : DE X T H0 Γ a fa ka) (hb : DE X T H0 Γ b fb kb) (hp : ka.pers = true := by rfl)
    (hs : starEach [a, b] X.env = (false, eval a X.env) :: starEach [b] X.env := by rfl) (hs1 : starEach [b] X.env = (false, eval b X.env) :: starEach [] X.env := by rfl) (hpl : (backTo q2 (starEach [b] X.env)).any (·.1) = false := by rfl) (hs2 : starEach [Expr.Call (.Name "range" p2) [a, b] [] q2] X.env = (false, eval (Expr.Call (.Name "range" p2) [a, b] [] q2) X.env) :: starEach [] X.env := by rfl) :
    DE X T H0 Γ (.Call (.Name "list" po) [.Call (.Name "range" p2) [a, b] [] q2] [] pos) (e2 gLrg2 fa fb) (.ol q) :=
  PE.wk (pe_listRg hc hg hm (prg_2 hg2 hm2 ha hb hs hs1 hpl) hs2) fun σ H Q ⟨F, O, ρ, d, R, hf, hq⟩ => by
    unfold e2 at hf
    cases h1 : fa ρ with
    | none => rw [h1] at hf; cases hf
    | some x =>
      rw [h1] at hf
      simp only [Option.bind_some] at hf
      cases h2 : fb ρ with
      | none => rw [h2] at hf; cases hf
      | some y =>
        rw [h2] at hf
        simp only [Option.bind_some] at hf
        refine ⟨F, O, ρ, x, R, h1, fun F1 H1 v R1 s1 t1 r1 => ⟨F1, O, ρ, y, R1, h2, fun F2 H2 u R2 s2 t2 r2 => ?_⟩⟩
        unfold gLrg2 i2 at hf
        split at hf
        · rename_i i j
          dsimp only at hf
          split at hf
          · rename_i hj
            cases hf
            rw [r1.int, r2.int]
            exact ⟨i, j, rfl, rfl, rgOk_of hj.1 hj.2.1 hj.2.2, fun z hz => new_lst R2 (rg_reps i j) (fun F' H' w R' s' t' r' => hq F' H' w R' ((s1.trans s2).trans s') ((t1.trans t2).trans t') r') z hz⟩
          · cases hf
        · cases hf
theorem cs_isB {K : PySem.W.Frag} (hp : ka.pers = true) : ∀ σ H Q, tD K T H0 Γ (e2 gIsB fa fb) (.q q) σ H Q → tOp (fun x y H Q => ∃ a b, x = .bl a ∧ y = .bl b ∧ Q (.bl (decide (a = b))) H) (tD K T H0 Γ fa ka) (tD K T H0 Γ fb kb) σ H Q := bin_sem hp fun F O σ H ρ v u x y d Q R rv ru hg hq => by
  unfold gIsB at hg
  split at hg
  · cases hg
    rw [rv.bl, ru.bl]
    exact ⟨_, _, rfl, rfl, hq F H _ R (.refl _) (.refl _) (RepG.bl _)⟩
  · cases hg
theorem cs_isNB {K : PySem.W.Frag} (hp : ka.pers = true) : ∀ σ H Q, tD K T H0 Γ (e2 gIsNB fa fb) (.q q) σ H Q → tOp (fun x y H Q => ∃ a b, x = .bl a ∧ y = .bl b ∧ Q (.bl (!decide (a = b))) H) (tD K T H0 Γ fa ka) (tD K T H0 Γ fb kb) σ H Q := bin_sem hp fun F O σ H ρ v u x y d Q R rv ru hg hq => by
  unfold gIsNB at hg
  split at hg
  · cases hg
    rw [rv.bl, ru.bl]
    exact ⟨_, _, rfl, rfl, hq F H _ R (.refl _) (.refl _) (RepG.bl _)⟩
  · cases hg
/-- x.index(y) -/
theorem de_index (hu : X.A.units + 65 < cLine) (ho : DE X T H0 Γ o fo ko) (ha : DE X T H0 Γ a fa ka) (hp : ko.pers = true := by rfl)
    (hbase : attributeBase o "index" X.env (eval o X.env) = eval o X.env := by rfl)
    (hfew : ((backTo cpos (starEach [a] X.env)).all (fun x => !x.1) && (backToKw cpos (keywordEach [] X.env)).all (fun x => x.1.isSome)
      && decide ([a].length + ([] : List Keyword).length + (if ([] : List Keyword).isEmpty then 0 else 1) < 30)) = true := by rfl)
    (hline : (apos.endLine == cpos.line) = true := by rfl) (hs : starEach [a] X.env = (false, eval a X.env) :: starEach [] X.env := by rfl) (hpl : (backTo cpos (starEach [] X.env)).any (·.1) = false := by rfl) :
    DE X T H0 Γ (.Call (.Attribute o "index" apos) [a] [] cpos) (e2 gIndex fo fa) (.q q) :=
  PE.wk (pe_bm PySem.F.plainAttrs_list PySem.F.slot_list_index PySem.F.type_list_index (mt_indexD hu) ho (pa_cons ha pa_nil hs) hbase hfew hline hs hpl) fun σ H Q ⟨F, O, ρ, d, R, hf, hq⟩ => by
    unfold e2 at hf
    cases h1 : fo ρ with
    | none => rw [h1] at hf; cases hf
    | some x =>
      rw [h1] at hf
      simp only [Option.bind_some] at hf
      cases h2 : fa ρ with
      | none => rw [h2] at hf; cases hf
      | some y =>
        rw [h2] at hf
        simp only [Option.bind_some] at hf
        unfold gIndex at hf
        split at hf
        · rename_i ds
          split at hf
          · rename_i hd
            cases h3 : firstD (fun z => PyData.eqv (conv 6 z) (conv 6 y)) 0 ds with
            | none => rw [h3] at hf; cases hf
            | some k =>
              rw [h3] at hf
              cases hf
              refine ⟨F, O, ρ, _, R, h1, fun F1 H1 v R1 s1 t1 r1 => ?_⟩
              obtain ⟨l, vs, rfl, hl, rs⟩ := Rp.seq R1 r1
              refine ⟨.inl ⟨rfl, vs, SqL.of hl⟩, F1, O, ρ, y, R1, h2, fun F2 H2 u R2 s2 t2 r2 => ?_⟩
              have rb : RU X.K T H2 (.ref l) (.lst ds) := t2.rU (R1.toB r1)
              have h7 : dok 7 (.lst ds) = true := by simpa [dok] using hd.2
              obtain ⟨_, d0, g1, g2, g3⟩ := firstD_spec h3
              refine ⟨l, u, conv 6 y, ds.map (conv 6), k, conv 6 d0, rfl, rfl, dp_of 7 _ _ h7 rb, dp_of 6 y u hd.1 (R2.toB r2), shaped_of (n := 7) h7 (by omega), shaped_of hd.1 (by omega), ?_, g2, fun m z hm hz => ?_, ?_⟩
              · rw [List.getElem?_map]
                have : ds[k]? = some d0 := by simpa using g1
                rw [this]; rfl
              · rw [List.getElem?_map] at hz
                cases hm2 : ds[m]? with
                | none => rw [hm2] at hz; cases hz
                | some d' =>
                  rw [hm2] at hz
                  cases hz
                  exact g3 m d' (by omega) hm2
              · exact hq F2 H2 _ R2 (s1.trans s2) (t1.trans t2) (RepG.int _)
          · cases hf
        · cases hf
end
end DL

namespace DL
open PySem PySem.Spec PyProof.Rows L2
section
variable {X : Cx} {T : Tb} {H0 : HZ} {Γ : List Mode} {J : Jm} {e : Expr} {fe : EF} {pos pos' : Pos} {x : Str}
/-- no slot owns anything -/
def noOw (Γ : List Mode) : Bool := Γ.all fun m => !isOw (some m)
theorem Rl.frozen {K : PySem.W.Frag} {F H : Hp} {O : Own} {σ : L2.St} {ρ : List D} (R : Rl K T H0 Γ F O σ H ρ) (h : noOw Γ = true) : Same F (ntb H) ∧ Rl K T H0 Γ (ntb H) (fun _ _ => False) σ H ρ := by
  have fh : Same F (ntb H) := fun b o e => ntb_some (R.fh _ _ e) (R.nF _ _ e)
  refine ⟨fh, R.h0.trans fh, fun b o e => ntb_le e, fun _ _ z => z.elim, fun _ _ _ z => z.elim, R.ls, R.lr, fun i m hm => ?_, fun b o e => ntb_not e, R.tb⟩
  have s := R.sl i m hm
  have hn := List.all_eq_true.mp h m (List.mem_of_getElem? hm)
  cases m with
  | no => trivial
  | fz k =>
    obtain ⟨v, d, h1, h2, h3⟩ := s
    exact ⟨v, d, h1, h2, fh.rq h3⟩
  | fl k =>
    obtain ⟨a, vs, ds, h1, h2, h3, h4⟩ := s
    exact ⟨a, vs, ds, h1, h2, fh _ _ h3, fh.rqs h4⟩
  | ow k => cases hn
  | os S => cases hn
theorem setB_sem {K : PySem.W.Frag} {i : Nat} (hi : i < Γ.length) (hn : noOw Γ = true) : ∀ E σ H, tDS K T H0 Γ (sSet i fe) (Γ.set i (.fz .U)) J E σ H → tAsg (tD K T H0 Γ fe .B) (gName i) E σ H := fun E σ H ⟨F, O, ρ, out, R, hf, hq⟩ => by
  unfold sSet at hf
  cases h1 : fe ρ with
  | none => rw [h1] at hf; cases hf
  | some d =>
    rw [h1] at hf
    cases hf
    refine ⟨F, O, ρ, d, R, h1, fun F' H' v R' s s' r => ?_⟩
    obtain ⟨s2, R2⟩ := R'.frozen hn
    have rq : Rq K T H0 .U (ntb H') v d := RepG.monoS ⟨fun b o e n => ntb_some e n⟩ (fun _ _ => trivial) r
    exact hq _ _ _ H' (s.trans s2) (R2.setq hi rq)
/-- name = e, e as the heap stands, nothing owned -/
theorem ds_setB {i : Nat} (hN : X.N.Nodup) (hi : X.N[i]? = some x) (hx : Loc X.env.scope x) (hn : noOw Γ = true) (he : DE X T H0 Γ e fe .B) (hl : i < Γ.length := by decide) (hs : swapsWith e (some (.Name x pos')) pos.line X.env = pure false := by rfl)
    (hf : X.fn x = true ∨ X.env.scope.names.lookup x = some .local := by first | exact .inl rfl | exact .inr rfl | assumption) : DS X T H0 Γ (.Assign [.Name x pos'] e pos) (sSet i fe) (Γ.set i (.fz .U)) J := PS.wk (ps_set hN hi hx he hs hf) (setB_sem hl hn)
variable {es : List Expr} {fs : List D → Option (List D)} {po : Pos} {cl : Nat} {p : Q3}
theorem make_semB {K : PySem.W.Frag} {n : Nat} {φ : List D → Option (List D)} {E : XK} (hn : ∀ ρ ds, fs ρ = some ds → ds.length = n) :
    ∀ σ H Q, tD K T H0 Γ (eMake cl φ fs) .B σ H Q → tMake (T cl).1 (spI K T cl n φ p) [] E (tDA K T H0 Γ fs) σ H Q := by
  rintro σ H Q ⟨F, O, ρ, d, R, hf, hq⟩
  unfold eMake at hf
  cases h1 : fs ρ with
  | none => rw [h1] at hf; cases hf
  | some ds =>
    rw [h1] at hf
    simp only [Option.bind_some] at hf
    cases h2 : φ ds with
    | none => rw [h2] at hf; cases hf
    | some fds =>
      rw [h2] at hf
      cases hf
      refine ⟨F, O, ρ, ds, R, h1, fun F1 H1 vs R1 s1 t1 r1 => ?_⟩
      intro x dx hx hdx hne
      show spI K T cl n φ p (.ref x :: (vs ++ [])) _ _ E
      rw [List.append_nil]
      have s2' : Same H1 (upd (upd H1 dx (.own x)) x (.ins (T cl).1 dx [])) := fun b o e => by
        have hb : ¬ b = x := ne_of_none e hx
        rw [upd_ne hb, upd_ne (ne_of_none e hdx)]; exact e
      have s2 : Sm H1 (cut (ntb (upd (upd H1 dx (.own x)) x (.ins (T cl).1 dx []))) (· = x)) := ⟨fun b o e n => by
        have hb : ¬ b = x := ne_of_none e hx
        rw [cut_out (S := (· = x)) hb]; exact ntb_some (s2' _ _ e) n⟩
      refine ⟨x, vs, rfl, by rw [r1.length]; exact hn _ _ h1, dx, ds, fds, upd_same, R1.tb.ext s2', s2.rUs r1, h2, fun F2 H' dx' fs' s3 f3 s4 n4 h4 h5 h6 => ⟨rfl, ?_⟩⟩
      have s5 : Sm H1 H' := (s2.trans s3.sm).trans s4.sm
      exact hq F1 H' (.ref x) (R1.grow s5 n4.2) s1 (t1.trans s5) (RepG.ins h4 trivial h5 (h6.mono s4 fun _ _ => trivial))
/-- C(..), as the heap stands -/
theorem de_makeB {i k : Nat} {n : Nat} {φ : List D → Option (List D)} (h : OkC X.prog X.w X.K X.mg X.base T i cl x n φ p) (hr : Room k X.A) (hg : Gl X x) (ha : DA X T H0 Γ (e :: es) fs) (hn : ∀ ρ ds, fs ρ = some ds → ds.length = n) (hj : i + 1 ≤ k := by decide)
    (hdb : (x == ("__debug__" : Str)) = false := by decide) (he : starEach (e :: es) X.env = (false, eval e X.env) :: starEach es X.env := by rfl) (hpl : (backTo pos (starEach es X.env)).any (·.1) = false := by rfl) :
    DE X T H0 Γ (.Call (.Name x po) (e :: es) [] pos) (eMake cl φ fs) .B := by
  obtain ⟨f, fd, ps, h1, h2, h3, h4⟩ := h.ex
  exact PE.wk (pe_make h2 h4 (hr.mono hj) hg h.mg h3 .nil pass0 ha hdb he hpl) (make_semB hn)
end
end DL

namespace DL
open PySem PySem.Spec PyProof.Rows L2
theorem meets_enum1 {v : Value} {o : Obj} {H : Heap → Prop} (B : Begins v o H) :
    Meets (Builtin.«enumerate.__new__» ⟨[.type "enumerate", v], []⟩) (fun _ R s => H s.heap ∧
      R (.ok (.ret (.ref (s.heap.push o).objs.size))) { s with heap := (s.heap.push o).push { cls := .type "enumerate", data := .fields #[.none, .bool false, .ref s.heap.objs.size, rawInt 0, .none, .none] } }) :=
  .of_wp fun prog w A R s h => by
    obtain ⟨hp, g, d, tk, os⟩ := s; obtain ⟨h1, h⟩ := h
    have hsub := sub_enumerate
    have q1 : ∀ {A' : Around} {E : Value → Shared → Prop} {Q : Value → Shared → Prop}, Q (.ref hp.objs.size) ⟨hp.push o, g, d, tk, os⟩ → wpAny (model prog w) A' (pyIter v) Q E ⟨hp, g, d, tk, os⟩ :=
      fun q => B.iter prog w _ _ ⟨hp, g, d, tk, os⟩ _ h1 q
    wp_walk using q1
    refine wpAny_stack_any fun st => wpAny_pure ?_
    split
    · rename_i c _ _ _ _ _
      cases (c == Value.type "enumerate")
      · wp_walk using q1
        exact ⟨_, rfl, h⟩
      · wp_walk using q1
        exact ⟨_, rfl, h⟩
    · wp_walk using q1
      exact ⟨_, rfl, h⟩
section
variable {prog : Program} {w : World} {A : Around} {E : Value → Shared → Prop} {s : Shared}
theorem enum1_begins {v : Value} {o : Obj} {H : Heap → Prop} {Q : Value → Shared → Prop} (B : Begins v o H) (h1 : H s.heap)
    (h : ∀ h', IsEnum h' (s.heap.objs.size + 1) s.heap.objs.size 0 .none → h'.get? s.heap.objs.size = some o → h'.objs.size = s.heap.objs.size + 2 →
      (∀ b o, s.heap.get? b = some o → h'.get? b = some o) → Q (.ref (s.heap.objs.size + 1)) { s with heap := h' }) :
    wpAny (model prog w) A (call (.type "enumerate") [v]) Q E s := by
  refine callType_new F.called_enumerate (by decide) (F.typeCall_enumerate_1 _) (F.newCall_enumerate_1 _) (fun obj => F.args_object_init_2 obj _) F.entry_enumerate_new
    (meets_enum1 B) ⟨h1, ?_⟩
  have hz : (s.heap.push o).objs.size = s.heap.objs.size + 1 := Heap.size_push ..
  show _ ∧ _
  rw [hz]
  have he : IsEnum ((s.heap.push o).push { cls := .type "enumerate", data := .fields #[.none, .bool false, .ref s.heap.objs.size, rawInt 0, .none, .none] }) (s.heap.objs.size + 1) s.heap.objs.size 0 .none := by
    have := Heap.get?_push_size (s.heap.push o) (o := { cls := .type "enumerate", data := .fields #[.none, .bool false, .ref s.heap.objs.size, rawInt 0, .none, .none] }) rfl
    rw [hz] at this; exact this
  refine ⟨⟨_, he, rfl⟩, h _ he (Heap.get?_push_of_some _ (Heap.get?_push_size _ B.free)) (by rw [Heap.size_push, hz]) fun b o x => Heap.get?_push_of_some _ (Heap.get?_push_of_some _ x)⟩
end
/-- the tuple at a, each item in a new pair -/
def ItcT (K : PySem.W.Frag) (a : Addr) : It :=
  ⟨fun i H => ∃ (xs : List V) (x : V), SqT K H a xs ∧ xs[i]? = some x, fun i H v H' => ∃ T x, v = .ref T ∧ H T = none ∧ H' = upd H T (.tup [.int (i : Nat), x]) ∧ ∀ xs, SqT K H a xs → xs[i]? = some x, fun i H => ∃ xs : List V, SqT K H a xs ∧ xs.length ≤ i⟩
theorem turn_enumT {P : Program} {w : World} {K : PySem.W.Frag} {elts : List Expr} {kk : Nat} {tpos : Pos} (a e it : Addr) :
    Turn P w K (.Tuple elts kk tpos) (ItcT K a) [e, it] e (fun i h => (∃ old, IsEnum h e it ((i : Nat) : Int) old) ∧ h.IsTupleIter it a i ∧ e ≠ it) where
  mem := by simp
  obj := fun i h st b hb => by
    obtain ⟨⟨old, he⟩, ⟨o, ho, hc, hd⟩, _⟩ := st
    have e' : b = e ∨ b = it := by simpa using hb
    rcases e' with z | z
    · rw [z]; exact ⟨_, he, fun v q => nomatch q⟩
    · rw [z]; exact ⟨o, ho, fun v q => by rw [hd] at q; cases q⟩
  keep := fun i h h' st k => let ⟨⟨old, he⟩, hi, hne⟩ := st; ⟨⟨old, k e (by simp) _ he⟩, hi.at fun o q => k it (by simp) o q, hne⟩
  item := by
    intro X hP hw hK hc i pins s σ H E I hf st hg
    subst hP hw hK
    obtain ⟨⟨old, he⟩, hit, hne⟩ := st
    obtain ⟨xs, x, hq, hx⟩ := hg
    obtain ⟨its, rv, p, hz⟩ := I.tuple hq
    obtain ⟨u, hu, ru⟩ := rv.get hx
    have hT0 : s.heap.IsTuple a its.toArray := p
    have hel : e < s.heap.objs.size := Heap.lt_size he
    have hil : it < s.heap.objs.size := by obtain ⟨_, q, _⟩ := hit; exact Heap.lt_size q
    have hea : a ≠ e := fun q => by
      subst q
      obtain ⟨o, ho, hc, _⟩ := hT0
      rw [he] at ho; cases ho
      exact absurd (Value.type.inj hc) (by decide)
    have hai : a ≠ it := fun q => by
      subst q
      obtain ⟨o, ho, hc, _⟩ := hT0
      obtain ⟨o2, ho2, hc2, _⟩ := hit
      rw [ho] at ho2; cases ho2; rw [hc] at hc2
      exact absurd (Value.type.inj hc2) (by decide)
    have hi0 : i < its.length := (List.getElem?_eq_some_iff.mp hu).1
    refine wpAny_pyNext_enum_itemD (Draws.tuple (A := X.A.in1) (I.ok.hd hc) it a hai its.toArray) he ⟨hit, hT0⟩ (by simpa using hi0) hne (by simp [hne, Ne.symm hea]) fun x' h' tk hPx ho hst' hT hsz hk => ?_
    have hxu : x' = u := by
      have : its[i]? = some x' := by simpa using hPx
      rw [hu] at this; cases this; rfl
    subst hxu
    refine ⟨_, rfl, wpAny_letOwnedTupleGo_enum (s := { s with heap := h', toks := tk + 1 }) ho fun h'' he' sb => ?_⟩
    have hT2 : h''.get? s.heap.objs.size = some { cls := .type "tuple", data := .seq #[.int i tk, x'] } := (sb.2 _ (Nat.ne_of_gt hel)).trans hT
    have new : ObjOk X.prog X.w (upd H s.heap.objs.size (.tup [.int (i : Nat), x])) h'' s.heap.objs.size (.tup [.int (i : Nat), x]) :=
      ⟨by show 2 ≤ sizeLine; decide, [.int i tk, x'], .cons ⟨_, rfl⟩ (.cons ru .nil), ⟨_, hT2, rfl, _, rfl⟩⟩
    have I1 : Inv X pins σ (upd H s.heap.objs.size (.tup [.int (i : Nat), x])) { s with heap := h'', toks := tk + 1 } :=
      I.turnedNew (ch := [e, it]) (fun b ob hb q => (sb.2 b (fun z => hb (by simp [z]))).trans (hk b ob (fun z => hb (by simp [z])) (fun z => hb (by simp [z])) q)) hf (Nat.le_refl _) new
    refine ⟨.ref s.heap.objs.size, _, I1, rfl, ⟨_, x, rfl, I.hok.fresh (Nat.le_refl _), rfl, fun ys hy => by rw [I.tuple_inj hy hq]; exact hx⟩, ⟨⟨x', ?_⟩, hst'.1.at fun o q => (sb.2 it (Ne.symm hne)).trans q, hne⟩, fun b hb => ?_⟩
    · have e1 : ((i + 1 : Nat) : Int) = (i : Int) + 1 := by omega
      rw [e1]; exact he'
    · have hb' : b < s.heap.objs.size := by
        have e' : b = e ∨ b = it := by simpa using hb
        rcases e' with z | z
        · rw [z]; exact hel
        · rw [z]; exact hil
      rw [upd_ne (Nat.ne_of_lt hb')]
      exact (hf b hb).1
  done := by
    intro X hP hw hK hc i pins s σ H E I hf st hg
    subst hP hw hK
    obtain ⟨⟨old, he⟩, hit, hne⟩ := st
    obtain ⟨xs, hq, hx⟩ := hg
    obtain ⟨its, rv, p, hz⟩ := I.tuple hq
    have hT0 : s.heap.IsTuple a its.toArray := p
    have hai : a ≠ it := fun q => by
      subst q
      obtain ⟨o, ho, hc, _⟩ := hT0
      obtain ⟨o2, ho2, hc2, _⟩ := hit
      rw [ho] at ho2; cases ho2; rw [hc] at hc2
      exact absurd (Value.type.inj hc2) (by decide)
    obtain ⟨f0, f1, f2, f3, f4, f5⟩ := hf it (by simp)
    have hl := rv.length
    have hD : ∀ (Q : Option Value → Shared → Prop) (E : Value → Shared → Prop), (∀ h', Heap.ExtBut it s.heap h' → Q none { s with heap := h' }) → wpAny (model X.prog X.w) X.A (pyNext (.ref e)) Q E s := by
      intro Q E hQ
      have hT : s.TypeIs (.ref e) "enumerate" := ⟨_, he, rfl⟩
      unfold pyNext
      refine wpAny_bind (wpAny_attempt (wpAny_callSpecial?_slot (name := Str.ofString "__next__") hT F.slot_enumerate_next
        (wpAny_call_entry F.slot_enumerate_next hT F.entry_enumerate_next ?_ (F.args_enumerate_next_1 _))))
      show wpAny _ _ (field (.ref e) 2 >>= _) _ _ _
      refine wpAny_bind (wpAny_field he rfl (x := .ref it) rfl ?_)
      refine wpAny_bind (wpAny_nextOf_tuple_end (I.ok.hd hc) hit hT0 (by simp; omega) fun h' x he' hx' => ?_)
      obtain ⟨o, ho, hc⟩ := hx'
      refine wpAny_bind (wpAny_isInstance (T := "StopIteration") (b := true) ⟨o, ho, hc⟩ isSubtype_stop ?_)
      exact wpAny_pure (hQ _ he')
    exact hD _ _ fun h' eb => ⟨rfl, I.turned (t' := s.toks) (fun b o hb q => eb b o hb q) f0 f1 f3 f4 f5⟩
  self := fun A i s Q E st h => let ⟨⟨_, he⟩, _⟩ := st; wpAny_pyIter_enum he h
def iEnumT (K : PySem.W.Frag) (ta : TA) : TI := fun σ H R => ta σ H fun vs H1 => ∃ a xs, vs = [.ref a] ∧ SqT K H1 a xs ∧ R (ItcT K a) H1
theorem pi_enumT {X : Cx} {e : Expr} {ta : TA} {p pos tpos : Pos} {elts : List Expr} {kk : Nat} (hg : Gl X "enumerate") (hm : X.mg "enumerate" = none) (ha : PA X [e] ta) (hs : starEach [e] X.env = [(false, eval e X.env)] := by rfl) :
    PI X (.Tuple elts kk tpos) (.Call (.Name "enumerate" p) [e] [] pos) (iEnumT X.K ta) := by
  refine ⟨fun pins s σ H R I h => ?_⟩
  refine Call_ (ld_blt I hg hm boot_enumerate (PyProof.Rows.callWith_type1 (thn (ha.run pos pins s σ H _ I h) fun us s1 ⟨vs, H1, I1, r1, q1⟩ => ?_) hs rfl))
  obtain ⟨a, xs, ex, hq, q⟩ := q1
  subst ex
  cases r1 with
  | cons r rr =>
    cases rr
    cases r
    obtain ⟨its, rv, p', hz⟩ := I1.tuple hq
    refine enum1_begins (begins_tuple a its.toArray) p' fun h' he hit hsz hk => wpAny_pyIter_enum he ?_
    have I2 : Inv X pins σ H1 { s1 with heap := h' } := I1.kept (t' := s1.toks) hk
    refine ⟨s1.heap.objs.size + 1, [s1.heap.objs.size + 1, s1.heap.objs.size], _, _, H1, rfl, I2, turn_enumT a (s1.heap.objs.size + 1) s1.heap.objs.size, ⟨⟨.none, he⟩, ⟨_, hit, rfl, rfl⟩, Nat.succ_ne_self _⟩, fun b hb => ?_, q⟩
    have e' : b = s1.heap.objs.size + 1 ∨ b = s1.heap.objs.size := by simpa using hb
    have hle : s1.heap.objs.size ≤ b := by
      rcases e' with z | z
      · rw [z]; exact Nat.le_add_right _ _
      · rw [z]; exact Nat.le_refl _
    exact I1.fpOk hle (I1.hok.fresh hle)
section
variable {X : Cx} {T : Tb} {H0 : HZ} {Γ : List Mode} {e : Expr} {fe : EF} {k : Knd} {pos po : Pos} {q : Q3} {c : Bool}
def iEnT (f : EF) : List D → Option (List D) := fun ρ => (f ρ).bind fun d => match d with
  | .tup ds => some (enumD ds)
  | _ => none
theorem itcT_ok {K : PySem.W.Frag} {a : Addr} {vs : List V} {ds : List D} {F1 H1 : Hp} (hs : SqT K F1 a vs) (rs : Rqs K T H0 q F1 vs ds) : ItOk K T H0 (ItcT K a) (enumD ds) q c F1 H1 := fun i F2 H2 h1 h2 _ => by
  have hs2 : SqT K H2 a vs := same_sqT (h1.trans h2) hs
  refine ⟨fun d hd => ?_, fun hl => ⟨vs, hs2, by rw [rs.length]; simpa [enumD] using hl⟩⟩
  unfold enumD at hd
  rw [List.getElem?_mapIdx] at hd
  cases h3 : ds[i]? with
  | none => rw [h3] at hd; cases hd
  | some d0 =>
    rw [h3] at hd
    cases hd
    obtain ⟨v, hv, rv⟩ := rs.get h3
    refine ⟨⟨vs, v, hs2, hv⟩, fun x H3 ⟨t, y, e1, e2, e3, e4⟩ => ?_⟩
    subst e1; subst e3
    have := e4 vs hs2
    rw [hv] at this; cases this
    have f2 : F2 t = none := h2.free e2
    have sH : Same H2 (upd H2 t (.tup [.int (i : Nat), v])) := fun b u e => by rw [upd_ne (ne_of_none e e2)]; exact e
    have sF : Same F2 (upd F2 t (.tup [.int (i : Nat), v])) := fun b u e => by rw [upd_ne (ne_of_none e f2)]; exact e
    refine ⟨sH, upd F2 t (.tup [.int (i : Nat), v]), sF, fun b u e => ?_, ⟨fun b hb hh => ?_, fun n => n.upd rfl⟩, ?_⟩
    · by_cases hb : b = t
      · subst hb; rw [upd_same] at e ⊢; exact e
      · rw [upd_ne hb] at e ⊢; exact h2 _ _ e
    · rw [upd_ne (fun z => by subst z; obtain ⟨_, z, _⟩ := hh; rw [e2] at z; cases z)]; exact hb
    · exact RepG.tup upd_same (.cons (.int _) (.cons ((h1.trans sF).rq rv) .nil))
theorem di_enumT {elts : List Expr} {kk : Nat} {tpos : Pos} (hg : Gl X "enumerate") (hm : X.mg "enumerate" = none) (he : DE X T H0 Γ e fe (.q q)) (hs : starEach [e] X.env = [(false, eval e X.env)] := by rfl) :
    DI X T H0 Γ (.Tuple elts kk tpos) (.Call (.Name "enumerate" po) [e] [] pos) (iEnT fe) q c :=
  PI.wk (pi_enumT hg hm (pa_cons he pa_nil hs) hs) fun σ H R ⟨F, O, ρ, items, r, hf, hq⟩ => by
    unfold iEnT at hf
    cases h1 : fe ρ with
    | none => rw [h1] at hf; cases hf
    | some d =>
      rw [h1] at hf
      simp only [Option.bind_some] at hf
      split at hf
      · cases hf
        refine ⟨F, O, ρ, _, r, h1, fun F' H' v R' s s' rv => ?_⟩
        cases rv with
        | @tup a vs ds h2 h3 => exact ⟨a, vs, rfl, SqT.of (R'.fh _ _ h2), hq F' H' _ R' s s' (itcT_ok (SqT.of h2) h3)⟩
      · cases hf
end
end DL

/-! list(reversed(a list)) -/
namespace DL
open PySem PySem.Spec PyProof.Rows L2
section
variable {prog : Program} {w : World} {A : Around} {E : Value → Shared → Prop} {s : Shared}
theorem extend_rev {R : Result → Shared → Prop} (hh : A.handled = none) {it l S : Addr} {items : Array Value} (res : Value) (c₀ : Nat) (hit : s.heap.IsRevIter it l ((items.size : Int) - 1)) (hl : s.heap.IsList l items) (hne : l ≠ it) (hn : items.size ≤ sizeLine)
    (hSi : S ≠ it) (hSl : S ≠ l) (hS : s.heap.get? S = some { cls := .type "list", data := .seq #[] c₀ })
    (hR : ∀ h' tk acc' c', (∀ b o, b ≠ S → b ≠ it → s.heap.get? b = some o → h'.get? b = some o) → h'.get? S = some { cls := .type "list", dict := none, data := .seq acc' c', slots := #[] } →
      ItemsOf (fun i v => items[items.size - 1 - i]? = some v) acc' items.size → R (.ok (.ret res)) { s with heap := h', toks := tk }) :
    wpAny (model prog w) A.in1 (Builtin.List.listExtendWith (.ref S) (.ref it) res)
      (fun fin s' => match fin with | .done f => R (.ok f) s' | .again c' => c'.quiet = true ∧ codeAny (model prog w) A c' R s') (fun e s' => R (.error e) s') s := by
  have W := (Walks.listRev (prog := prog) (w := w) (A := A.in1) hh it l hne items).toS
  have hSf : S ∉ [it, l] := by simp only [List.mem_cons, List.not_mem_nil, or_false, not_or]; exact ⟨hSi, hSl⟩
  have hT : s.TypeIs (.ref it) "list_reverseiterator" := hit.typeIs
  have h1 : Builtin.List.listSameRef (.ref S) (.ref it) = false := by simp [Builtin.List.listSameRef, hSi]
  unfold Builtin.List.listExtendWith
  refine wpAny_bind (wpAny_typeOf hT ?_)
  rw [if_neg (by rw [h1]; decide)]
  refine wpAny_bind (wpAny_pyIter_revIter hit ?_)
  refine wpAny_bind (wpAny_holding ?_)
  unfold Builtin.List.listLengthHint
  refine wpAny_bind (wpAny_specialOf hT RT.nolen_lri ?_)
  show wpAny _ A.in1 (specialOf (Value.ref it) (Str.ofString "__length_hint__") >>= _) _ _ _
  refine wpAny_bind (wpAny_specialOf hT RT.hint_lri ?_)
  generalize hid : ("list_reverseiterator.__length_hint__" : String) = id0
  wp_delta
  rw [show splitId id0 = some ("list_reverseiterator", "__length_hint__") from by subst hid; decide +kernel]
  subst hid
  refine wpAny_bind (wpAny_isInstance (b := true) hT (by rw [isSubtype_type]; kernel_rfl) ?_)
  refine wpAny_pure ?_
  rw [if_neg (by decide)]
  have e0 : ((items.size : Nat) : Int) - 1 - ((0 : Nat) : Int) = (items.size : Int) - 1 := by omega
  refine wpAny_pure ⟨plainId_quiet F.plain_extend_loop _, codeAny_extend_loopS W hn _ hSf _ items.size 0 _ _ _ rfl (Nat.zero_le _) ⟨Nat.zero_le _, by rw [e0]; exact hit, hl⟩ hS (ItemsOf.nil _) fun s' acc' c' hm hS' hacc => ?_⟩
  rw [Moved.eq_with hm]
  refine hR s'.heap s'.toks acc' c' (fun b o hb hb2 e => hm.heap b o (fun hmem => ?_) e) hS' hacc
  rcases List.mem_cons.mp hmem with e' | hmem
  · exact hb e'
  · exact hb2 (List.mem_singleton.mp hmem)
theorem list_init_rev {R : Result → Shared → Prop} (hh : A.handled = none) {it l S : Addr} {items : Array Value} (hit : s.heap.IsRevIter it l ((items.size : Int) - 1)) (hl : s.heap.IsList l items) (hne : l ≠ it) (hn : items.size ≤ sizeLine)
    (hSi : S ≠ it) (hSl : S ≠ l) (hS : s.heap.get? S = some { cls := .type "list", data := .seq #[] })
    (hR : ∀ h' tk acc' c', (∀ b o, b ≠ S → b ≠ it → s.heap.get? b = some o → h'.get? b = some o) → h'.get? S = some { cls := .type "list", dict := none, data := .seq acc' c', slots := #[] } →
      ItemsOf (fun i v => items[items.size - 1 - i]? = some v) acc' items.size → R (.ok (.ret .none)) { s with heap := h', toks := tk }) :
    wpAny (model prog w) A.in1 (Builtin.«list.__init__» ⟨[.ref S, .ref it], []⟩)
      (fun fin s' => match fin with | .done f => R (.ok f) s' | .again c' => c'.quiet = true ∧ codeAny (model prog w) A c' R s') (fun e s' => R (.error e) s') s := by
  show wpAny _ _ (do let old ← Builtin.List.listItems (.ref S); Builtin.List.listUpdate (.ref S) (fun _ => #[]); letGo old.toList.reverse; Builtin.List.listExtendWith (.ref S) (.ref it) .none) _ _ s
  refine wpAny_bind ?_
  unfold Builtin.List.listItems
  refine wpAny_bind (wpAny_seqItems hS rfl (wpAny_pure ?_))
  show wpAny _ _ (updateSeq S (fun _ => #[]) >>= fun _ => letGo (#[] : Array Value).toList.reverse >>= fun _ => Builtin.List.listExtendWith (.ref S) (.ref it) .none) _ _ s
  refine wpAny_bind (wpAny_updateSeq hS rfl ?_)
  have hS₂ := Heap.get?_update_self (Obj.mapSeq (fun _ => (#[] : Array Value))) hS rfl
  have oth : ∀ b o, b ≠ S → s.heap.get? b = some o → (s.heap.update S (Obj.mapSeq (fun _ => (#[] : Array Value)))).get? b = some o :=
    fun b o hb e => (Heap.get?_update_other _ _ (Ne.symm hb)).trans e
  refine wpAny_bind (wpAny_letGo ?_)
  refine extend_rev (s := { s with heap := s.heap.update S (Obj.mapSeq (fun _ => (#[] : Array Value))) }) hh .none _ (hit.at fun o e => oth it o (Ne.symm hSi) e) (hl.at fun o e => oth l o (Ne.symm hSl) e) hne hn hSi hSl hS₂ fun h' tk acc' c' hk hS' hacc => ?_
  exact hR h' tk acc' c' (fun b o hb hb2 e => hk b o hb hb2 (oth b o hb e)) hS' hacc
theorem call_list_rev {it l : Addr} {items : Array Value} {Q : Value → Shared → Prop} (hh : A.handled = none) (hit : s.heap.IsRevIter it l ((items.size : Int) - 1)) (hl : s.heap.IsList l items) (hne : l ≠ it) (hn : items.size ≤ sizeLine)
    (hQ : ∀ h' tk acc' c', (∀ b o, b ≠ it → s.heap.get? b = some o → h'.get? b = some o) →
      h'.get? s.heap.objs.size = some { cls := .type "list", dict := none, data := .seq acc' c', slots := #[] } → ItemsOf (fun i v => items[items.size - 1 - i]? = some v) acc' items.size → Q (.ref s.heap.objs.size) { s with heap := h', toks := tk }) :
    wpAny (model prog w) A (call (.type "list") [.ref it]) Q E s := by
  refine callType_codes (Q₁ := fun obj s₁ => obj = .ref s.heap.objs.size ∧ s₁ = { s with heap := s.heap.push { cls := .type "list", data := .seq #[] } }) F.called_list (F.typeCall_list_1 _) F.entry_list_init
    (code_list_new _ ⟨rfl, rfl⟩) fun obj s₁ h₁ => ?_
  obtain ⟨rfl, rfl⟩ := h₁
  have hS : (s.heap.push { cls := .type "list", data := .seq #[] }).get? s.heap.objs.size = some { cls := .type "list", data := .seq #[] } := Heap.get?_push_size _ rfl
  obtain ⟨oi, hoi, _⟩ := id hit
  obtain ⟨ol, hol, _⟩ := id hl
  have hSi : s.heap.objs.size ≠ it := Nat.ne_of_gt (Heap.lt_size hoi)
  have hSl : s.heap.objs.size ≠ l := Nat.ne_of_gt (Heap.lt_size hol)
  refine ⟨⟨_, hS, rfl⟩, F.args_list_init_2 _ _, list_init_rev (A := A.in1) (s := { s with heap := s.heap.push { cls := .type "list", data := .seq #[] } }) hh (hit.at fun o e => Heap.get?_push_of_some _ e) (hl.push _) hne hn hSi hSl hS fun h' tk acc' c' hk hS' hacc => ?_⟩
  exact ⟨rfl, hQ h' tk acc' c' (fun b o hb e => hk b o (Nat.ne_of_lt (Heap.lt_size e)) hb (Heap.get?_push_of_some _ e)) hS' hacc⟩
end
/-- list(reversed(x)), x a list: a new list -/
def tListRev (K : PySem.W.Frag) (te : TE) : TE := fun σ H Q => te σ H fun v H1 => ∃ (a : Addr) (xs : List V), v = .ref a ∧ SqL K H1 a xs ∧ ∀ q, H1 q = none → Q (.ref q) (upd H1 q (.lst xs.reverse))
theorem pe_listRev {X : Cx} {e : Expr} {te : TE} {p p2 pos pos2 : Pos} (hc : X.calm = true) (hg : Gl X "list") (hm : X.mg "list" = none) (hg2 : Gl X "reversed") (hm2 : X.mg "reversed" = none) (he : PE X e te)
    (hs : starEach [e] X.env = (false, eval e X.env) :: starEach [] X.env := by rfl)
    (hs2 : starEach [.Call (.Name "reversed" p2) [e] [] pos2] X.env = (false, eval (.Call (.Name "reversed" p2) [e] [] pos2) X.env) :: starEach [] X.env := by rfl) :
    PE X (.Call (.Name "list" p) [.Call (.Name "reversed" p2) [e] [] pos2] [] pos) (tListRev X.K te) := by
  refine ⟨fun pins s σ H Q I h => ?_⟩
  refine Call_ (ld_blt I hg hm boot_list (PyProof.Rows.callWith_type1 (args_cons (Call_ (ld_blt I hg2 hm2 PyProof.Rows.boot_reversed (PyProof.Rows.callWith_type1 (args_cons (thn (he.run pins s σ H _ I h) fun u s1 ⟨v, H1, I1, r1, q1⟩ => args_nil ?_) hs) hs rfl))) hs2) hs2 rfl))
  obtain ⟨a, xs, ev, hq, q⟩ := q1
  subst ev
  obtain rfl : u = Value.ref a := r1
  obtain ⟨its, rv, p', hz⟩ := I1.list hq
  refine call_reversed_list p'.isList (args_nil ?_)
  have k0 : ∀ b o, s1.heap.get? b = some o → (s1.heap.push (revObj a ((its.toArray.size : Int) - 1))).get? b = some o := fun b o e => Heap.get?_push_of_some _ e
  have I2 : Inv X pins σ H1 { s1 with heap := s1.heap.push (revObj a ((its.toArray.size : Int) - 1)) } := I1.kept (t' := s1.toks) k0
  obtain ⟨f0, f1, f2, f3, f4, f5⟩ := I1.fpOk (H' := H1) (b := s1.heap.objs.size) (Nat.le_refl _) (I1.hok.fresh (Nat.le_refl _))
  have hl := p'.isList
  obtain ⟨ol, hol, _⟩ := id hl
  have hne : a ≠ s1.heap.objs.size := Nat.ne_of_lt (Heap.lt_size hol)
  have hn : its.toArray.size ≤ sizeLine := by rw [List.size_toArray, ← rv.length]; exact hz
  have hz2 : (s1.heap.push (revObj a ((its.toArray.size : Int) - 1))).objs.size = s1.heap.objs.size + 1 := Heap.size_push ..
  refine call_list_rev (s := { s1 with heap := s1.heap.push (revObj a ((its.toArray.size : Int) - 1)) }) (I1.ok.hd hc) ⟨_, Heap.get?_push_size _ rfl, rfl, rfl⟩ (hl.push _) hne hn fun h' tk acc c' hk hS hi => ?_
  have hle : s1.heap.objs.size ≤ (s1.heap.push (revObj a ((its.toArray.size : Int) - 1))).objs.size := by rw [hz2]; exact Nat.le_succ _
  have hS' : h'.get? (s1.heap.push (revObj a ((its.toArray.size : Int) - 1))).objs.size = some { cls := .type "list", dict := none, data := .seq acc.toList.toArray c', slots := #[] } := by rw [Array.toArray_toList]; exact hS
  exact ⟨.ref _, upd H1 _ (.lst xs.reverse), I1.turnedNew (t' := tk) (ch := [s1.heap.objs.size]) (fun b o hb e => hk b o (fun z => hb (by simp [z])) (k0 b o e))
    (fun b hb => by rw [List.mem_singleton.mp hb]; exact I1.fpOk (Nat.le_refl _) (I1.hok.fresh (Nat.le_refl _))) hle
    (show ObjOk X.prog X.w _ h' _ (.lst xs.reverse) from ⟨by rw [List.length_reverse]; exact hz, acc.toList, c', RT.vals_rev rv hi, hS'⟩), rfl, q _ (I1.hok.fresh hle)⟩
section
variable {X : Cx} {T : Tb} {H0 : HZ} {Γ : List Mode} {a : Expr} {fa : EF} {ka : Knd} {pos po p2 pos2 : Pos} {q : Q3}
def gListR : D → Option D
  | .lst ds => some (.lst ds.reverse)
  | _ => none
theorem de_listRev (hc : X.calm = true) (hg : Gl X "list") (hm : X.mg "list" = none) (hg2 : Gl X "reversed") (hm2 : X.mg "reversed" = none) (ha : DE X T H0 Γ a fa ka) (hk : ka.its = some q := by rfl)
    (hs : starEach [a] X.env = (false, eval a X.env) :: starEach [] X.env := by rfl)
    (hs2 : starEach [.Call (.Name "reversed" p2) [a] [] pos2] X.env = (false, eval (.Call (.Name "reversed" p2) [a] [] pos2) X.env) :: starEach [] X.env := by rfl) :
    DE X T H0 Γ (.Call (.Name "list" po) [.Call (.Name "reversed" p2) [a] [] pos2] [] pos) (e1 gListR fa) (.ol q) :=
  PE.wk (pe_listRev hc hg hm hg2 hm2 ha hs hs2) fun σ H Q ⟨F, O, ρ, d, R, hf, hq⟩ => by
    unfold e1 at hf
    cases h1 : fa ρ with
    | none => rw [h1] at hf; cases hf
    | some x =>
      rw [h1] at hf
      simp only [Option.bind_some] at hf
      refine ⟨F, O, ρ, x, R, h1, fun F1 H1 v R1 s1 t1 r1 => ?_⟩
      unfold gListR at hf
      split at hf
      · cases hf
        obtain ⟨a1, vs, rfl, h1, h2⟩ := Rp.lst R1 r1 hk
        exact ⟨a1, vs, rfl, SqL.of h1, fun p hp => new_lst R1 h2.reverse (fun F' H' w R' s' t' rw => hq F' H' w R' (s1.trans s') (t1.trans t') rw) p hp⟩
      · cases hf
end
end DL

/-! list(reversed(a tuple)) -/
namespace DL
open PySem PySem.Spec PyProof.Rows L2
theorem nolen_rt : typeLookup (.type "reversed") "__len__" = pure none := by rw [typeLookup_type, builtinLookup_eq_fast]; kernel_rfl
theorem hint_rt : typeLookup (.type "reversed") "__length_hint__" = pure (some (.builtin "reversed.__length_hint__")) := by rw [typeLookup_type, builtinLookup_eq_fast]; kernel_rfl
theorem tup_at {h h' : Heap} {a : Addr} {items : Array Value} (x : IsTup h a items) (e : ∀ o, h.get? a = some o → h'.get? a = some o) : IsTup h' a items := let ⟨o, ho, r⟩ := x; ⟨o, e _ ho, r⟩
theorem walks_rt {prog : Program} {w : World} {A : Around} (hh : A.handled = none) (I l : Addr) (hne : l ≠ I) (items : Array Value) (hn : items.size ≤ sizeLine) :
    Walks prog w A I [I, l] [I] items.size (fun i v => items[items.size - 1 - i]? = some v) (fun i h => i ≤ items.size ∧ RT.IsRt h I l ((items.size : Int) - 1 - (i : Int)) ∧ IsTup h l items) where
  sub := fun b hb => by simp at hb; simp [hb]
  frame := fun _ _ _ x hk => ⟨x.1, x.2.1.at fun o e => hk I (by simp) o e, tup_at x.2.2 fun o e => hk l (by simp) o e⟩
  item := fun i s Q E hi x hQ => by
    have e : (items.size : Int) - 1 - (i : Int) = ((items.size - 1 - i : Nat) : Int) := by omega
    have hit := x.2.1
    rw [e] at hit
    have hx : items[items.size - 1 - i]? = some (items[items.size - 1 - i]'(by omega)) := Array.getElem?_eq_getElem (by omega)
    refine RT.next_rt_item hit x.2.2 hx hn fun h' hit' hs' => ?_
    have e2 : ((items.size - 1 - i : Nat) : Int) - 1 = (items.size : Int) - 1 - ((i + 1 : Nat) : Int) := by omega
    rw [e2] at hit'
    exact hQ _ h' (s.toks + 1) hx ⟨hi, hit', tup_at x.2.2 fun o eo => (hs'.2 l hne).trans eo⟩ fun b o hb eo => hs'.extBut b o (fun h => hb (by simp [h])) eo
  done := fun s Q E x hQ => by
    have e : (items.size : Int) - 1 - (items.size : Int) = -1 := by omega
    have hit := x.2.1
    rw [e] at hit
    exact RT.next_rt_end hh hit fun h' he' => hQ h' s.toks fun b o hb eo => he' b o (fun h => hb (by simp [h])) eo
  self := fun _ _ _ _ x hQ => RT.iter_rt x.2.1 hQ
theorem slot_rt_hint : Slot "reversed" "__length_hint__" "reversed.__length_hint__" :=
  .of (owner := "reversed") (n := "__length_hint__") (by rw [typeLookup_type, builtinLookup_eq_fast]; kernel_rfl) (by decide +kernel) (by decide +kernel) (by decide +kernel)
    (by first | exact .inl (by decide +kernel) | exact .inr (by decide +kernel)) (by rw [isSubtype_type]; kernel_rfl)
theorem entry_rt_hint : entryFor table "reversed.__length_hint__" = some Builtin.«reversed.__length_hint__» := entryFor_of_tree (by kernel_rfl)
theorem args_rt_hint (a : Value) : argsOk "reversed.__length_hint__" ⟨[a], []⟩ := by
  unfold argsOk; rw [signature?_of (id := "reversed.__length_hint__") (n := ['_', '_', 't', 'n', 'i', 'h', '_', 'h', 't', 'g', 'n', 'e', 'l', '_', '_']) (o := ['d', 'e', 's', 'r', 'e', 'v', 'e', 'r']) (by kernel_rfl) RT.owner_rt]; kernel_rfl
section
variable {prog : Program} {w : World} {A : Around} {E : Value → Shared → Prop} {s : Shared}
theorem rt_hint {it l : Addr} {items : Array Value} {Q : Value → Shared → Prop} (hit : RT.IsRt s.heap it l ((items.size : Int) - 1)) (ht : IsTup s.heap l items) (hn : items.size ≤ sizeLine)
    (hQ : ∀ tk tk', Q (.int (items.size : Int) tk) { s with toks := tk' }) : wpAny (model prog w) A (call (.builtin "reversed.__length_hint__") [.ref it]) Q E s := by
  obtain ⟨o, ho, hc, hd⟩ := id hit
  rw [sizeLine_eq] at hn
  refine wpAny_call_entry slot_rt_hint hit.typeIs entry_rt_hint ?_ (args_rt_hint _)
  unfold Builtin.«reversed.__length_hint__»
  refine wpAny_bind (wpAny_of_eq (a := Value.ref it) rfl ?_)
  try dsimp only
  refine wpAny_bind (wpAny_field ho hd (x := .ref l) rfl ?_)
  try dsimp only
  rw [if_neg (show ¬ ((Value.ref l == Value.none) = true) from Bool.false_ne_true)]
  refine wpAny_bind (len_tuple ht (by omega) ?_)
  refine wpAny_bind (wpAny_of_eq (a := some ((items.size : Nat) : Int)) rfl ?_)
  try dsimp only
  refine wpAny_bind (wpAny_field (s := { s with toks := s.toks + 1 + 1 }) ho hd (x := rawInt ((items.size : Int) - 1)) rfl ?_)
  show wpAny _ _ (if ((items.size : Nat) : Int) < (items.size : Int) - 1 + 1 then _ else _) _ _ _
  rw [if_neg (by omega)]
  have e : (items.size : Int) - 1 + 1 = (items.size : Int) := by omega
  rw [e]
  refine wpAny_bind (wpAny_mkInt ?_)
  exact wpAny_pure ⟨_, rfl, hQ _ _⟩
theorem extend_rt {R : Result → Shared → Prop} (hh : A.handled = none) {it l S : Addr} {items : Array Value} (res : Value) (c₀ : Nat) (hit : RT.IsRt s.heap it l ((items.size : Int) - 1)) (hl : IsTup s.heap l items) (hne : l ≠ it) (hn : items.size ≤ sizeLine)
    (hSi : S ≠ it) (hSl : S ≠ l) (hS : s.heap.get? S = some { cls := .type "list", data := .seq #[] c₀ })
    (hR : ∀ h' tk acc' c', (∀ b o, b ≠ S → b ≠ it → s.heap.get? b = some o → h'.get? b = some o) → h'.get? S = some { cls := .type "list", dict := none, data := .seq acc' c', slots := #[] } →
      ItemsOf (fun i v => items[items.size - 1 - i]? = some v) acc' items.size → R (.ok (.ret res)) { s with heap := h', toks := tk }) :
    wpAny (model prog w) A.in1 (Builtin.List.listExtendWith (.ref S) (.ref it) res)
      (fun fin s' => match fin with | .done f => R (.ok f) s' | .again c' => c'.quiet = true ∧ codeAny (model prog w) A c' R s') (fun e s' => R (.error e) s') s := by
  have W := (walks_rt (prog := prog) (w := w) (A := A.in1) hh it l hne items hn).toS
  have hSf : S ∉ [it, l] := by simp only [List.mem_cons, List.not_mem_nil, or_false, not_or]; exact ⟨hSi, hSl⟩
  have hT : s.TypeIs (.ref it) "reversed" := hit.typeIs
  have h1 : Builtin.List.listSameRef (.ref S) (.ref it) = false := by simp [Builtin.List.listSameRef, hSi]
  have e0 : ((items.size : Nat) : Int) - 1 - ((0 : Nat) : Int) = (items.size : Int) - 1 := by omega
  have fin : ∀ (h0 : Heap) (c tk : Nat), (∀ b o, b ≠ S → s.heap.get? b = some o → h0.get? b = some o) → h0.get? S = some { cls := .type "list", data := .seq #[] c } →
      wpAny (model prog w) A.in1 (again (.builtin "list.extend.loop" ⟨[.ref S, .ref it, res], []⟩))
      (fun fin s' => match fin with | .done f => R (.ok f) s' | .again c' => c'.quiet = true ∧ codeAny (model prog w) A c' R s') (fun e s' => R (.error e) s') { s with heap := h0, toks := tk } := fun h0 c tk k0 hS0 => by
    refine wpAny_pure ⟨plainId_quiet F.plain_extend_loop _, codeAny_extend_loopS W hn _ hSf _ items.size 0 _ _ _ rfl (Nat.zero_le _) ⟨Nat.zero_le _, by rw [e0]; exact hit.at fun o e => k0 it o (Ne.symm hSi) e, tup_at hl fun o e => k0 l o (Ne.symm hSl) e⟩ hS0 (ItemsOf.nil _) fun s' acc' c' hm hS' hacc => ?_⟩
    rw [Moved.eq_with hm]
    refine hR s'.heap s'.toks acc' c' (fun b o hb hb2 e => hm.heap b o (fun hmem => ?_) (k0 b o hb e)) hS' hacc
    rcases List.mem_cons.mp hmem with e' | hmem
    · exact hb e'
    · exact hb2 (List.mem_singleton.mp hmem)
  unfold Builtin.List.listExtendWith
  refine wpAny_bind (wpAny_typeOf hT ?_)
  rw [if_neg (by rw [h1]; decide)]
  refine wpAny_bind (RT.iter_rt hit ?_)
  refine wpAny_bind (wpAny_holding ?_)
  unfold Builtin.List.listLengthHint
  refine wpAny_bind (wpAny_specialOf hT nolen_rt ?_)
  show wpAny _ A.in1 (specialOf (Value.ref it) (Str.ofString "__length_hint__") >>= _) _ _ _
  refine wpAny_bind (wpAny_specialOf hT hint_rt ?_)
  generalize hid : ("reversed.__length_hint__" : String) = id0
  wp_delta
  rw [show splitId id0 = some ("reversed", "__length_hint__") from by subst hid; decide +kernel]
  subst hid
  refine wpAny_bind (wpAny_isInstance (b := true) hT (by rw [isSubtype_type]; kernel_rfl) ?_)
  rw [if_neg (by decide)]
  try dsimp only
  rw [if_neg (by decide +kernel)]
  refine wpAny_bind (wpAny_rule ?_)
  refine wpAny_bind (wpAny_of_eq (slot_rt_hint.bind _) ?_)
  try dsimp only
  refine wpAny_bind (wpAny_attempt ?_)
  refine rt_hint hit hl hn fun tk tk' => ?_
  try dsimp only
  refine wpAny_bind (m := asInt? (Value.int (items.size : Int) tk)) ?_
  refine wpAny_pure ?_
  try dsimp only
  have hq1 : Builtin.List.listFitsIndex ((items.size : Nat) : Int) = true := by
    have hn' := hn
    rw [sizeLine_eq] at hn'
    unfold Builtin.List.listFitsIndex
    rw [Bool.and_eq_true, decide_eq_true_eq, decide_eq_true_eq]
    constructor <;> omega
  have hq2 : Builtin.List.listTooLong ((items.size : Nat) : Int).toNat = false := by
    unfold Builtin.List.listTooLong
    rw [Int.toNat_natCast]
    exact decide_eq_false (by omega)
  rw [if_neg (by rw [hq1]; decide), if_neg (by omega), if_neg (by rw [hq2]; decide)]
  refine wpAny_pure ?_
  generalize (((items.size : Nat) : Int) != 0) = bb
  cases bb
  · rw [if_neg (by decide +kernel)]
    exact fin s.heap c₀ tk' (fun b o _ e => e) hS
  · rw [if_pos (by rfl)]
    clear hn hq1 hq2 W e0
    refine wpAny_bind (wpAny_rule ?_)
    refine wpAny_bind ?_
    show wpAny _ A.in1 (updateSeq S (·.push .none) >>= fun _ => updateSeq S (·.pop)) _ _ _
    refine wpAny_bind (wpAny_updateSeq (s := { s with toks := tk' }) hS rfl ?_)
    have hS₂ := Heap.get?_update_self (Obj.mapSeq (·.push Value.none)) hS rfl
    refine wpAny_updateSeq (hz := by seq_fits) hS₂ rfl ?_
    have hS₃ := Heap.get?_update_self (Obj.mapSeq (·.pop)) hS₂ rfl
    have oth : ∀ b o, b ≠ S → s.heap.get? b = some o → ((s.heap.update S (Obj.mapSeq (·.push Value.none))).update S (Obj.mapSeq (·.pop))).get? b = some o :=
      fun b o hb e => (Heap.get?_update_other _ _ (Ne.symm hb)).trans ((Heap.get?_update_other _ _ (Ne.symm hb)).trans e)
    exact fin _ _ tk' oth hS₃
theorem list_init_rt {R : Result → Shared → Prop} (hh : A.handled = none) {it l S : Addr} {items : Array Value} (hit : RT.IsRt s.heap it l ((items.size : Int) - 1)) (hl : IsTup s.heap l items) (hne : l ≠ it) (hn : items.size ≤ sizeLine)
    (hSi : S ≠ it) (hSl : S ≠ l) (hS : s.heap.get? S = some { cls := .type "list", data := .seq #[] })
    (hR : ∀ h' tk acc' c', (∀ b o, b ≠ S → b ≠ it → s.heap.get? b = some o → h'.get? b = some o) → h'.get? S = some { cls := .type "list", dict := none, data := .seq acc' c', slots := #[] } →
      ItemsOf (fun i v => items[items.size - 1 - i]? = some v) acc' items.size → R (.ok (.ret .none)) { s with heap := h', toks := tk }) :
    wpAny (model prog w) A.in1 (Builtin.«list.__init__» ⟨[.ref S, .ref it], []⟩)
      (fun fin s' => match fin with | .done f => R (.ok f) s' | .again c' => c'.quiet = true ∧ codeAny (model prog w) A c' R s') (fun e s' => R (.error e) s') s := by
  show wpAny _ _ (do let old ← Builtin.List.listItems (.ref S); Builtin.List.listUpdate (.ref S) (fun _ => #[]); letGo old.toList.reverse; Builtin.List.listExtendWith (.ref S) (.ref it) .none) _ _ s
  refine wpAny_bind ?_
  unfold Builtin.List.listItems
  refine wpAny_bind (wpAny_seqItems hS rfl (wpAny_pure ?_))
  show wpAny _ _ (updateSeq S (fun _ => #[]) >>= fun _ => letGo (#[] : Array Value).toList.reverse >>= fun _ => Builtin.List.listExtendWith (.ref S) (.ref it) .none) _ _ s
  refine wpAny_bind (wpAny_updateSeq hS rfl ?_)
  have hS₂ := Heap.get?_update_self (Obj.mapSeq (fun _ => (#[] : Array Value))) hS rfl
  have oth : ∀ b o, b ≠ S → s.heap.get? b = some o → (s.heap.update S (Obj.mapSeq (fun _ => (#[] : Array Value)))).get? b = some o :=
    fun b o hb e => (Heap.get?_update_other _ _ (Ne.symm hb)).trans e
  refine wpAny_bind (wpAny_letGo ?_)
  refine extend_rt (s := { s with heap := s.heap.update S (Obj.mapSeq (fun _ => (#[] : Array Value))) }) hh .none _ (hit.at fun o e => oth it o (Ne.symm hSi) e) (tup_at hl fun o e => oth l o (Ne.symm hSl) e) hne hn hSi hSl hS₂ fun h' tk acc' c' hk hS' hacc => ?_
  exact hR h' tk acc' c' (fun b o hb hb2 e => hk b o hb hb2 (oth b o hb e)) hS' hacc
theorem call_list_rt {it l : Addr} {items : Array Value} {Q : Value → Shared → Prop} (hh : A.handled = none) (hit : RT.IsRt s.heap it l ((items.size : Int) - 1)) (hl : IsTup s.heap l items) (hne : l ≠ it) (hn : items.size ≤ sizeLine)
    (hQ : ∀ h' tk acc' c', (∀ b o, b ≠ it → s.heap.get? b = some o → h'.get? b = some o) →
      h'.get? s.heap.objs.size = some { cls := .type "list", dict := none, data := .seq acc' c', slots := #[] } → ItemsOf (fun i v => items[items.size - 1 - i]? = some v) acc' items.size → Q (.ref s.heap.objs.size) { s with heap := h', toks := tk }) :
    wpAny (model prog w) A (call (.type "list") [.ref it]) Q E s := by
  refine callType_codes (Q₁ := fun obj s₁ => obj = .ref s.heap.objs.size ∧ s₁ = { s with heap := s.heap.push { cls := .type "list", data := .seq #[] } }) F.called_list (F.typeCall_list_1 _) F.entry_list_init
    (code_list_new _ ⟨rfl, rfl⟩) fun obj s₁ h₁ => ?_
  obtain ⟨rfl, rfl⟩ := h₁
  have hS : (s.heap.push { cls := .type "list", data := .seq #[] }).get? s.heap.objs.size = some { cls := .type "list", data := .seq #[] } := Heap.get?_push_size _ rfl
  obtain ⟨oi, hoi, _⟩ := id hit
  obtain ⟨ol, hol, _⟩ := id hl
  have hSi : s.heap.objs.size ≠ it := Nat.ne_of_gt (Heap.lt_size hoi)
  have hSl : s.heap.objs.size ≠ l := Nat.ne_of_gt (Heap.lt_size hol)
  refine ⟨⟨_, hS, rfl⟩, F.args_list_init_2 _ _, list_init_rt (A := A.in1) (s := { s with heap := s.heap.push { cls := .type "list", data := .seq #[] } }) hh (hit.at fun o e => Heap.get?_push_of_some _ e) (tup_at hl fun o e => Heap.get?_push_of_some _ e) hne hn hSi hSl hS fun h' tk acc' c' hk hS' hacc => ?_⟩
  exact ⟨rfl, hQ h' tk acc' c' (fun b o hb e => hk b o (Nat.ne_of_lt (Heap.lt_size e)) hb (Heap.get?_push_of_some _ e)) hS' hacc⟩
end
/-- list(reversed(x)), x a tuple: a new list -/
def tListRevT (K : PySem.W.Frag) (te : TE) : TE := fun σ H Q => te σ H fun v H1 => ∃ (a : Addr) (xs : List V), v = .ref a ∧ SqT K H1 a xs ∧ ∀ q, H1 q = none → Q (.ref q) (upd H1 q (.lst xs.reverse))
theorem pe_listRevT {X : Cx} {e : Expr} {te : TE} {p p2 pos pos2 : Pos} (hc : X.calm = true) (hg : Gl X "list") (hm : X.mg "list" = none) (hg2 : Gl X "reversed") (hm2 : X.mg "reversed" = none) (he : PE X e te)
    (hs : starEach [e] X.env = (false, eval e X.env) :: starEach [] X.env := by rfl)
    (hs2 : starEach [.Call (.Name "reversed" p2) [e] [] pos2] X.env = (false, eval (.Call (.Name "reversed" p2) [e] [] pos2) X.env) :: starEach [] X.env := by rfl) :
    PE X (.Call (.Name "list" p) [.Call (.Name "reversed" p2) [e] [] pos2] [] pos) (tListRevT X.K te) := by
  refine ⟨fun pins s σ H Q I h => ?_⟩
  refine Call_ (ld_blt I hg hm boot_list (PyProof.Rows.callWith_type1 (args_cons (Call_ (ld_blt I hg2 hm2 PyProof.Rows.boot_reversed (PyProof.Rows.callWith_type1 (args_cons (thn (he.run pins s σ H _ I h) fun u s1 ⟨v, H1, I1, r1, q1⟩ => args_nil ?_) hs) hs rfl))) hs2) hs2 rfl))
  obtain ⟨a, xs, ev, hq, q⟩ := q1
  subst ev
  obtain rfl : u = Value.ref a := r1
  obtain ⟨its, rv, p', hz⟩ := I1.tuple hq
  have hl := rv.length
  have hn63 := line63
  refine RT.call_reversed_tup p' (fun A E Q k => len_tuple p' (by simp only [List.size_toArray] <;> omega) k) (args_nil ?_)
  have k0 : ∀ b o, s1.heap.get? b = some o → (s1.heap.push (RT.rtObj a ((its.toArray.size : Int) - 1))).get? b = some o := fun b o e => Heap.get?_push_of_some _ e
  obtain ⟨ol, hol, _⟩ := id p'
  have hne : a ≠ s1.heap.objs.size := Nat.ne_of_lt (Heap.lt_size hol)
  have hn : its.toArray.size ≤ sizeLine := by rw [List.size_toArray, ← rv.length]; exact hz
  have hz2 : (s1.heap.push (RT.rtObj a ((its.toArray.size : Int) - 1))).objs.size = s1.heap.objs.size + 1 := Heap.size_push ..
  refine call_list_rt (s := { s1 with heap := s1.heap.push (RT.rtObj a ((its.toArray.size : Int) - 1)), toks := s1.toks + 1 + 1 }) (I1.ok.hd hc) ⟨_, Heap.get?_push_size _ rfl, rfl, rfl⟩ (tup_at p' fun o e => k0 _ o e) hne hn fun h' tk acc c' hk hS hi => ?_
  have hle : s1.heap.objs.size ≤ (s1.heap.push (RT.rtObj a ((its.toArray.size : Int) - 1))).objs.size := by rw [hz2]; exact Nat.le_succ _
  have hS' : h'.get? (s1.heap.push (RT.rtObj a ((its.toArray.size : Int) - 1))).objs.size = some { cls := .type "list", dict := none, data := .seq acc.toList.toArray c', slots := #[] } := by rw [Array.toArray_toList]; exact hS
  exact ⟨.ref _, upd H1 _ (.lst xs.reverse), I1.turnedNew (t' := tk) (ch := [s1.heap.objs.size]) (fun b o hb e => hk b o (fun z => hb (by simp [z])) (k0 b o e))
    (fun b hb => by rw [List.mem_singleton.mp hb]; exact I1.fpOk (Nat.le_refl _) (I1.hok.fresh (Nat.le_refl _))) hle
    (show ObjOk X.prog X.w _ h' _ (.lst xs.reverse) from ⟨by rw [List.length_reverse]; exact hz, acc.toList, c', RT.vals_rev rv hi, hS'⟩), rfl, q _ (I1.hok.fresh hle)⟩
section
variable {X : Cx} {T : Tb} {H0 : HZ} {Γ : List Mode} {a : Expr} {fa : EF} {ka : Knd} {pos po p2 pos2 : Pos} {q : Q3}
def gListRT : D → Option D
  | .tup ds => some (.lst ds.reverse)
  | _ => none
theorem de_listRevT (hc : X.calm = true) (hg : Gl X "list") (hm : X.mg "list" = none) (hg2 : Gl X "reversed") (hm2 : X.mg "reversed" = none) (ha : DE X T H0 Γ a fa (.q q))
    (hs : starEach [a] X.env = (false, eval a X.env) :: starEach [] X.env := by rfl)
    (hs2 : starEach [.Call (.Name "reversed" p2) [a] [] pos2] X.env = (false, eval (.Call (.Name "reversed" p2) [a] [] pos2) X.env) :: starEach [] X.env := by rfl) :
    DE X T H0 Γ (.Call (.Name "list" po) [.Call (.Name "reversed" p2) [a] [] pos2] [] pos) (e1 gListRT fa) (.ol q) :=
  PE.wk (pe_listRevT hc hg hm hg2 hm2 ha hs hs2) fun σ H Q ⟨F, O, ρ, d, R, hf, hq⟩ => by
    unfold e1 at hf
    cases h1 : fa ρ with
    | none => rw [h1] at hf; cases hf
    | some x =>
      rw [h1] at hf
      simp only [Option.bind_some] at hf
      refine ⟨F, O, ρ, x, R, h1, fun F1 H1 v R1 s1 t1 r1 => ?_⟩
      unfold gListRT at hf
      split at hf
      · cases hf
        obtain ⟨a1, vs, rfl, h1, h2⟩ := Rp.tupq R1 r1
        exact ⟨a1, vs, rfl, same_sqT R1.fh h1, fun p hp => new_lst R1 h2.reverse (fun F' H' w R' s' t' rw => hq F' H' w R' (s1.trans s') (t1.trans t') rw) p hp⟩
      · cases hf
end
end DL

/-! list(reversed(a range)) -/
namespace DL
open PySem PySem.Spec PyProof.Rows L2
section
variable {prog : Program} {w : World} {A : Around} {E : Value → Shared → Prop} {s : Shared}
theorem rit_hint {I : Addr} {a c : Int} {n : Int} {Q : Value → Shared → Prop} (hit : IsRangeIter s.heap I a n c) (hQ : ∀ tk tk', Q (.int n tk) { s with toks := tk' }) : wpAny (model prog w) A (call (.builtin "range_iterator.__length_hint__") [.ref I]) Q E s := by
  have hT : s.TypeIs (.ref I) "range_iterator" := ⟨_, hit, rfl⟩
  refine wpAny_call_entry F.slot_range_iterator_length_hint hT F.entry_range_iterator_length_hint ?_ (F.args_range_iterator_length_hint_1 _)
  unfold Builtin.«range_iterator.__length_hint__»
  refine wpAny_bind (wpAny_of_eq (a := Value.ref I) rfl ?_)
  try dsimp only
  refine wpAny_bind (wpAny_field hit rfl (x := rawInt n) rfl ?_)
  show wpAny _ _ (mkInt n >>= fun v => ret v) _ _ _
  refine wpAny_bind (wpAny_mkInt ?_)
  exact wpAny_pure ⟨_, rfl, hQ _ _⟩
theorem extend_rit {R : Result → Shared → Prop} (hh : A.handled = none) {it S : Addr} {a c : Int} {n : Nat} (res : Value) (c₀ : Nat) (hit : IsRangeIter s.heap it a (n : Int) c) (hn : n ≤ sizeLine)
    (hSi : S ≠ it) (hS : s.heap.get? S = some { cls := .type "list", data := .seq #[] c₀ })
    (hR : ∀ h' tk acc' c', (∀ b o, b ≠ S → b ≠ it → s.heap.get? b = some o → h'.get? b = some o) → h'.get? S = some { cls := .type "list", dict := none, data := .seq acc' c', slots := #[] } →
      ItemsOf (fun i v => ∃ t, v = .int (a + i * c) t) acc' n → R (.ok (.ret res)) { s with heap := h', toks := tk }) :
    wpAny (model prog w) A.in1 (Builtin.List.listExtendWith (.ref S) (.ref it) res)
      (fun fin s' => match fin with | .done f => R (.ok f) s' | .again c' => c'.quiet = true ∧ codeAny (model prog w) A c' R s') (fun e s' => R (.error e) s') s := by
  have W := (Walks.range (prog := prog) (w := w) (A := A.in1) hh it a c n).toS
  have hSf : S ∉ [it] := by simp only [List.mem_cons, List.not_mem_nil, or_false]; exact hSi
  have hT : s.TypeIs (.ref it) "range_iterator" := ⟨_, hit, rfl⟩
  have h1 : Builtin.List.listSameRef (.ref S) (.ref it) = false := by simp [Builtin.List.listSameRef, hSi]
  have e0 : IsRangeIter s.heap it (a + ((0 : Nat) : Int) * c) ((n : Int) - ((0 : Nat) : Int)) c := by simpa using hit
  unfold Builtin.List.listExtendWith
  refine wpAny_bind (wpAny_typeOf hT ?_)
  rw [if_neg (by rw [h1]; decide)]
  refine wpAny_bind (wpAny_pyIter_rangeiter hit ?_)
  refine wpAny_bind (wpAny_holding ?_)
  unfold Builtin.List.listLengthHint
  refine wpAny_bind (wpAny_specialOf hT F.nolen_ra ?_)
  show wpAny _ A.in1 (specialOf (Value.ref it) (Str.ofString "__length_hint__") >>= _) _ _ _
  refine wpAny_bind (wpAny_specialOf hT F.hint_ra ?_)
  generalize hid : ("range_iterator.__length_hint__" : String) = id0
  wp_delta
  rw [show splitId id0 = some ("range_iterator", "__length_hint__") from by subst hid; decide +kernel]
  subst hid
  refine wpAny_bind (wpAny_isInstance (b := true) hT (by rw [isSubtype_type]; kernel_rfl) ?_)
  show wpAny _ A.in1 (call (.builtin "range_iterator.__length_hint__") [.ref it] >>= _) _ _ _
  refine wpAny_bind (rit_hint hit fun tk tk' => ?_)
  refine wpAny_bind (m := asInt? (.int (n : Int) tk)) (wpAny_pure ?_)
  dsimp only
  have hq2 : Builtin.List.listTooLong ((n : Nat) : Int).toNat = false := by
    unfold Builtin.List.listTooLong
    rw [Int.toNat_natCast]
    exact decide_eq_false (Nat.not_lt.mpr hn)
  rw [if_neg (by rw [hq2]; decide)]
  refine wpAny_pure ?_
  rw [if_neg (by decide)]
  refine wpAny_pure ⟨plainId_quiet F.plain_extend_loop _, codeAny_extend_loopS W hn _ hSf _ n 0 _ _ _ rfl (Nat.zero_le _) e0 hS (ItemsOf.nil _) fun s' acc' c' hm hS' hacc => ?_⟩
  rw [Moved.eq_with hm]
  refine hR s'.heap s'.toks acc' c' (fun b o hb hb2 e => hm.heap b o (fun hmem => ?_) e) hS' hacc
  rcases List.mem_cons.mp hmem with e' | hmem
  · exact hb e'
  · exact hb2 (List.mem_singleton.mp hmem)
theorem list_init_rit {R : Result → Shared → Prop} (hh : A.handled = none) {it S : Addr} {a c : Int} {n : Nat} (hit : IsRangeIter s.heap it a (n : Int) c) (hn : n ≤ sizeLine)
    (hSi : S ≠ it) (hS : s.heap.get? S = some { cls := .type "list", data := .seq #[] })
    (hR : ∀ h' tk acc' c', (∀ b o, b ≠ S → b ≠ it → s.heap.get? b = some o → h'.get? b = some o) → h'.get? S = some { cls := .type "list", dict := none, data := .seq acc' c', slots := #[] } →
      ItemsOf (fun i v => ∃ t, v = .int (a + i * c) t) acc' n → R (.ok (.ret .none)) { s with heap := h', toks := tk }) :
    wpAny (model prog w) A.in1 (Builtin.«list.__init__» ⟨[.ref S, .ref it], []⟩)
      (fun fin s' => match fin with | .done f => R (.ok f) s' | .again c' => c'.quiet = true ∧ codeAny (model prog w) A c' R s') (fun e s' => R (.error e) s') s := by
  show wpAny _ _ (do let old ← Builtin.List.listItems (.ref S); Builtin.List.listUpdate (.ref S) (fun _ => #[]); letGo old.toList.reverse; Builtin.List.listExtendWith (.ref S) (.ref it) .none) _ _ s
  refine wpAny_bind ?_
  unfold Builtin.List.listItems
  refine wpAny_bind (wpAny_seqItems hS rfl (wpAny_pure ?_))
  show wpAny _ _ (updateSeq S (fun _ => #[]) >>= fun _ => letGo (#[] : Array Value).toList.reverse >>= fun _ => Builtin.List.listExtendWith (.ref S) (.ref it) .none) _ _ s
  refine wpAny_bind (wpAny_updateSeq hS rfl ?_)
  have hS₂ := Heap.get?_update_self (Obj.mapSeq (fun _ => (#[] : Array Value))) hS rfl
  have oth : ∀ b o, b ≠ S → s.heap.get? b = some o → (s.heap.update S (Obj.mapSeq (fun _ => (#[] : Array Value)))).get? b = some o :=
    fun b o hb e => (Heap.get?_update_other _ _ (Ne.symm hb)).trans e
  refine wpAny_bind (wpAny_letGo ?_)
  refine extend_rit (s := { s with heap := s.heap.update S (Obj.mapSeq (fun _ => (#[] : Array Value))) }) hh .none _ (oth it _ (Ne.symm hSi) hit) hn hSi hS₂ fun h' tk acc' c' hk hS' hacc => ?_
  exact hR h' tk acc' c' (fun b o hb hb2 e => hk b o hb hb2 (oth b o hb e)) hS' hacc
theorem call_list_rit {it : Addr} {a c : Int} {n : Nat} {Q : Value → Shared → Prop} (hh : A.handled = none) (hit : IsRangeIter s.heap it a (n : Int) c) (hn : n ≤ sizeLine)
    (hQ : ∀ h' tk acc' c', (∀ b o, b ≠ it → s.heap.get? b = some o → h'.get? b = some o) →
      h'.get? s.heap.objs.size = some { cls := .type "list", dict := none, data := .seq acc' c', slots := #[] } → ItemsOf (fun i v => ∃ t, v = .int (a + i * c) t) acc' n → Q (.ref s.heap.objs.size) { s with heap := h', toks := tk }) :
    wpAny (model prog w) A (call (.type "list") [.ref it]) Q E s := by
  refine callType_codes (Q₁ := fun obj s₁ => obj = .ref s.heap.objs.size ∧ s₁ = { s with heap := s.heap.push { cls := .type "list", data := .seq #[] } }) F.called_list (F.typeCall_list_1 _) F.entry_list_init
    (code_list_new _ ⟨rfl, rfl⟩) fun obj s₁ h₁ => ?_
  obtain ⟨rfl, rfl⟩ := h₁
  have hS : (s.heap.push { cls := .type "list", data := .seq #[] }).get? s.heap.objs.size = some { cls := .type "list", data := .seq #[] } := Heap.get?_push_size _ rfl
  have hSi : s.heap.objs.size ≠ it := Nat.ne_of_gt (Heap.lt_size hit)
  refine ⟨⟨_, hS, rfl⟩, F.args_list_init_2 _ _, list_init_rit (A := A.in1) (s := { s with heap := s.heap.push { cls := .type "list", data := .seq #[] } }) hh (Heap.get?_push_of_some _ hit) hn hSi hS fun h' tk acc' c' hk hS' hacc => ?_⟩
  exact ⟨rfl, hQ h' tk acc' c' (fun b o hb e => hk b o (Nat.ne_of_lt (Heap.lt_size e)) hb (Heap.get?_push_of_some _ e)) hS' hacc⟩
end
/-- n ints from lo on, each c more -/
def rcV (lo c : Int) (n : Nat) : List V := (List.range n).map fun i => V.int (lo + (i : Nat) * c)
theorem rcV_len (lo c : Int) (n : Nat) : (rcV lo c n).length = n := by unfold rcV; rw [List.length_map, List.length_range]
theorem vals_rc {lo c : Int} {n : Nat} {acc : Array Value} (h : ItemsOf (fun i v => ∃ t, v = .int (lo + i * c) t) acc n) : Vals (rcV lo c n) acc.toList := by
  have e : acc.toList.length = n := by rw [Array.length_toList]; exact h.1
  unfold rcV
  rw [← e]
  refine vals_of_get acc.toList _ fun j u hj => ?_
  obtain ⟨t, rfl⟩ := h.2 j u (by rw [← hj, Array.getElem?_toList])
  exact ⟨t, rfl⟩
/-- list(reversed(range(i, j))): a new list -/
def tListRevR (tr : L2.St → Hp → (Int → Int → Hp → Prop) → Prop) : TE := fun σ H Q => tr σ H fun i j H1 => RgOk i j ∧ ∀ q, H1 q = none → Q (.ref q) (upd H1 q (.lst (rcV (i + (((j - i).toNat : Nat) : Int) - 1) (-1) (j - i).toNat)))
theorem pe_listRevR {X : Cx} {e : Expr} {tr : L2.St → Hp → (Int → Int → Hp → Prop) → Prop} {p p2 pos pos2 : Pos} (hc : X.calm = true) (hg : Gl X "list") (hm : X.mg "list" = none) (hg2 : Gl X "reversed") (hm2 : X.mg "reversed" = none) (he : PRg X e tr)
    (hs : starEach [e] X.env = (false, eval e X.env) :: starEach [] X.env := by rfl)
    (hs2 : starEach [.Call (.Name "reversed" p2) [e] [] pos2] X.env = (false, eval (.Call (.Name "reversed" p2) [e] [] pos2) X.env) :: starEach [] X.env := by rfl) :
    PE X (.Call (.Name "list" p) [.Call (.Name "reversed" p2) [e] [] pos2] [] pos) (tListRevR tr) := by
  refine ⟨fun pins s σ H Q I h => ?_⟩
  refine Call_ (ld_blt I hg hm boot_list (PyProof.Rows.callWith_type1 (args_cons (Call_ (ld_blt I hg2 hm2 PyProof.Rows.boot_reversed (PyProof.Rows.callWith_type1 (args_cons (thn (he pins s σ H _ I h) fun u s1 hx => args_nil ?_) hs) hs rfl))) hs2) hs2 rfl))
  obtain ⟨r, a, b, t, w1, v, H1, eu, hr, I1, ⟨b1, b2, b3, b4, b5⟩, q⟩ := hx
  subst eu
  have hn : Builtin.Range.rangeSize a b 1 = (((b - a).toNat : Nat) : Int) := rangeSize_nat a b
  refine call_reversed_range hr (smallRev_one b1 b2 b3 b4) (args_nil ?_)
  have k0 : ∀ c o, s1.heap.get? c = some o → (s1.heap.push (rngRevObj a b 1)).get? c = some o := fun c o e => Heap.get?_push_of_some _ e
  have hit : IsRangeIter (s1.heap.push (rngRevObj a b 1)) s1.heap.objs.size (a + (((b - a).toNat : Nat) : Int) - 1) (((b - a).toNat : Nat) : Int) (-1) := by
    have e1 : a + (((b - a).toNat : Nat) : Int) - 1 = a + (Builtin.Range.rangeSize a b 1 - 1) * 1 := by rw [hn]; omega
    show _ = _
    rw [e1, ← hn]
    exact Heap.get?_push_size _ rfl
  have hz2 : (s1.heap.push (rngRevObj a b 1)).objs.size = s1.heap.objs.size + 1 := Heap.size_push ..
  have hsz : (b - a).toNat ≤ sizeLine := by rw [sizeLine_eq]; omega
  refine call_list_rit (s := { s1 with heap := s1.heap.push (rngRevObj a b 1) }) (I1.ok.hd hc) hit hsz fun h' tk acc c' hk hS hi => ?_
  have hle : s1.heap.objs.size ≤ (s1.heap.push (rngRevObj a b 1)).objs.size := by rw [hz2]; exact Nat.le_succ _
  have hS' : h'.get? (s1.heap.push (rngRevObj a b 1)).objs.size = some { cls := .type "list", dict := none, data := .seq acc.toList.toArray c', slots := #[] } := by rw [Array.toArray_toList]; exact hS
  exact ⟨.ref _, upd H1 _ (.lst (rcV (a + (((b - a).toNat : Nat) : Int) - 1) (-1) (b - a).toNat)), I1.turnedNew (t' := tk) (ch := [s1.heap.objs.size]) (fun b o hb e => hk b o (fun z => hb (by simp [z])) (k0 b o e))
    (fun b hb => by rw [List.mem_singleton.mp hb]; exact I1.fpOk (Nat.le_refl _) (I1.hok.fresh (Nat.le_refl _))) hle
    (show ObjOk X.prog X.w _ h' _ (.lst _) from ⟨by rw [rcV_len]; exact hsz, acc.toList, c', vals_rc hi, hS'⟩), rfl, q _ (I1.hok.fresh hle)⟩
section
variable {X : Cx} {T : Tb} {H0 : HZ} {Γ : List Mode} {a : Expr} {fa : EF} {ka : Knd} {pos po p2 pos2 p3 q2 : Pos} {q : Q3}
theorem rc_reps {K : PySem.W.Frag} {N : Addr → Prop} {F : Hp} (lo c : Int) (n : Nat) : RepsG K T N F (rcV lo c n) (rangeC lo c n) := by
  have h1 : rcV lo c n = ((List.range n).map fun (k : Nat) => lo + (k : Int) * c).map V.int := by unfold rcV; rw [List.map_map]; rfl
  have h2 : rangeC lo c n = ((List.range n).map fun (k : Nat) => lo + (k : Int) * c).map D.int := by unfold rangeC; rw [List.map_map]; rfl
  rw [h1, h2]
  exact vals_reps _
/-- list(reversed(range(j))) -/
def gLrgR (x : D) : Option D := i1 (fun j => if small 62 j ∧ j ≤ 1000000 then some (.lst (rangeC (0 + (((j - 0).toNat : Nat) : Int) - 1) (-1) (j - 0).toNat)) else none) x
theorem de_lrgR (hc : X.calm = true) (hg : Gl X "list") (hm : X.mg "list" = none) (hg3 : Gl X "reversed") (hm3 : X.mg "reversed" = none) (hg2 : Gl X "range") (hm2 : X.mg "range" = none) (ha : DE X T H0 Γ a fa ka)
    (hs : starEach [a] X.env = (false, eval a X.env) :: starEach [] X.env := by rfl) (hs2 : starEach [Expr.Call (.Name "range" p2) [a] [] q2] X.env = (false, eval (Expr.Call (.Name "range" p2) [a] [] q2) X.env) :: starEach [] X.env := by rfl)
    (hs3 : starEach [Expr.Call (.Name "reversed" p3) [Expr.Call (.Name "range" p2) [a] [] q2] [] pos2] X.env = (false, eval (Expr.Call (.Name "reversed" p3) [Expr.Call (.Name "range" p2) [a] [] q2] [] pos2) X.env) :: starEach [] X.env := by rfl) :
    DE X T H0 Γ (.Call (.Name "list" po) [.Call (.Name "reversed" p3) [.Call (.Name "range" p2) [a] [] q2] [] pos2] [] pos) (e1 gLrgR fa) (.ol q) :=
  PE.wk (pe_listRevR hc hg hm hg3 hm3 (prg_1 hg2 hm2 ha hs) hs2 hs3) fun σ H Q ⟨F, O, ρ, d, R, hf, hq⟩ => by
    unfold e1 at hf
    cases h1 : fa ρ with
    | none => rw [h1] at hf; cases hf
    | some x =>
      rw [h1] at hf
      simp only [Option.bind_some] at hf
      refine ⟨F, O, ρ, x, R, h1, fun F1 H1 v R1 s1 t1 r1 => ?_⟩
      unfold gLrgR i1 at hf
      split at hf
      · rename_i j
        dsimp only at hf
        split at hf
        · rename_i hj
          cases hf
          rw [r1.int]
          exact ⟨j, rfl, rgOk_of (by decide) hj.1 (by omega), fun u hu => new_lst R1 (rc_reps _ _ _) (fun F' H' w R' s' t' r' => hq F' H' w R' (s1.trans s') (t1.trans t') r') u hu⟩
        · cases hf
      · cases hf
end
end DL

namespace DL
open PySem PySem.Spec PyProof.Rows L2

/-! ### dicts -/
section
variable {κ : Type} [DecidableEq κ]
def dFind : List κ → List D → κ → Option D
  | k :: ks, d :: ds, x => if k = x then some d else dFind ks ds x
  | _, _, _ => none
def dRep : List κ → List D → κ → D → List D
  | k :: ks, d :: ds, x, y => (if k = x then y else d) :: dRep ks ds x y
  | _, _, _, _ => []
def dPut (ks : List κ) (ds : List D) (x : κ) (y : D) : List κ × List D := if ks.any (fun k => decide (k = x)) = true then (ks, dRep ks ds x y) else (ks ++ [x], ds ++ [y])
def FitsO (K : PySem.W.Frag) (T : Tb) (N : Addr → Prop) (F : Hp) (o : Option D) (r : Option V) : Prop := match o with
  | some d => ∃ w, r = some w ∧ RepG K T N F w d
  | none => r = none
theorem find_val {K : PySem.W.Frag} {T : Tb} {N : Addr → Prop} {F : Hp} {k : κ} : ∀ {kvs : List (κ × V)} {ds : List D}, RepsG K T N F (kvs.map (·.2)) ds → FitsO K T N F (dFind (kvs.map (·.1)) ds k) (valV kvs k)
  | [], _, r => by cases r; exact valV_nil
  | p :: kvs, _, r => by
    rw [List.map_cons] at r
    cases r with
    | @cons v vs d ds h1 h2 =>
      have ih := find_val (k := k) h2
      rw [List.map_cons]
      unfold dFind
      by_cases e : p.1 = k
      · rw [if_pos e]; exact ⟨p.2, valV_pos e, h1⟩
      · rw [if_neg e]
        cases hd' : dFind (kvs.map (·.1)) ds k with
        | some d' =>
          rw [hd'] at ih
          obtain ⟨v, e1, e2⟩ := ih
          exact ⟨v, by rw [valV_neg e]; exact e1, e2⟩
        | none =>
          rw [hd'] at ih
          show valV (p :: kvs) k = none
          rw [valV_neg e]; exact ih
theorem rep_val {K : PySem.W.Frag} {T : Tb} {N : Addr → Prop} {F : Hp} {k : κ} {v : V} {d : D} (h : RepG K T N F v d) : ∀ {kvs : List (κ × V)} {ds : List D}, RepsG K T N F (kvs.map (·.2)) ds → RepsG K T N F ((kvs.map fun kv => if kv.1 = k then (kv.1, v) else kv).map (·.2)) (dRep (kvs.map (·.1)) ds k d)
  | [], _, r => by cases r; exact .nil
  | p :: kvs, _, r => by
    rw [List.map_cons] at r
    cases r with
    | @cons w vs e ds h1 h2 =>
      have ih := rep_val (k := k) h h2
      simp only [List.map_cons]
      unfold dRep
      refine .cons ?_ ih
      by_cases e : p.1 = k
      · rw [if_pos e, if_pos e]; exact h
      · rw [if_neg e, if_neg e]; exact h1
theorem put_val {K : PySem.W.Frag} {T : Tb} {N : Addr → Prop} {F : Hp} {k : κ} {v : V} {d : D} (h : RepG K T N F v d) {kvs : List (κ × V)} {ds : List D} (r : RepsG K T N F (kvs.map (·.2)) ds) :
    (putK kvs k v).map (·.1) = (dPut (kvs.map (·.1)) ds k d).1 ∧ RepsG K T N F ((putK kvs k v).map (·.2)) (dPut (kvs.map (·.1)) ds k d).2 := by
  unfold putK dPut
  rw [List.any_map]
  by_cases e : (kvs.any fun kv => decide (kv.1 = k)) = true
  · rw [if_pos e, if_pos (show kvs.any ((fun k' => decide (k' = k)) ∘ fun x => x.1) = true from e)]
    refine ⟨?_, rep_val h r⟩
    rw [List.map_map]
    apply List.map_congr_left
    intro p _
    show (if p.1 = k then (p.1, v) else p).1 = p.1
    split <;> rfl
  · rw [if_neg e, if_neg (show ¬ kvs.any ((fun k' => decide (k' = k)) ∘ fun x => x.1) = true from e)]
    refine ⟨by simp, ?_⟩
    rw [List.map_append]
    exact r.append (.cons h .nil)
end
def keyD : D → Option Key
  | .int i => some (.inl i)
  | .str s => some (.inr s)
  | _ => none
def keysD : List D → Option (List Key)
  | [] => some []
  | d :: ds => (keyD d).bind fun k => (keysD ds).bind fun ks => some (k :: ks)
def gDG (x y : D) : Option (Option D) := match x with
  | .dic ks ds => (keyD y).map fun k => dFind ks ds k
  | .dit ks ds => (match y with
    | .tup ys => (keysD ys).map fun k => dFind ks ds k
    | _ => none)
  | _ => none
def gDGet (x y : D) : Option D := (gDG x y).bind fun o => o
def gDIn (y x : D) : Option D := (gDG x y).map fun o => .bl o.isSome
def gDNotIn (y x : D) : Option D := (gDG x y).map fun o => .bl (!o.isSome)
def gDOr (x y z : D) : Option D := (gDG x y).map fun o => o.getD z
theorem key_val {K : PySem.W.Frag} {T : Tb} {N : Addr → Prop} {F : Hp} {v : V} {d : D} {k : Key} (r : RepG K T N F v d) (h : keyD d = some k) : v = kV k := by
  cases d <;> first | (cases h; cases r; rfl) | cases h
theorem keys_val {K : PySem.W.Frag} {T : Tb} {N : Addr → Prop} {F : Hp} : ∀ {vs : List V} {ds : List D} {ks : List Key}, RepsG K T N F vs ds → keysD ds = some ks → vs = ks.map kV
  | _, _, _, .nil, h => by cases h; rfl
  | _, _, _, @RepsG.cons _ _ _ _ v vs d ds r rs, h => by
    unfold keysD at h
    cases h1 : keyD d with
    | none => rw [h1] at h; cases h
    | some k =>
      rw [h1] at h
      simp only [Option.bind_some] at h
      cases h2 : keysD ds with
      | none => rw [h2] at h; cases h
      | some ks =>
        rw [h2] at h
        cases h
        rw [List.map_cons, key_val r h1, keys_val rs h2]
section
variable {X : Cx} {T : Tb} {H0 : HZ} {Γ Γ1 Γn Γm : List Mode} {J : Jm} {e a b tg iter : Expr} {es : List Expr} {st : Stmt} {sts : List Stmt} {f g : SF} {fe fa fb fc : EF} {k ka kb kc : Knd} {pos po : Pos} {q p : Q3} {fi : List D → Option (List D)} {c : Bool} {fs : List D → Option (List D)}
/-- a dict as it stands, its items frozen -/
def DictR (K : PySem.W.Frag) (T : Tb) (H0 : Hp) (q : Q3) (F H : Hp) (v : V) (d : D) : Prop := ∃ a, v = .ref a ∧
  ((∃ kvs ds, d = .dic (kvs.map (·.1)) ds ∧ Rd H a (.dK kvs) ∧ Rqs K T H0 q F (kvs.map (·.2)) ds) ∨ (∃ kvs ds, d = .dit (kvs.map (·.1)) ds ∧ Rd H a (.dT kvs) ∧ Rqs K T H0 q F (kvs.map (·.2)) ds))
theorem DictR.move {K : PySem.W.Frag} {F F' H H' : Hp} {v : V} {d : D} (h : DictR K T H0 q F H v d) (s : Same F F') (t : Sm H H') : DictR K T H0 q F' H' v d := by
  obtain ⟨a, e, h⟩ := h
  rcases h with ⟨kvs, ds, h1, h2, h3⟩ | ⟨kvs, ds, h1, h2, h3⟩
  · exact ⟨a, e, .inl ⟨kvs, ds, h1, sm_rd t h2, s.rqs h3⟩⟩
  · exact ⟨a, e, .inr ⟨kvs, ds, h1, sm_rd t h2, s.rqs h3⟩⟩
def tDd (K : PySem.W.Frag) (T : Tb) (H0 : HZ) (Γ : List Mode) (f : EF) (q : Q3) : TE := fun σ H Q =>
  ∃ F O ρ d, Rl K T H0 Γ F O σ H ρ ∧ f ρ = some d ∧ ∀ F' H' v, Rl K T H0 Γ F' O σ H' ρ → Same F F' → Sm H H' → (gDG d = gDG d → ∀ y o, gDG d y = some o → DictR K T H0 q F' H' v d) → Q v H'
abbrev DD (X : Cx) (T : Tb) (H0 : HZ) (Γ : List Mode) (e : Expr) (f : EF) (q : Q3) : Prop := PE X e (tDd X.K T H0 Γ f q)
theorem dd_q (h : DE X T H0 Γ e fe (.q q)) : DD X T H0 Γ e fe q := PE.wk h fun σ H Q ⟨F, O, ρ, d, R, hf, hq⟩ =>
  ⟨F, O, ρ, d, R, hf, fun F' H' v R' s t r => hq F' H' v R' s t fun _ y o ho => by
    cases d <;> first | (cases ho; done) | skip
    · rename_i ks ds
      cases r with
      | @dic a kvs ds h1 h2 h3 => exact ⟨a, rfl, .inl ⟨kvs, _, rfl, .inl (R'.fh _ _ h1), h3⟩⟩
    · cases r with
      | @dit a kvs ds h1 h2 h3 => exact ⟨a, rfl, .inr ⟨kvs, _, rfl, .inl (R'.fh _ _ h1), h3⟩⟩⟩
theorem dd_os (i : Nat) (hm : Γ[i]? = some (.os (.dic q)) ∨ Γ[i]? = some (.os (.dit q))) {x : Str} (h : PE X (.Name x pos) (tVar i)) : DD X T H0 Γ (.Name x pos) (eV i) q := PE.wk h fun σ H Q ⟨F, O, ρ, d, R, hf, hq⟩ => by
  rcases hm with hm | hm <;>
  · obtain ⟨v, d', h1, h2, a, kvs, ds, e1, e2, h3, h4, h5⟩ := R.sl i _ hm
    have : ρ[i]? = some d := hf
    rw [h2] at this; cases this
    subst e1; subst e2
    refine ⟨_, h1, hq F H _ R (.refl _) (.refl _) fun _ _ _ _ => ⟨a, rfl, ?_⟩⟩
    first | exact .inl ⟨kvs, ds, rfl, .inl h3, h5⟩ | exact .inr ⟨kvs, ds, rfl, .inl h3, h5⟩
theorem dg_core {K : PySem.W.Frag} {F H : Hp} {v u : V} {x y : D} {o : Option D} (hx : DictR K T H0 q F H v x) (hy : RU K T H u y) (h : gDG x y = some o) :
    ∃ a r, v = .ref a ∧ IsD H a ∧ DGet H a u r ∧ FitsO K T (NK H0 q) F o r := by
  obtain ⟨a, e, hx⟩ := hx
  subst e
  rcases hx with ⟨kvs, ds, h1, h2, h3⟩ | ⟨kvs, ds, h1, h2, h3⟩
  · subst h1
    unfold gDG at h
    cases h4 : keyD y with
    | none => rw [h4] at h; cases h
    | some k =>
      rw [h4] at h
      cases h
      rw [key_val hy h4]
      refine ⟨a, _, rfl, .inl ⟨kvs, h2⟩, .inl ⟨kvs, k, h2, rfl, rfl⟩, ?_⟩
      exact find_val (k := k) h3
  · subst h1
    cases y <;> first | (cases h; done) | skip
    rename_i ys
    have h : Option.map (fun k => dFind (kvs.map (·.1)) ds k) (keysD ys) = some o := h
    cases h4 : keysD ys with
    | none => rw [h4] at h; cases h
    | some k =>
      rw [h4] at h
      cases h
      cases hy with
      | @tup b vs ds' h5 h6 =>
        rw [keys_val h6 h4] at h5
        refine ⟨a, _, rfl, .inr ⟨kvs, h2⟩, .inr ⟨kvs, k, b, h2, rfl, h5, rfl⟩, ?_⟩
        exact find_val (k := k) h3
theorem de_dget {j : Nat} (ha : DD X T H0 Γ a fa q) (hb : DE X T H0 Γ b fb kb) (hr : Room j X.A) (hs : NoSl b := by exact fun _ _ => rfl) : DE X T H0 Γ (.Subscript a b pos) (e2 gDGet fa fb) (.q q) :=
  PE.wk (pe_dget (hu_of hr) ha hb hs) fun σ H Q ⟨F, O, ρ, d, R, hf, hq⟩ => by
    unfold e2 at hf
    cases h1 : fa ρ with
    | none => rw [h1] at hf; cases hf
    | some x =>
      rw [h1] at hf
      simp only [Option.bind_some] at hf
      cases h2 : fb ρ with
      | none => rw [h2] at hf; cases hf
      | some y =>
        rw [h2] at hf
        simp only [Option.bind_some] at hf
        unfold gDGet at hf
        cases h3 : gDG x y with
        | none => rw [h3] at hf; cases hf
        | some o =>
          rw [h3] at hf
          simp only [Option.bind_some] at hf
          subst hf
          refine ⟨F, O, ρ, x, R, h1, fun F1 H1 v R1 s1 t1 dr => ⟨F1, O, ρ, y, R1, h2, fun F2 H2 u R2 s2 t2 ru => ?_⟩⟩
          obtain ⟨a, r, e, _, g, w, e2, rw'⟩ := dg_core ((dr rfl y _ h3).move s2 t2) (R2.toB ru) h3
          subst e2
          exact ⟨a, w, e, g, hq F2 H2 w R2 (s1.trans s2) (t1.trans t2) rw'⟩
def e3 (g : D → D → D → Option D) (a b c : EF) : EF := fun ρ => (a ρ).bind fun x => (b ρ).bind fun y => (c ρ).bind fun z => g x y z
theorem de_dget2 {j : Nat} {apos cpos : Pos} {o x y : Expr} (m : M2 X o "get" apos x y cpos) (ha : DD X T H0 Γ o fa q) (hb : DE X T H0 Γ x fb kb) (hc : DE X T H0 Γ y fc (.q q)) (hr : Room j X.A) :
    DE X T H0 Γ (.Call (.Attribute o "get" apos) [x, y] [] cpos) (e3 gDOr fa fb fc) (.q q) :=
  PE.wk (pe_dget2 (hu_of hr) ha hb hc m) fun σ H Q ⟨F, O, ρ, d, R, hf, hq⟩ => by
    unfold e3 at hf
    cases h1 : fa ρ with
    | none => rw [h1] at hf; cases hf
    | some x =>
      rw [h1] at hf
      simp only [Option.bind_some] at hf
      cases h2 : fb ρ with
      | none => rw [h2] at hf; cases hf
      | some y =>
        rw [h2] at hf
        simp only [Option.bind_some] at hf
        cases h4 : fc ρ with
        | none => rw [h4] at hf; cases hf
        | some z =>
          rw [h4] at hf
          simp only [Option.bind_some] at hf
          unfold gDOr at hf
          cases h3 : gDG x y with
          | none => rw [h3] at hf; cases hf
          | some o =>
            rw [h3] at hf
            cases hf
            refine ⟨F, O, ρ, x, R, h1, fun F1 H1 v R1 s1 t1 dr => ?_⟩
            have dr := dr rfl y _ h3
            have isd : ∃ a, v = .ref a ∧ IsD H1 a := by
              obtain ⟨a, e, hx⟩ := dr
              rcases hx with ⟨kvs, ds, _, h2, _⟩ | ⟨kvs, ds, _, h2, _⟩
              · exact ⟨a, e, .inl ⟨kvs, h2⟩⟩
              · exact ⟨a, e, .inr ⟨kvs, h2⟩⟩
            obtain ⟨a, e, isd⟩ := isd
            refine ⟨a, e, isd, F1, O, ρ, y, R1, h2, fun F2 H2 u R2 s2 t2 ru => ⟨F2, O, ρ, z, R2, h4, fun F3 H3 w R3 s3 t3 rw3 => ?_⟩⟩
            obtain ⟨a', r, e', _, g, hm⟩ := dg_core ((dr.move s2 t2).move s3 t3) (t3.rU (R2.toB ru)) h3
            rw [e] at e'; cases e'
            refine ⟨r, g, ?_⟩
            cases o with
            | none => rw [hm]; exact hq F3 H3 w R3 ((s1.trans s2).trans s3) ((t1.trans t2).trans t3) rw3
            | some d =>
              obtain ⟨w', e2, r'⟩ := hm
              subst e2
              exact hq F3 H3 w' R3 ((s1.trans s2).trans s3) ((t1.trans t2).trans t3) r'
theorem in_semD {K : PySem.W.Frag} {neg : Bool} (hp : ka.pers = true) : ∀ σ H Q, tD K T H0 Γ (e2 (fun x y => (gDG y x).map fun o => .bl (if neg then !o.isSome else o.isSome)) fa fb) (.q q) σ H Q →
    (fun σ H (Q : VK) => tD K T H0 Γ fa ka σ H fun y H1 => tDd K T H0 Γ fb p σ H1 fun x H2 => ∃ a o, x = .ref a ∧ DGet H2 a y o ∧ Q (.bl (if neg then !o.isSome else o.isSome)) H2) σ H Q := fun σ H Q ⟨F, O, ρ, d, R, hf, hq⟩ => by
  unfold e2 at hf
  cases h1 : fa ρ with
  | none => rw [h1] at hf; cases hf
  | some y =>
    rw [h1] at hf
    simp only [Option.bind_some] at hf
    cases h2 : fb ρ with
    | none => rw [h2] at hf; cases hf
    | some x =>
      rw [h2] at hf
      simp only [Option.bind_some] at hf
      cases h3 : gDG x y with
      | none => rw [h3] at hf; cases hf
      | some o =>
        rw [h3] at hf
        cases hf
        refine ⟨F, O, ρ, y, R, h1, fun F1 H1 u R1 s1 t1 ru => ⟨F1, O, ρ, x, R1, h2, fun F2 H2 v R2 s2 t2 dr => ?_⟩⟩
        obtain ⟨a, r, e, _, g, hm⟩ := dg_core (dr rfl y _ h3) (t2.rU (R1.toB ru)) h3
        refine ⟨a, r, e, g, ?_⟩
        have e : r.isSome = o.isSome := by
          cases o with
          | none => rw [show r = none from hm]; rfl
          | some d => obtain ⟨w, e, _⟩ := hm; rw [e]; rfl
        rw [e]
        exact hq F2 H2 _ R2 (s1.trans s2) (t1.trans t2) (RepG.bl _)
theorem de_din {j : Nat} (ha : DE X T H0 Γ a fa ka) (hb : DD X T H0 Γ b fb p) (hr : Room j X.A) (hp : ka.pers = true := by rfl) (h1 : behindInMarks .In b = false := by rfl) : DE X T H0 Γ (.Compare a [.In] [b] pos) (e2 gDIn fa fb) (.q q) :=
  PE.wk (pe_cmp (pc_din (hu_of hr) ha hb) h1) fun σ H Q h => in_semD (neg := false) hp σ H Q h
theorem de_dnotin {j : Nat} (ha : DE X T H0 Γ a fa ka) (hb : DD X T H0 Γ b fb p) (hr : Room j X.A) (hp : ka.pers = true := by rfl) (h1 : behindInMarks .NotIn b = false := by rfl) : DE X T H0 Γ (.Compare a [.NotIn] [b] pos) (e2 gDNotIn fa fb) (.q q) :=
  PE.wk (pe_cmp (pc_dnotin (hu_of hr) ha hb) h1) fun σ H Q h => in_semD (neg := true) hp σ H Q h
/-- any bool as a test -/
theorem dt_cmpE {op : CmpOp} {t : TE} (h : PC X op a b t) (h1 : behindInMarks op b = false) (hs : ∀ σ H Q, tD X.K T H0 Γ fe (.q .A) σ H Q → t σ H Q) : DT X T H0 Γ (.Compare a [op] [b] pos) (t2b fe) :=
  PT.wk (pt_cmp h h1) fun σ H Q ⟨F, O, ρ, d, R, hf, hq⟩ => by
    unfold t2b at hf
    cases h1 : fe ρ with
    | none => rw [h1] at hf; cases hf
    | some x =>
      rw [h1] at hf
      simp only [Option.bind_some] at hf
      split at hf
      · cases hf
        exact hs σ H _ ⟨F, O, ρ, _, R, h1, fun F' H' v R' s t r => ⟨_, Rp.bl r, hq F' H' R' s t⟩⟩
      · cases hf
theorem dt_din {j : Nat} (ha : DE X T H0 Γ a fa ka) (hb : DD X T H0 Γ b fb p) (hr : Room j X.A) (hp : ka.pers = true := by rfl) (h1 : behindInMarks .In b = false := by rfl) : DT X T H0 Γ (.Compare a [.In] [b] pos) (t2b (e2 gDIn fa fb)) :=
  dt_cmpE (pc_din (hu_of hr) ha hb) h1 fun σ H Q h => in_semD (neg := false) hp σ H Q h
theorem dt_dnotin {j : Nat} (ha : DE X T H0 Γ a fa ka) (hb : DD X T H0 Γ b fb p) (hr : Room j X.A) (hp : ka.pers = true := by rfl) (h1 : behindInMarks .NotIn b = false := by rfl) : DT X T H0 Γ (.Compare a [.NotIn] [b] pos) (t2b (e2 gDNotIn fa fb)) :=
  dt_cmpE (pc_dnotin (hu_of hr) ha hb) h1 fun σ H Q h => in_semD (neg := true) hp σ H Q h

/-! ### a dict of its own -/
theorem Rl.setOs {K : PySem.W.Frag} {F H : Hp} {O : Own} {σ : L2.St} {ρ : List D} {i : Nat} {a : Addr} {o : HO} {S : Shp} {d : D} (R : Rl K T H0 Γ F O σ H ρ) (hi : i < Γ.length) (ha : H a = some o) (hm : isMut o = true) (hF : F a = none) (hO : ∀ j, ¬ O j a) (r : OwnS K T H0 F H (fun b => b = a) (.ref a) d S) :
    Rl K T H0 (Γ.set i (.os S)) F (resv O i a) (σ.set i (some (.ref a))) H (ρ.set i d) := by
  have R2 := R.res (i := i) ha hm hF hO
  refine ⟨R2.h0, R2.fh, R2.on, R2.od, by simp [R.ls], by simp [R.lr], fun j mj hj => ?_, R2.nF, R2.tb⟩
  by_cases hji : j = i
  · subst hji
    rw [List.getElem?_set_self hi] at hj
    cases hj
    rw [List.getElem?_set_self (by rw [R.ls]; exact hi), List.getElem?_set_self (by rw [R.lr]; exact hi)]
    exact ⟨.ref a, d, rfl, rfl, r.move (.refl _) (fun _ _ => rfl) fun b hb => .inr ⟨rfl, hb⟩⟩
  · rw [List.getElem?_set_ne (Ne.symm hji)] at hj
    rw [List.getElem?_set_ne (Ne.symm hji), List.getElem?_set_ne (Ne.symm hji)]
    exact R2.sl j mj hj
variable {x : Str} {pos' : Pos} {i j : Nat}
theorem ds_dnewK (hN : X.N.Nodup) (hi : X.N[i]? = some x) (hx : Loc X.env.scope x) (hl : i < Γ.length := by decide) (hs : swapsWith (.Dict [] [] po) (some (.Name x pos')) pos.line X.env = pure false := by rfl)
    (hf : X.fn x = true ∨ X.env.scope.names.lookup x = some .local := by first | exact .inl rfl | exact .inr rfl | assumption) : DS X T H0 Γ (.Assign [.Name x pos'] (.Dict [] [] po) pos) (sSet i (eK (.dic [] []))) (Γ.set i (.os (.dic q))) J :=
  PS.wk (ps_set hN hi hx pe_dnewK hs hf) fun E σ H ⟨F, O, ρ, out, R, hf, hq⟩ => by
    cases hf
    intro p hp
    exact hq F _ _ _ (.refl _) ((R.junk hp).1.setOs hl upd_same rfl (R.fh.free hp) (R.notOwn hp) ⟨p, [], [], rfl, rfl, upd_same, rfl, .nil⟩)
theorem ds_dnewT (hN : X.N.Nodup) (hi : X.N[i]? = some x) (hx : Loc X.env.scope x) (hl : i < Γ.length := by decide) (hs : swapsWith (.Dict [] [] po) (some (.Name x pos')) pos.line X.env = pure false := by rfl)
    (hf : X.fn x = true ∨ X.env.scope.names.lookup x = some .local := by first | exact .inl rfl | exact .inr rfl | assumption) : DS X T H0 Γ (.Assign [.Name x pos'] (.Dict [] [] po) pos) (sSet i (eK (.dit [] []))) (Γ.set i (.os (.dit q))) J :=
  PS.wk (ps_set hN hi hx pe_dnewT hs hf) fun E σ H ⟨F, O, ρ, out, R, hf, hq⟩ => by
    cases hf
    intro p hp
    exact hq F _ _ _ (.refl _) ((R.junk hp).1.setOs hl upd_same rfl (R.fh.free hp) (R.notOwn hp) ⟨p, [], [], rfl, rfl, upd_same, rfl, .nil⟩)
/-- d[k] = v -/
def putD (x y d : D) : Option D := match x with
  | .dic ks ds => (keyD y).bind fun k => if ks.length < 1000000 then some (.dic (dPut ks ds k d).1 (dPut ks ds k d).2) else none
  | .dit ks ds => (match y with
    | .tup ys => (keysD ys).bind fun k => if ks.length < 1000000 then some (.dit (dPut ks ds k d).1 (dPut ks ds k d).2) else none
    | _ => none)
  | _ => none
def sDPutD (i : Nat) (fk fe : EF) : SF := fun ρ => (fe ρ).bind fun d => (fk ρ).bind fun y => match ρ[i]? with
  | some x => (putD x y d).bind fun z => some (.nx (ρ.set i z))
  | none => none
theorem ds_dput (i : Nat) {value o ix : Expr} (hm : Γ[i]? = some (.os (.dic q)) ∨ Γ[i]? = some (.os (.dit q))) (hv : DE X T H0 Γ value fe (.q q)) (ho : PE X o (tVar i)) (hk : DE X T H0 Γ ix fb kb) (hr : Room j X.A) (hs : swapsWith value (some (.Subscript o ix pos')) pos.line X.env = pure false := by rfl) :
    DS X T H0 Γ (.Assign [.Subscript o ix pos'] value pos) (sDPutD i fb fe) Γ J :=
  PS.wk (ps_dput (hu_of hr) ho hk hv hs) fun E σ H ⟨F, O, ρ, out, R, hf, hq⟩ => by
    unfold sDPutD at hf
    cases h1 : fe ρ with
    | none => rw [h1] at hf; cases hf
    | some d =>
      rw [h1] at hf
      simp only [Option.bind_some] at hf
      cases h2 : fb ρ with
      | none => rw [h2] at hf; cases hf
      | some y =>
        rw [h2] at hf
        simp only [Option.bind_some] at hf
        refine ⟨F, O, ρ, d, R, h1, fun F1 H1 v R1 s1 t1 rv => ?_⟩
        rcases hm with hm | hm
        · obtain ⟨v0, d0, g1, g2, a, kvs, ds, e1, e2, g3, g4, g5⟩ := R1.sl i _ hm
          subst e1; subst e2
          refine ⟨_, g1, F1, O, ρ, y, R1, h2, fun F2 H2 u R2 s2 t2 ru => ?_⟩
          rw [g2] at hf
          simp only [putD] at hf
          cases h3 : keyD y with
          | none => rw [h3] at hf; cases hf
          | some k =>
            rw [h3] at hf
            simp only [Option.bind_some] at hf
            split at hf
            · rename_i hl
              cases hf
              rw [key_val (R2.toB ru) h3]
              have g6 := t2 _ _ g3
              refine ⟨a, _, rfl, DPut.k (v := v) g6 (by rw [List.length_map] at hl; rw [sizeLine_eq]; omega), ?_⟩
              obtain ⟨p1, p2⟩ := put_val (k := k) (s2.rq rv) (s2.rqs g5)
              have R3 := R2.ups (O' := O) (S' := .dic q) (u := .dK (putK kvs k v)) (d := .dic (dPut (kvs.map (·.1)) ds k d).1 (dPut (kvs.map (·.1)) ds k d).2) hm g4 rfl (fun j b h => .inl h) (fun j b h => h)
                ⟨_, g1, a, putK kvs k v, _, rfl, by rw [p1], upd_same, g4, p2⟩
              rw [set_same hm] at R3
              exact hq F2 O σ _ (s1.trans s2) R3
            · cases hf
        · obtain ⟨v0, d0, g1, g2, a, kvs, ds, e1, e2, g3, g4, g5⟩ := R1.sl i _ hm
          subst e1; subst e2
          refine ⟨_, g1, F1, O, ρ, y, R1, h2, fun F2 H2 u R2 s2 t2 ru => ?_⟩
          rw [g2] at hf
          simp only [putD] at hf
          cases y <;> first | (cases hf; done) | skip
          rename_i ys
          have hf : ((keysD ys).bind fun k => if (kvs.map (·.1)).length < 1000000 then some (D.dit (dPut (kvs.map (·.1)) ds k d).1 (dPut (kvs.map (·.1)) ds k d).2) else none).bind (fun z => some (Out.nx (ρ.set i z))) = some out := hf
          cases h3 : keysD ys with
          | none => rw [h3] at hf; cases hf
          | some k =>
            rw [h3] at hf
            simp only [Option.bind_some] at hf
            split at hf
            · rename_i hl
              cases hf
              have ru := R2.toB ru
              cases ru with
              | @tup b vs ds' h5 h6 =>
                rw [keys_val h6 h3] at h5
                have g6 := t2 _ _ g3
                refine ⟨a, _, rfl, DPut.t (v := v) g6 h5 (by rw [List.length_map] at hl; rw [sizeLine_eq]; omega), ?_⟩
                obtain ⟨p1, p2⟩ := put_val (k := k) (s2.rq rv) (s2.rqs g5)
                have R3 := R2.ups (O' := O) (S' := .dit q) (u := .dT (putK kvs k v)) (d := .dit (dPut (kvs.map (·.1)) ds k d).1 (dPut (kvs.map (·.1)) ds k d).2) hm g4 rfl (fun j b h => .inl h) (fun j b h => h)
                  ⟨_, g1, a, putK kvs k v, _, rfl, by rw [p1], upd_same, g4, p2⟩
                rw [set_same hm] at R3
                exact hq F2 O σ _ (s1.trans s2) R3
            · cases hf
end
end DL

namespace DL
open PySem PySem.Spec PyProof.Rows L2

/-! ### dicts that a def makes and hands back -/
def RK.okd : RK → Bool
  | .od (.dic .A) => true
  | .od (.dit .A) => true
  | .od (.dic .L) => true
  | .od (.dit .L) => true
  | _ => false
section
variable {X : Cx} {T : Tb} {H0 : HZ} {Γ Γ1 Γn Γm : List Mode} {J : Jm} {e a b tg iter : Expr} {es : List Expr} {st : Stmt} {sts : List Stmt} {f g : SF} {fe fa fb fc : EF} {k ka kb kc : Knd} {pos po : Pos} {q p : Q3} {fi : List D → Option (List D)} {c : Bool} {fs : List D → Option (List D)}
theorem ret_od {K : PySem.W.Frag} {F H1 H' : Hp} {O : Own} {σ : L2.St} {ρ : List D} {S : Shp} {v : V} {d : D} (R : Rl K T H0 Γ F O σ H1 ρ) (h : RetOk K T (ntb H1) H' (.od S) v d) (hk : (RK.od S).okd = true) :
    ∃ F' a, v = .ref a ∧ Rl K T H0 Γ F' O σ H' ρ ∧ Same F F' ∧ Sm H1 H' ∧ F' a = none ∧ (∀ i, ¬ O i a) ∧ (∃ o, H' a = some o ∧ isMut o = true) ∧ OwnS K T H0 F' H' (fun b => b = a) (.ref a) d S := by
  obtain ⟨Fc, a, e, s1, s2, ⟨n1, tb⟩, fa, hd⟩ := h
  have fh : Same F (ntb H1) := fun b o e => ntb_some (R.fh _ _ e) (R.nF _ _ e)
  have H01 : Same H0 (ntb H1) := R.h0.trans fh
  have sF : Same F (cut Fc fun b => ∃ i, O i b) := fun b o e => by
    rw [cut_out]
    · exact s1 _ _ (fh _ _ e)
    · rintro ⟨i, hi⟩
      rw [(R.on i b hi).1] at e; cases e
  have sm : Sm H1 H' := ⟨fun b o e n => s2 _ _ (s1 _ _ (ntb_some e n))⟩
  have hT : ∀ a o, Fc a = some o → isMut o = false → ¬ ∃ i, O i a := by
    rintro a o e hm ⟨i, hi⟩
    obtain ⟨_, u, h2, h3⟩ := R.on i a hi
    have := s1 _ _ (ntb_some h2 (isT_mut h3))
    rw [e] at this; cases this
    rw [hm] at h3; cases h3
  have nkc : ∀ {q : Q3}, (q = .A ∨ q = .L) → ∀ a, NK (ntb H1) q a → ¬ ∃ i, O i a := fun {q} hq a ha ⟨i, hi⟩ => by
    obtain ⟨_, u, h2, h3⟩ := R.on i a hi
    rcases hq with rfl | rfl
    · exact ha
    · have ha : ntb H1 a = none := ha
      rw [ntb_some h2 (isT_mut h3)] at ha; cases ha
  have nk0 : ∀ {q : Q3}, (q = .A ∨ q = .L) → ∀ a, NK (ntb H1) q a → NK H0 q a := fun {q} hq a ha => by
    rcases hq with rfl | rfl
    · exact ha
    · exact H01.free ha
  have R2 : Rl K T H0 Γ (cut Fc fun b => ∃ i, O i b) O σ H' ρ := (R.grow sm tb).more sF (fun b o e => by
    unfold cut at e
    split at e
    · cases e
    · exact s2 _ _ e) n1.cut (fun i b hi => cut_in ⟨i, hi⟩)
  have fa' : (cut Fc fun b => ∃ i, O i b) a = none := by
    unfold cut
    split
    · rfl
    · exact fa
  have nO : ∀ i, ¬ O i a := fun i hi => by
    obtain ⟨_, u, h3, h4⟩ := R.on i a hi
    rw [s1 _ _ (ntb_some h3 (isT_mut h4))] at fa; cases fa
  have conv : ∀ {q : Q3} {vs : List V} {ds : List D}, (q = .A ∨ q = .L) → Rqs K T (ntb H1) q Fc vs ds → Rqs K T H0 q (cut Fc fun b => ∃ i, O i b) vs ds := fun {q vs ds} hq r =>
    (r.cut (nkc hq) hT).mono (.refl _) (nk0 hq)
  refine ⟨_, a, e, R2, sF, sm, fa', nO, ?_⟩
  cases S with
  | tbl _ => cases hk
  | ins _ _ => cases hk
  | ldk _ => cases hk
  | ldt _ => cases hk
  | lkl _ => cases hk
  | odn _ => cases hk
  | prm _ => cases hk
  | dic q =>
    obtain ⟨kvs, ds, h1, h2, h3⟩ := hd
    have hq : q = .A ∨ q = .L := by cases q <;> first | exact .inl rfl | exact .inr rfl | cases hk
    exact ⟨⟨_, h2, rfl⟩, a, kvs, ds, rfl, h1, h2, rfl, conv hq h3⟩
  | dit q =>
    obtain ⟨kvs, ds, h1, h2, h3⟩ := hd
    have hq : q = .A ∨ q = .L := by cases q <;> first | exact .inl rfl | exact .inr rfl | cases hk
    exact ⟨⟨_, h2, rfl⟩, a, kvs, ds, rfl, h1, h2, rfl, conv hq h3⟩
/-- an own dict is handed back -/
theorem ds_retd (i : Nat) {S : Shp} (hm : Γ[i]? = some (.os S)) {x : Str} {pos' : Pos} (h : PE X (.Name x pos') (tVar i)) (hr : J.r = .od S := by rfl) (hk : (RK.od S).okd = true := by rfl) : DS X T H0 Γ (.Return (some (.Name x pos')) pos) (sRet (eV i)) Γn J :=
  PS.wk (ps_ret h) fun E σ H ⟨F, O, ρ, out, R, hf, hq⟩ => by
    obtain ⟨v, d, h1, h2, h3⟩ := R.sl i _ hm
    have e : sRet (eV i) ρ = some (.rt d) := by unfold sRet eV; rw [h2]; rfl
    rw [e] at hf
    cases hf
    refine ⟨v, h1, hq H _ ?_⟩
    rw [hr]
    cases S with
    | tbl _ => cases hk
    | ins _ _ => cases hk
    | ldk _ => cases hk
    | ldt _ => cases hk
    | lkl _ => cases hk
    | odn _ => cases hk
    | prm _ => cases hk
    | dic q =>
      obtain ⟨a, kvs, ds, e1, e2, g1, g2, g3⟩ := h3
      exact ⟨F, a, e1, R.h0, R.fh, ⟨R.nF, R.tb⟩, (R.on i a g2).1, kvs, ds, e2, g1, g3⟩
    | dit q =>
      obtain ⟨a, kvs, ds, e1, e2, g1, g2, g3⟩ := h3
      exact ⟨F, a, e1, R.h0, R.fh, ⟨R.nF, R.tb⟩, (R.on i a g2).1, kvs, ds, e2, g1, g3⟩
/-- name = f(..), f handing back a dict of its own -/
theorem ds_callod {i j k : Nat} {y x : Str} {pos' : Pos} {ps : List Str} {φ : List D → Option D} {S : Shp} (hN : X.N.Nodup) (hi : X.N[i]? = some y) (hx : Loc X.env.scope y) (h : OkF X.prog X.w X.K X.mg X.base T j x ps φ (.od S)) (hr : Room k X.A) (hg : Gl X x) (ha : DA X T H0 Γ (e :: es) fs) (hn : ∀ ρ ds, fs ρ = some ds → ds.length = ps.length) (hj : j ≤ k := by decide) (hk : (RK.od S).okd = true := by rfl) (hl : i < Γ.length := by decide)
    (hdb : (x == ("__debug__" : Str)) = false := by decide) (he : starEach (e :: es) X.env = (false, eval e X.env) :: starEach es X.env := by rfl) (hpl : (backTo po (starEach es X.env)).any (·.1) = false := by rfl)
    (hs : ∀ p, swapsWith (.Call (.Name x p) (e :: es) [] po) (some (.Name y pos')) pos.line X.env = pure false := by intro _; rfl)
    (hf : X.fn y = true ∨ X.env.scope.names.lookup y = some .local := by first | exact .inl rfl | exact .inr rfl | assumption) {po' : Pos} :
    DS X T H0 Γ (.Assign [.Name y pos'] (.Call (.Name x po') (e :: es) [] po) pos) (sSet i (eCall φ fs)) (Γ.set i (.os S)) J := by
  obtain ⟨f, fd, h1, h2, h3, h4⟩ := h.ex
  refine PS.wk (ps_set hN hi hx (pe_call h4 (hr.mono hj) hg h1 h2 h3 .nil pass0 ha hdb he hpl) (hs _) hf) fun E σ H ⟨F, O, ρ, out, R, hf, hq⟩ => ?_
  unfold sSet eCall at hf
  cases h1 : fs ρ with
  | none => rw [h1] at hf; cases hf
  | some ds =>
    rw [h1] at hf
    simp only [Option.bind_some] at hf
    cases h5 : φ ds with
    | none => rw [h5] at hf; cases hf
    | some d =>
      rw [h5] at hf
      cases hf
      refine ⟨F, O, ρ, ds, R, h1, fun F1 H1 vs R1 s1 t1 r1 => ?_⟩
      show spD X.K T ps.length φ (.od S) (vs ++ []) H1 _ _
      rw [List.append_nil]
      refine ⟨by rw [r1.length]; exact hn _ _ h1, ds, d, R1.tb, r1, h5, fun H' v r => ?_⟩
      obtain ⟨F2, a, e, R2, s2, t2, fa, nO, ⟨o, ho, hm⟩, ow⟩ := ret_od R1 r hk
      subst e
      exact hq F2 _ _ H' (s1.trans s2) (R2.setOs hl ho hm fa nO ow)
end
end DL

namespace DL
open PySem PySem.Spec PyProof.Rows L2

/-! ### sorted(d, key=lambda x: d[x]) -/
section
variable {prog : Program} {w : World} {A : Around} {E : Value → Shared → Prop} {s : Shared}
/-- the lambda x: d[x] is called -/
theorem lam1_call {nm q x a : Str} {params : Arguments} {scope : Scope} {cl : List (Str × Addr)} {pm ctv v u : Value} {f c c' d : Addr} {p1 p2 pos : Pos} {k : Key} {vs : List (Key × Value)}
    (ho : s.heap.get? f = some (PySem.W.kla_obj nm q params (.Subscript (.Name x p1) (.Name a p2) pos) scope cl pm c' ctv)) (hcd : s.heap.CodeRec (.ref c') q)
    (hb : bindArgs (PySem.W.kla_fn nm q params (.Subscript (.Name x p1) (.Name a p2) pos) scope cl pm (.ref c') ctv) ⟨[v], []⟩ = pure [(a, v)])
    (kind : scope.kind = .function) (co : scope.isCoroutine = false) (gen : scope.isGenerator = false) (nocell : ∀ y ∈ scope.names, y.2 ≠ .cell) (ha : scope.names.lookup a = some .local) (hx : scope.names.lookup x = some .free)
    (hc : cl.lookup x = some c) (hcell : s.heap.IsCell c (some (.ref d))) (hd : s.heap.DictOf (mixKind prog w) d vs) (hk : (mixKind prog w).is k v = true) (hv : valueAt vs k = some u)
    (lim : s.heap.NoLimit) (dep : A.depth < recursionLimit) (hda : (a == ("__debug__" : Str)) = false) (hdx : (x == ("__debug__" : Str)) = false) (hcx : (x == ("__classdict__" : Str)) = false) :
    wpAny (model prog w) A (call (.ref f) [v]) (fun r s' => r = u ∧ ∃ h' tk, s' = { s with heap := h', toks := tk } ∧ ∀ b o, s.heap.get? b = some o → h'.get? b = some o) E s := by
  refine wpAny_call (codeAny_mono (R := fun r s' => r = .ok (.ret u) ∧ ∃ h' tk, s' = { s with heap := h', toks := tk } ∧ ∀ b o, s.heap.get? b = some o → h'.get? b = some o) ?_ fun r s' hq => ?_)
  · refine PySem.W.kla_callFunE dep ho rfl co gen rfl hcd ?_
    rw [hb]
    refine wpAny_pure (wpAny_newFunctionEnv nocell (fun y hy => ?_) (fun h₁ hns hsb => ⟨lim.fresh _ hsb, ?_⟩) kind)
    · rw [List.mem_singleton] at hy
      subst hy
      exact ha
    · show codeAny _ _ (.expr _ (PySem.W.envX q scope s.heap.objs.size f (.ref c') cl)) _ _
      have kp : ∀ b o, s.heap.get? b = some o → h₁.get? b = some o := fun b o e => hsb.extBut b o (Nat.ne_of_lt (Heap.lt_size e)) (Heap.get?_push_of_some _ e)
      have hcell' : h₁.IsCell c (some (.ref d)) := by
        obtain ⟨o, h1, h2⟩ := hcell
        exact ⟨o, kp _ _ h1, h2⟩
      have hd' : h₁.DictOf (mixKind prog w) d vs := by
        obtain ⟨o, es, ep, h1, h2⟩ := hd
        exact ⟨o, es, ep, kp _ _ h1, h2⟩
      refine PySem.W.kla_codeExpr (subD_of PySem.F.slot_dict_getitem.lookup (fun _ _ => rfl) ?_)
      refine wpAny_Name (wpAny_loadName_free kind hx hc hcell' ?_ hcx) hdx
      refine wpAny_Name (wpAny_loadName_local kind ha hns (v := v) (by simp [List.lookup]) ?_) hda
      refine ⟨hd'.typeIs, wpAny_getItem_of hk hd'.mapOf hv ⟨rfl, h₁, _, rfl, kp⟩⟩
  · obtain ⟨rfl, h⟩ := hq
    exact ⟨rfl, h⟩
/-- sorted(d, key=f), d a dict -/
theorem sorted_dict_key {β : Type} {R : Value → β → Prop} {d : Addr} {f : Value} {es : Array DictEntry} {ep : Nat} {bs : List β} {Q : Value → Shared → Prop} (k : β → PyData) (lo : (d == sysModules) = false) (hm : s.heap.DictRaw d es ep) (hh : A.handled = none) (hn : es.size ≤ sizeLine)
    (e : PySem.W.EachIs R (es.toList.map (·.key)) bs) (hal : PySem.W.AllAlike (bs.map k)) (hk : PySem.W.Sortable (bs.map k)) (hu : ∀ x, x ∈ bs → A.units + 2 + (k x).depth < cLine)
    (turn : ∀ (v : Value) (x : β), R v x → x ∈ bs → ∀ (h : Heap) (tk : Nat), (∀ b o, s.heap.get? b = some o → h.get? b = some o) → wpAny (model prog w) A.in1.in1 (call f [v]) (PySem.W.KeyPure (k x) { s with heap := h, toks := tk }) (fun _ _ => False) { s with heap := h, toks := tk })
    (hkf : ∀ x, Builtin.«list.sort» ⟨[.ref x], [(Str.ofString "key", f)]⟩ = ksk_tree x f false)
    (h : ∀ out c h' tk l, (∀ b o, s.heap.get? b = some o → h'.get? b = some o) → s.heap.get? l = none → h'.get? l = some (seqObj "list" (List.toArray out) c) → out.length = bs.length → PySem.W.EachIs R out (bs.mergeSort (PySem.W.dataLe false k)) → Q (.ref l) { s with heap := h', toks := tk }) :
    wpAny (model prog w) A (call (.builtin "sorted") [.ref d] [(Str.ofString "key", f)]) Q E s := by
  refine call_function_entry_kw kind_sorted plain_sorted entry_sorted (ksk_s1 _ _) ?_
  unfold Builtin.«sorted»
  refine wpAny_bind (m := checkCount "sorted" 1 1 _) (wpAny_pure ?_)
  refine wpAny_bind (PySem.W.kdu_collect (A := A.in1) (KdlSrc.rawDict lo) hh hm hn fun h' tk acc hk' hacc => ?_)
  have hlen : acc.toList.length = es.size := by rw [Array.length_toList]; exact hacc.1
  have hacc2 : acc.toList = es.toList.map (·.key) := by
    apply List.ext_getElem?
    intro i
    by_cases hi : i < es.size
    · have hi2 : i < acc.toList.length := by rw [hlen]; exact hi
      obtain ⟨z, e2⟩ := hacc.2 i _ (by rw [← Array.getElem?_toList]; exact List.getElem?_eq_getElem hi2)
      rw [List.getElem?_eq_getElem hi2, e2]
      simp [hi]
    · rw [List.getElem?_eq_none (by omega), List.getElem?_eq_none (by simp; omega)]
  have eL : bs.length = es.size := by rw [← e.length]; simp
  refine wpAny_bind (wpAny_newList ?_ (by rw [hlen]; exact hn))
  have ho : (h'.push { cls := .type "list", data := .seq acc.toList.toArray }).get? h'.objs.size = some (seqObj "list" acc.toList.toArray 0) := Heap.get?_push_size _ rfl
  have up : ∀ b o, s.heap.get? b = some o → (h'.push { cls := .type "list", data := .seq acc.toList.toArray }).get? b = some o := fun b o q => Heap.get?_push_of_some _ (hk' b o q)
  have lt : ∀ b o, s.heap.get? b = some o → b ≠ h'.objs.size := fun b o q => Nat.ne_of_lt (Heap.lt_size (hk' b o q))
  have fr : s.heap.get? h'.objs.size = none := by
    cases q : s.heap.get? h'.objs.size with
    | none => rfl
    | some o => exact absurd rfl (lt _ _ q)
  refine wpAny_bind (wpAny_holding (PySem.W.list_sort_key_data (R := R) (bs := bs) (A := A.in1) (b := false) (f := f) k ho (by rw [hacc2]; exact e) hal hk (by rw [eL]; exact hn) (fun x hx => by have := hu x hx; show A.units + 1 + 1 + (k x).depth < cLine; omega) (ksk_l1 _ _) (hkf _)
    (fun v x hR hx h2 tk2 kp => turn v x hR hx h2 tk2 fun b o q => kp b o (lt b o q) (up b o q)) fun out c h2 tk2 kp hD hl hE => ?_))
  exact wpAny_pure ⟨_, rfl, h out c h2 tk2 _ (fun b o q => kp b o (lt b o q) (up b o q)) fr hD hl hE⟩
end
theorem ObjOk_there {P : Program} {w : World} {H : Hp} {h : Heap} {a : Addr} {o : HO} (x : ObjOk P w H h a o) : ∃ o, h.get? a = some o := by
  cases o with
  | lst xs => obtain ⟨_, _, _, _, e⟩ := x; exact ⟨_, e⟩
  | tup xs => obtain ⟨_, _, _, _, e, _⟩ := x; exact ⟨_, e⟩
  | dK kvs => obtain ⟨_, _, _, _, o, _, _, e, _⟩ := x; exact ⟨_, e⟩
  | dT kvs => obtain ⟨_, _, _, _, o, _, _, e, _⟩ := x; exact ⟨_, e⟩
  | set S n => obtain ⟨o, _, _, _, e, _⟩ := x; exact ⟨_, e⟩
  | ins C dx fs => obtain ⟨_, _, _, e, _⟩ := x; exact ⟨_, e⟩
  | own y => exact x
  | xd fs => obtain ⟨_, ⟨_, _, _, e, _⟩, _⟩ := x; exact ⟨_, e⟩
  | rng lo hi => obtain ⟨_, _, _, e⟩ := x; exact ⟨_, e⟩
  | frz ob u => obtain ⟨e, _⟩ := x; exact ⟨_, e⟩
  | tbl ps => exact ⟨_, (show h.get? a = some _ from x)⟩
  | met f y => exact ⟨_, (show h.get? a = some _ from x)⟩
  | ext φ => obtain ⟨_, e, _⟩ := x; exact e
theorem hok_none {P : Program} {w : World} {H : Hp} {h : Heap} {a : Addr} (x : HOk P w H h) (e : h.get? a = none) : H a = none := by
  cases q : H a with
  | none => rfl
  | some u =>
    obtain ⟨o, h1⟩ := ObjOk_there (x a u q)
    rw [e] at h1; cases h1
section
variable {X : Cx} {pins : List (Addr × Obj)} {σ : L2.St} {H : Hp} {s : Shared}
theorem inv_laidN {h' : Heap} {l : Addr} {o : HO} {t' : Nat} (I : Inv X pins σ H s) (k : ∀ b u, s.heap.get? b = some u → h'.get? b = some u) (hl : s.heap.get? l = none) (new : ObjOk X.prog X.w (upd H l o) h' l o) : Inv X pins σ (upd H l o) { s with heap := h', toks := t' } := by
  have hn : H l = none := hok_none I.hok hl
  have ne : ∀ b u, s.heap.get? b = some u → b ≠ l := fun b u e z => by rw [z, hl] at e; cases e
  refine I.un ⟨fun b u e _ _ _ => k b u e, fun b u e _ _ _ => ⟨u.slots, k b u e⟩, fun b u e n _ => by rw [upd_ne (ne b u e)]; exact n, fun b u e _ => ⟨u, k b u e⟩, fun b xs e => by rw [upd_ne (ne_of_none e hn)]; exact e, fun b ob u e => by rw [upd_ne (ne_of_none e hn)]; exact e, fun b ps e => ⟨#[], by rw [upd_ne (ne_of_none e hn)]; simp [e]⟩⟩ ?_
  intro b u e
  by_cases hb : b = l
  · subst hb; rw [upd_same] at e; cases e; exact new
  · rw [upd_ne hb] at e
    exact (I.hok b u e).stay (fun c v _ q => k c v q) (fun c q => by rw [upd_ne (ne_of_none q hn)]; exact q) fun c xs q => by rw [upd_ne (ne_of_none q hn)]; exact q
end
end DL

namespace DL
open PySem PySem.Spec PyProof.Rows L2

theorem paired_get {α β : Type} {F : α → β → Prop} : ∀ {l₁ : List α} {l₂ : List β} {i : Nat} {a : α}, PySem.Paired F l₁ l₂ → l₁[i]? = some a → ∃ b, l₂[i]? = some b ∧ F a b
  | _, _, _, _, .nil, h => by simp at h
  | _, _, 0, _, .cons r t, h => by simp at h; subst h; exact ⟨_, rfl, r⟩
  | _, _, i + 1, _, .cons r t, h => by
    obtain ⟨b, h1, h2⟩ := paired_get (i := i) t (by simpa using h)
    exact ⟨b, by simpa using h1, h2⟩
def sortBy (ps : List (Int × Int)) : List (Int × Int) := ps.mergeSort fun p q => decide (p.2 ≤ q.2)
def tSortBy (T : List (Addr × Str)) (i : Nat) : TE := fun σ H Q => LamX.Tabs T H ∧ ∃ (d : Addr) (ps : List (Int × Int)), σ[i]? = some (some (.ref d)) ∧ Rd H d (.dK (ps.map fun p => ((.inl p.1 : Key), V.int p.2))) ∧
  ∀ (H1 : Hp) (l : Addr), LamX.ExtN H H1 → LamX.Tabs T H1 → H1 l = none → Q (.ref l) (upd H1 l (.lst ((sortBy ps).map fun p => .int p.1)))
theorem dataLe_snd : PySem.W.dataLe false (fun p : Int × Int => PyData.int p.2) = fun p q => decide (p.2 ≤ q.2) := by
  funext p q
  show (!PyProof.Rows.lexLt itemOrd [.inl q.2] [.inl p.2]) = _
  have : PyProof.Rows.lexLt itemOrd [.inl q.2] [.inl p.2] = decide (q.2 < p.2) := by
    simp [PyProof.Rows.lexLt, itemLt]
  rw [this]
  by_cases h : q.2 < p.2
  · rw [decide_eq_true h, decide_eq_false (by omega)]; rfl
  · rw [decide_eq_false h, decide_eq_true (by omega)]; rfl
theorem each_ix {β : Type} {R : Value → β → Prop} : ∀ {as : List Value} {bs : List β}, as.length = bs.length → (∀ (i : Nat) (a : Value) (b : β), as[i]? = some a → bs[i]? = some b → R a b) → PySem.W.EachIs R as bs
  | [], [], _, _ => .nil
  | a :: as, b :: bs, h, f => .cons (f 0 a b rfl rfl) (each_ix (by simpa using h) fun i a b h1 h2 => f (i + 1) a b (by simpa using h1) (by simpa using h2))
  | [], _ :: _, h, _ => by simp at h
  | _ :: _, [], h, _ => by simp at h
theorem each_vals {w : World} {prog : Program} : ∀ {as : List Value} {bs : List (Int × Int)}, PySem.W.EachIs (fun v (p : Int × Int) => (mixKind prog w).is (.inl p.1 : Key) v = true) as bs → Vals (bs.map fun p => V.int p.1) as
  | _, _, .nil => .nil
  | _, _, .cons (a := a) (b := b) h t => by
    rw [List.map_cons]
    refine .cons ?_ (each_vals t)
    obtain ⟨i, t, e1, e2⟩ | ⟨x, t, e1, e2⟩ := keyIs_shape (k := .inl b.1) (v := a) h
    · cases e1; exact ⟨t, e2⟩
    · cases e1
/-- the names of a lambda of one parameter a that asks for x of the def around it -/
structure LamS1 (sc scope : Scope) (x a : Str) : Prop where
  kind : scope.kind = .function
  co : scope.isCoroutine = false
  gen : scope.isGenerator = false
  nocell : ∀ y ∈ scope.names, y.2 ≠ .cell
  ha : scope.names.lookup a = some .local
  hx : scope.names.lookup x = some .free
  free : ∀ y ∈ scope.names, y.2 = .free → sc.names.lookup y.1 = some .cell ∨ sc.names.lookup y.1 = some .free
def lamS1B (sc scope : Scope) (x a : Str) : Bool :=
  decide (scope.kind = .function) && !scope.isCoroutine && !scope.isGenerator && scope.names.all (fun y => !decide (y.2 = .cell) && (!decide (y.2 = .free) || decide (sc.names.lookup y.1 = some .cell) || decide (sc.names.lookup y.1 = some .free))) && decide (scope.names.lookup a = some .local) && decide (scope.names.lookup x = some .free)
theorem lamS1_by {sc scope : Scope} {x a : Str} (h : lamS1B sc scope x a = true) : LamS1 sc scope x a := by
  unfold lamS1B at h
  simp only [Bool.and_eq_true, Bool.or_eq_true, Bool.not_eq_true', decide_eq_true_eq, decide_eq_false_iff_not, List.all_eq_true] at h
  obtain ⟨⟨⟨⟨⟨h1, h2⟩, h3⟩, h4⟩, h5⟩, h6⟩ := h
  refine ⟨h1, h2, h3, fun y hy => (h4 y hy).1, h5, h6, fun y hy e => ?_⟩
  rcases (h4 y hy).2 with (z | z) | z
  · exact absurd e z
  · exact .inl z
  · exact .inr z
theorem pe_sortby {X : Cx} {T : List (Addr × Str)} {x a : Str} {i : Nat} {c P : Addr} {params : Arguments} {scope : Scope} {p p2 p3 p4 p5 lpos kpos pos : Pos} {k : Nat} (hcalm : X.calm = true) (hg : Gl X "sorted") (hm : X.mg "sorted" = none) (hN : X.N[i]? = some x) (hxc : X.env.scope.names.lookup x = some .cell)
    (TB : LamX.TabB X.base X.mg c P) (hcode : X.env.code = .ref c) (hmT : (P, X.env.qual ++ "<lambda>") ∈ T) (hu : ∀ p ∈ T, p.1 = P → p.2 = X.env.qual ++ "<lambda>") (hr : Room (k + 1) X.A) (L : LamS1 X.env.scope scope x a) (hdef : defaultsOf params X.env = ([], []))
    (hbind : ∀ (q : Str) (cl : List (Str × Addr)) (pm cv ctv v : Value), bindArgs (PySem.W.kla_fn "<lambda>" q params (.Subscript (.Name x p3) (.Name a p4) p5) scope cl pm cv ctv) ⟨[v], []⟩ = pure [(a, v)])
    (hda : (a == ("__debug__" : Str)) = false := by decide) (hdx : (x == ("__debug__" : Str)) = false := by decide) (hcx : (x == ("__classdict__" : Str)) = false := by decide) :
    PE X (.Call (.Name "sorted" p) [.Name x p2] [⟨some "key", .Lambda params (.Subscript (.Name x p3) (.Name a p4) p5) scope lpos, kpos⟩] pos) (tSortBy T i) := by
  refine ⟨fun pins s σ H Q I h => ?_⟩
  obtain ⟨hT, d, ps, hs, hd, hQ⟩ := h
  have hvis : Vis X.env.scope x := .inr (.inl hxc)
  refine wpAny_Call_Name_kw (ld_blt I hg hm rfl ?_)
  refine PyProof.Rows.callWith_kw (thn ((pa_cons (pe_var (pos := p2) hN hvis hdx hcx) pa_nil).run pos pins s σ H (fun vs H1 => vs = [.ref d] ∧ H1 = H) I ⟨.ref d, hs, rfl, rfl⟩) fun us s1 ⟨vs, H1, I1, r1, q1⟩ => ?_) rfl rfl rfl rfl
  obtain ⟨e1, e2⟩ := q1
  subst e1; subst e2
  obtain rfl := Vals.ref1 r1
  show wpAny _ _ (evalAll [(do let v ← eval (.Lambda params (.Subscript (.Name x p3) (.Name a p4) p5) scope lpos) X.env; standAt pos; pure v)]) _ _ s1
  have hfree : ∀ y ∈ scope.names, y.2 = .free → ∃ c, X.env.cells.lookup y.1 = some c := fun y hy e => by
    rcases L.free y hy e with k | k
    · exact I.ok.has _ (.inl k)
    · exact I.ok.has _ (.inr k)
  refine wpAny_evalAll_cons (wpAny_bind (LamX.lam_make2 I1 TB hcode hmT hu hT hdef hfree fun f c' pm ctv H2 s2 I2 eN T2 hf hfn hfr hco => wpAny_bind (wpAny_standAt (wpAny_pure (wpAny_evalAll_nil ?_)))))
  show wpAny _ _ (call (.builtin "sorted") [.ref d] [(Str.ofString "key", .ref f)]) _ _ s2
  -- what the cell holds
  obtain ⟨m, hn, hl⟩ := I2.loc
  obtain ⟨u, ru, lk⟩ := hl i x (.ref d) hN hs hvis
  obtain rfl : u = Value.ref d := ru
  obtain ⟨cc, hcc, hcell⟩ : ∃ c, X.env.cells.lookup x = some c ∧ s2.heap.IsCell c (some (.ref d)) := by
    rcases lk with ⟨k', _⟩ | ⟨_, c3, e', z⟩
    · have k' : X.env.scope.names.lookup x = some .local := k'
      rw [hxc] at k'; cases k'
    · exact ⟨c3, e', z⟩
  have hcl : (cloFrom X.env.cells scope.names []).lookup x = some cc := NdefX.clo_has hfree (PySem.mem_of_lookup L.hx) hcc
  -- the dict
  have hd2 : Rd H2 d (.dK (ps.map fun p => ((.inl p.1 : Key), V.int p.2))) := by
    rcases hd with h | ⟨o, h⟩
    · exact .inl (eN _ _ h fun ps z => by cases z)
    · exact .inr ⟨o, eN _ _ h fun ps z => by cases z⟩
  obtain ⟨hz, hlo, vs, rel, dd⟩ := dk_rd I2.hok hd2
  obtain ⟨es, ep, hraw, hsz, hes⟩ := dd.raw
  have hlen : vs.length = ps.length := by rw [← rel.length, List.length_map]
  have hkey : ∀ (j : Nat) (p : Int × Int), ps[j]? = some p → ∃ u, vs[j]? = some ((.inl p.1 : Key), u) ∧ L2.RelV (.int p.2) u := fun j p hj => by
    have h1 : (ps.map fun p => ((.inl p.1 : Key), V.int p.2))[j]? = some (.inl p.1, .int p.2) := by rw [List.getElem?_map, hj]; rfl
    obtain ⟨b, h2, h3, h4⟩ := paired_get rel h1
    obtain ⟨b1, b2⟩ := b
    have h3 : (.inl p.1 : Key) = b1 := h3
    subst h3
    exact ⟨b2, h2, h4⟩
  have nd : (vs.map (·.1)).Nodup := by obtain ⟨o, es, ep, _, _, _, _, _, nd⟩ := dd; exact nd
  have hat : ∀ (j : Nat) (p : Int × Int) (u : Value), ps[j]? = some p → vs[j]? = some ((.inl p.1 : Key), u) → valueAt vs (.inl p.1) = some u := fun j p u hj hv => valueAt_of_mem nd (List.mem_of_getElem? hv)
  have hR : PySem.W.EachIs (fun v (p : Int × Int) => (mixKind X.prog X.w).is (.inl p.1 : Key) v = true) (es.toList.map (·.key)) ps := each_ix (by simp [hsz, hlen]) fun j v p h1 h2 => by
    obtain ⟨u, h3, _⟩ := hkey j p h2
    have hj : j < es.size := by rw [hsz]; exact (List.getElem?_eq_some_iff.mp h3).1
    have h4 := hes j hj _ _ h3
    have : v = es[j].key := by
      rw [List.getElem?_map, Array.getElem?_toList, Array.getElem?_eq_getElem hj] at h1
      exact (Option.some.inj h1).symm
    rw [this]; exact h4.1
  have hun := hr.un
  refine sorted_dict_key (R := fun v (p : Int × Int) => (mixKind X.prog X.w).is (.inl p.1 : Key) v = true) (bs := ps) (fun p : Int × Int => PyData.int p.2) hlo hraw (hr.hd) (by rw [hsz, hlen]; rw [List.length_map] at hz; exact hz) hR (fun a ha b hb => ?_) (.inr fun a ha => ?_) (fun p hp => by show X.A.units + 2 + 0 < cLine; omega)
    (fun v p hv hp h3 tk hk3 => ?_) (fun x => PyProof.Rows.ksk_t1 _ _) fun out c2 h3 tk l kp hl hat2 hlo2 hE => ?_
  · obtain ⟨p1, _, rfl⟩ := List.mem_map.mp ha
    obtain ⟨p2, _, rfl⟩ := List.mem_map.mp hb
    rfl
  · obtain ⟨p1, _, rfl⟩ := List.mem_map.mp ha
    exact ⟨(fun z => by cases z), (fun xs z => by cases z)⟩
  · obtain ⟨j, hj⟩ := List.mem_iff_getElem?.mp hp
    obtain ⟨u, h4, h5⟩ := hkey j p hj
    have h6 := hat j p u hj h4
    obtain ⟨⟨oc, fs, t, hoc, hdc, hvc⟩, _, _⟩ := I2.hok c' _ hco
    have dd3 : h3.DictOf (mixKind X.prog X.w) d vs := by
      obtain ⟨o, es, ep, z1, z2⟩ := dd
      exact ⟨o, es, ep, hk3 _ _ z1, z2⟩
    have cell3 : h3.IsCell cc (some (.ref d)) := by
      obtain ⟨o, z1, z2⟩ := hcell
      exact ⟨o, hk3 _ _ z1, z2⟩
    refine wpAny_mono (lam1_call (s := { s2 with heap := h3, toks := tk }) (nm := "<lambda>") (q := X.env.qual ++ "<lambda>") (hk3 _ _ hf) ⟨c', oc, fs, t, rfl, hk3 _ _ hoc, hdc, hvc⟩ (hbind _ _ _ _ _ _) L.kind L.co L.gen L.nocell L.ha L.hx hcl cell3 dd3 hv h6 (I2.nolimit.keeps hk3) ?_ hda hdx hcx) (fun r s4 hq => ?_) fun _ _ z => z
    · have := hr.dp
      show X.A.depth < _
      omega
    · obtain ⟨rfl, h4', tk', e4, kp4⟩ := hq
      obtain ⟨t5, rfl⟩ := h5
      exact ⟨h4', tk', e4, kp4, .int _ _⟩
  · rw [dataLe_snd] at hE
    have hv := each_vals hE
    have I3 : Inv X pins σ (upd H2 l (.lst ((sortBy ps).map fun p => .int p.1))) { s2 with heap := h3, toks := tk } := inv_laidN I2 kp hl ⟨?_, out, c2, hv, hat2⟩
    · exact ⟨.ref l, _, I3, rfl, hQ H2 l eN T2 (hok_none I2.hok hl)⟩
    · rw [List.length_map] at hz
      rw [List.length_map, sortBy, List.length_mergeSort]; exact hz
end DL

namespace DL
open PySem PySem.Spec PyProof.Rows L2

def pairsD : List Key → List D → Option (List (Int × Int))
  | .inl k :: ks, .int v :: ds => (pairsD ks ds).map fun ps => (k, v) :: ps
  | [], [] => some []
  | _, _ => none
/-- sorted(d, key=lambda x: d[x]) -/
def gSortBy (d : D) : Option D := match d with
  | .dic ks ds => (pairsD ks ds).map fun ps => .lst ((sortBy ps).map fun p => .int p.1)
  | _ => none
theorem pairs_val {K : PySem.W.Frag} {T : Tb} {N : Addr → Prop} {F : Hp} : ∀ {kvs : List (Key × V)} {ds : List D} {ps : List (Int × Int)}, RepsG K T N F (kvs.map (·.2)) ds → pairsD (kvs.map (·.1)) ds = some ps → kvs = ps.map fun p => ((.inl p.1 : Key), V.int p.2)
  | [], ds, ps, r, h => by
    cases r
    cases h
    rfl
  | (k, v) :: kvs, ds, ps, r, h => by
    rw [List.map_cons] at r
    cases r with
    | @cons v' vs d ds h1 h2 =>
      rw [List.map_cons] at h
      cases k with
      | inr x => cases d <;> cases h
      | inl k =>
        cases d <;> first | (cases h; done) | skip
        rename_i z
        have h : (pairsD (kvs.map (·.1)) ds).map (fun ps => (k, z) :: ps) = some ps := h
        cases h3 : pairsD (kvs.map (·.1)) ds with
        | none => rw [h3] at h; cases h
        | some qs =>
          rw [h3] at h
          cases h
          rw [List.map_cons, ← pairs_val h2 h3]
          cases h1
          rfl
theorem extN_sm {H H' : Hp} (e : LamX.ExtN H H') : Sm H H' := ⟨fun b o h n => e b o h fun ps z => by subst z; cases n⟩
theorem vals_repsP {K : PySem.W.Frag} {T : Tb} {N : Addr → Prop} {F : Hp} : ∀ (ps : List (Int × Int)), RepsG K T N F (ps.map fun p => V.int p.1) (ps.map fun p => D.int p.1)
  | [] => .nil
  | p :: ps => .cons (.int p.1) (vals_repsP ps)
section
variable {X : Cx} {T : Tb} {H0 : HZ} {Γ Γ1 Γn Γm : List Mode} {J : Jm} {pos po : Pos} {q p : Q3}
theorem de_sortby {x a : Str} {i : Nat} {c P : Addr} {params : Arguments} {scope : Scope} {p1 p2 p3 p4 p5 lpos kpos pos : Pos} {k : Nat} (hcalm : X.calm = true) (hg : Gl X "sorted") (hm : X.mg "sorted" = none) (hN : X.N[i]? = some x) (hxc : X.env.scope.names.lookup x = some .cell)
    (TB : LamX.TabB X.base X.mg c P) (hcode : X.env.code = .ref c) (hmT : (P, X.env.qual ++ "<lambda>") ∈ T.t) (hu : ∀ p ∈ T.t, p.1 = P → p.2 = X.env.qual ++ "<lambda>") (hr : Room (k + 1) X.A) (L : LamS1 X.env.scope scope x a) (hdef : defaultsOf params X.env = ([], []))
    (hbind : ∀ (q : Str) (cl : List (Str × Addr)) (pm cv ctv v : Value), bindArgs (PySem.W.kla_fn "<lambda>" q params (.Subscript (.Name x p3) (.Name a p4) p5) scope cl pm cv ctv) ⟨[v], []⟩ = pure [(a, v)])
    (hΓ : Γ[i]? = some (.fz p)) (hda : (a == ("__debug__" : Str)) = false := by decide) (hdx : (x == ("__debug__" : Str)) = false := by decide) (hcx : (x == ("__classdict__" : Str)) = false := by decide) :
    DE X T H0 Γ (.Call (.Name "sorted" p1) [.Name x p2] [⟨some "key", .Lambda params (.Subscript (.Name x p3) (.Name a p4) p5) scope lpos, kpos⟩] pos) (e1 gSortBy (eV i)) (.ol q) :=
  PE.wk (pe_sortby hcalm hg hm hN hxc TB hcode hmT hu hr L hdef hbind hda hdx hcx) fun σ H Q ⟨F, O, ρ, d, R, hf, hq⟩ => by
    obtain ⟨v, d', h1, h2, h3⟩ := R.sl i _ hΓ
    unfold e1 eV at hf
    rw [h2] at hf
    simp only [Option.bind_some] at hf
    unfold gSortBy at hf
    split at hf
    · rename_i ks ds
      cases h4 : pairsD ks ds with
      | none => rw [h4] at hf; cases hf
      | some ps =>
        rw [h4] at hf
        cases hf
        cases h3 with
        | @dic a kvs ds h5 h6 h7 =>
          refine ⟨R.tb, a, ps, h1, .inl ?_, fun H1 l eN tb hl => ?_⟩
          · rw [← pairs_val h7 h4]; exact R.fh _ _ h5
          · have R1 := R.grow (extN_sm eN) tb
            obtain ⟨R2, t2⟩ := R1.junk (o := .lst ((sortBy ps).map fun p => .int p.1)) hl
            exact hq F _ _ R2 (.refl _) ((extN_sm eN).trans t2) ⟨l, _, _, rfl, rfl, upd_same, R1.fh.free hl, R1.notOwn hl, vals_repsP _⟩
    · cases hf
end
/-- what the top has left of a def that makes a function: its code object at c, the table at P -/
structure FtT (K : PySem.W.Frag) (mg : Str → Option Value) (x qual : Str) (st : Stmt) (ps : List Str) (c P : Addr) : Prop where
  ex : ∃ (f : Addr) (oc : Value) (od : Option Addr) (kV doc pm : Value) (an : Option Addr) (ct : Value) (osl : Array (Option Value)),
    K.lookup f = some ⟨oc, od, .func (PySem.W.fnOf x qual (defArgs st) (defBody st) (defScope st) .none kV doc pm an (.ref c) ct), osl⟩ ∧ PySem.W.codeIn K (.ref c) qual = true ∧ PySem.W.keepIn K (.ref f) = true ∧
      Binds K (PySem.W.fnOf x qual (defArgs st) (defBody st) (defScope st) .none kV doc pm an (.ref c) ct) ps [] ∧ mg x = some (.ref f)
section
variable {P : Program} {w : World} {K : PySem.W.Frag} {mg : Str → Option Value} {base : Heap} {T : Tb}
theorem mk_okft {x : Str} {st : Stmt} {N ps : List Str} {pks : List PKn} {m k : Nat} {body : SF} {Γn : List Mode} {rk : RK} {nx : Bool} {c Pt : Addr} (F : FtT K mg x x st ps c Pt) (S : FnScope N ps (defScope st)) (hN : N.length = pks.length + m) (hp : ps.length = pks.length)
    (hnx : nx = true → ∃ q, rk = .q q) (hb : ∀ (f : Addr) (A : Around) (outer : List Env) (s : Shared) (H : Hp) (E : XK), Room k (bodyX P w K mg base N x st f (.ref c) A outer s H E).A → DSs (bodyX P w K mg base N x st f (.ref c) A outer s H E) T ⟨ntb H, 0, []⟩ (ms0 pks m) (defBody st) body Γn (jm rk)) :
    OkF P w K mg base T (k + 1) x ps (fnD pks m nx body) rk := by
  obtain ⟨f, oc, od, kV, doc, pm, an, ct, osl, lk, hcd, kp, bd, hmg⟩ := F.ex
  refine ⟨f, _, hmg, kp, bd, fn_of lk hcd S (fun vs H Q E h => h.1) fun A outer s H vs Q E hr h => ?_⟩
  obtain ⟨hl, ds, d, ht, r, hf, hq⟩ := h
  refine ⟨_, (hb f A outer s H E hr).nox, ?_⟩
  unfold fnD at hf
  split at hf
  · rename_i hc
    cases h1 : body (ds ++ List.replicate m .non) with
    | none => rw [h1] at hf; cases hf
    | some o =>
      rw [h1] at hf
      simp only [Option.bind_some] at hf
      refine ⟨ntb H, _, _, o, rl_start hN r hc ht, h1, ?_⟩
      split at hf
      · cases hf
        exact fun H' v hv => hq H' v hv
      · split at hf
        · rename_i hx
          cases hf
          obtain ⟨q, rfl⟩ := hnx hx
          exact fun F' O' σ' H' s R => hq H' .non ⟨F', R.h0, R.fh, ⟨R.nF, R.tb⟩, .non⟩
        · cases hf
      · cases hf
  · cases hf
end
/-- a law's promise where tables stand -/
def spLawL (K : PySem.W.Frag) (M : Nat) (tt : List (Addr × Str)) : Sp := fun vs H Q _ => ∃ (a : Addr) (ns : List Int), vs = [.ref a] ∧ LamX.Tabs tt H ∧ SqL K H a (ns.map V.int) ∧ ns.length ≤ M ∧ ∀ H', Q (.bl true) H'
theorem fn_frz {P : Program} {w : World} {K : PySem.W.Frag} {mg : Str → Option Value} {base : Heap} {k M : Nat} {f : Addr} {fd : FuncData} {x : Str} {tt : List (Addr × Str)} (F : FnOk P w K mg base CX0 k f fd [x] (spLaw K M tt)) : FnOk P w K mg base CX0 k f fd [x] (spLawL K M tt) := by
  refine ⟨fun vs H Q E ⟨a, ns, e, _⟩ => by rw [e]; rfl, fun A outer s H args us vs Q E hr e0 hb r hsp => ?_⟩
  obtain ⟨a, ns, e, ht, hs, hl, hq⟩ := hsp
  subst e
  rcases hs with (h | h) | h
  · obtain ⟨o, ho⟩ := ObjOk_there (e0.hok a _ h)
    have ne : ∀ b u, H b = some u → (∀ xs, u ≠ .lst xs) → b ≠ a := fun b u e n z => by
      subst z
      rw [h] at e; cases e
      exact n _ rfl
    have nn : ∀ b, H b = none → b ≠ a := fun b e z => by
      subst z
      rw [h] at e; cases e
    have e1 : Env0 P w K mg base A outer s (upd H a (.frz o (.lst (ns.map V.int)))) := ⟨e0.frames, e0.mod, fun b u q => ⟨(e0.bs b u q).1, by rw [upd_ne (nn _ (e0.bs b u q).2)]; exact (e0.bs b u q).2⟩, e0.bsz, e0.funs,
      fun b q => by rw [upd_ne (nn _ (e0.frf b q))]; exact e0.frf b q, fun b u q => by
        by_cases hba : b = a
        · subst hba
          rw [upd_same] at q; cases q
          exact ⟨ho, (e0.hok b _ h).stay (fun _ _ _ z => z) (fun c z => by rw [upd_ne (ne _ _ z fun xs y => by cases y)]; exact z) fun c xs z => by rw [upd_ne (ne _ _ z fun xs y => by cases y)]; exact z⟩
        · rw [upd_ne hba] at q
          exact (e0.hok b u q).stay (fun _ _ _ z => z) (fun c z => by rw [upd_ne (ne _ _ z fun xs y => by cases y)]; exact z) fun c xs z => by rw [upd_ne (ne _ _ z fun xs y => by cases y)]; exact z, e0.bare⟩
    have ht1 : LamX.Tabs tt (upd H a (.frz o (.lst (ns.map V.int)))) := fun p hp => by
      obtain ⟨ps, h1, h2, h3⟩ := ht p hp
      refine ⟨ps, by rw [upd_ne (ne _ _ h1 fun xs y => by cases y)]; exact h1, h2, fun pos cv hc => ?_⟩
      obtain ⟨c, g1, g2⟩ := h3 pos cv hc
      exact ⟨c, g1, by rw [upd_ne (ne _ _ g2 fun xs y => by cases y)]; exact g2⟩
    refine codeAny_mono (F.run A outer s _ args us [.ref a] Q E hr e1 hb r ⟨a, ns, rfl, ht1, .inl ⟨o, upd_same⟩, hl, hq⟩) fun r s' hres => ?_
    cases r with
    | error e => exact hres
    | ok fl =>
      cases fl with
      | ret u =>
        obtain ⟨v, H2, os, bare, un, hok, rv, q⟩ := hres
        exact ⟨v, H2, os, bare, ⟨fun b u e n => un.keep b u e (by rw [upd_ne (nn b n)]; exact n), fun b u e n => un.slot b u e (by rw [upd_ne (nn b n)]; exact n), fun b u e n => un.free b u e (by rw [upd_ne (nn b n)]; exact n), un.there,
          fun b xs e => un.tups b xs (by rw [upd_ne (ne _ _ e fun xs y => by cases y)]; exact e), fun b o u e => un.frzs b o u (by rw [upd_ne (ne _ _ e fun xs y => by cases y)]; exact e), fun b ps e => un.tbls b ps (by rw [upd_ne (ne _ _ e fun xs y => by cases y)]; exact e)⟩, hok, rv, q⟩
      | next => exact hres
      | brk => exact hres
      | cont => exact hres
  · exact F.run A outer s H args us [.ref a] Q E hr e0 hb r ⟨a, ns, rfl, ht, .inl h, hl, hq⟩
  · exact F.run A outer s H args us [.ref a] Q E hr e0 hb r ⟨a, ns, rfl, ht, .inr h, hl, hq⟩
theorem law_spT {K : PySem.W.Frag} {M : Nat} {H : Hp} {a : Addr} {ns : List Int} {cs : List (Addr × Addr)} {tt : List (Addr × Str)} (hl : ns.length ≤ M) (hO : ∀ p ∈ cs, H p.2 = some (.tbl #[])) (ht : ∀ p ∈ tt, ∃ c, (c, p.1) ∈ cs) (hs : SqL K H a (ns.map V.int)) : spLawL K M tt [.ref a] H (fun v _ => v = .bl true) fun _ _ _ => False :=
  ⟨a, ns, rfl, fun p hp => by
    obtain ⟨c, hc⟩ := ht p hp
    exact LamX.TabS.nil (hO _ hc), hs, hl, fun _ => rfl⟩
/-- the address of the table of a code object -/
theorem lawAt_of {l : PySem.W.OpenLaw} {w : World} {K : PySem.W.Frag} {k M : Nat} {x : Str} {mg : Str → Option Value} {fa : Addr} {h : Heap} {tt : List (Addr × Str)} {cs : List (Addr × Addr)} (KX : K.In h) (hT : ∀ p ∈ cs, h.get? p.2 = some { cls := .none, data := .fields #[] }) (nT : ∀ p ∈ cs, K.lookup p.2 = none) (C : ∀ p ∈ cs, PySem.W.codeHdIn K p.1 p.2 = true) (ht : ∀ p ∈ tt, ∃ c, (c, p.1) ∈ cs)
    (F : ∃ fd : FuncData, (∀ (s : Shared) (v : Value), BindsTo s fd ⟨[v], []⟩ [(x, v)]) ∧ ∀ base : Heap, K.In base → base.Ns mainGlobals mg → (∀ p ∈ cs, LamX.TabB base mg p.1 p.2) → FnOk l.prog w K mg base CX0 k fa fd [x] (spLaw K M tt)) : LamX.LawAtS l w K CX0 k M x mg fa h := by
  obtain ⟨fd, hb, hF⟩ := F
  exact ⟨fd, cs, spLawL K M tt, hT, nT, fun p hp => PySem.W.codeHd_of_K KX (C p hp), hb, fun H a ns hl _ hH hs => law_spT hl hH ht hs, fun base B G TB => fn_frz (hF base B G TB)⟩
theorem ft_lawT {l : PySem.W.OpenLaw} {w : World} {K : PySem.W.Frag} {h : Heap} {mg : Str → Option Value} {fa : Addr} {st : Stmt} {x : Str} {k : Nat} {sp : Sp} {cs : List (Addr × Addr)} (X : K.In h) (G : h.Ns mainGlobals mg) (hfa : mg "law" = some (.ref fa)) (e : FtH K "law" "law" st)
    (hb : ∀ (kV dc pm : Value) (an : Option Addr) (cd ct : Value) (s : Shared) (v : Value), BindsTo s (PySem.W.fnOf "law" "law" (defArgs st) (defBody st) (defScope st) .none kV dc pm an cd ct) ⟨[v], []⟩ [(x, v)])
    (F : ∀ (fd : FuncData) (base : Heap), (∀ p ∈ cs, LamX.TabB base mg p.1 p.2) → Fun K "law" "law" st fa fd → FnOk l.prog w K mg base CX0 k fa fd [x] sp) :
    ∃ fd : FuncData, (∀ (s : Shared) (v : Value), BindsTo s fd ⟨[v], []⟩ [(x, v)]) ∧ ∀ base : Heap, K.In base → base.Ns mainGlobals mg → (∀ p ∈ cs, LamX.TabB base mg p.1 p.2) → FnOk l.prog w K mg base CX0 k fa fd [x] sp := by
  obtain ⟨f, oc, od, kV, dc, pm, an, cd, ct, sl, h1, h2, h3, h4⟩ := e
  have e := hfa.symm.trans (PySem.W.mg_of X G h1)
  cases e
  exact ⟨_, fun s v => hb kV dc pm an cd ct s v, fun base _ _ TB => F _ base TB (fun_mk h2 h3 h4)⟩
end DL

namespace DL
open PySem PySem.Spec PyProof.Rows L2

/-! ### one of two computations -/
def eAlt (f g : EF) : EF := fun ρ => match f ρ with
  | some d => some d
  | none => g ρ
section
variable {X : Cx} {T : Tb} {H0 : HZ} {Γ Γ1 Γn Γm : List Mode} {J : Jm} {e a b c2 tg iter : Expr} {es : List Expr} {st : Stmt} {sts : List Stmt} {f g : SF} {fe ff fa fb fc : EF} {k ka kb kc : Knd} {pos po p2 p3 pos2 q2 : Pos} {q p : Q3} {fi : List D → Option (List D)} {c : Bool} {fs : List D → Option (List D)}
theorem de_alt (h1 : DE X T H0 Γ e fe k) (h2 : DE X T H0 Γ e ff k) : DE X T H0 Γ e (eAlt fe ff) k := ⟨fun pins s σ H Q I ⟨F, O, ρ, d, R, hf, hq⟩ => by
  unfold eAlt at hf
  cases h : fe ρ with
  | some x =>
    rw [h] at hf
    cases hf
    exact h1.run pins s σ H Q I ⟨F, O, ρ, d, R, h, hq⟩
  | none =>
    rw [h] at hf
    exact h2.run pins s σ H Q I ⟨F, O, ρ, d, R, hf, hq⟩⟩

/-! ### an __init__ that keeps its one argument -/
def spP (T : Tb) (c : Nat) (f : Str) : Sp := fun vs H Q _ => ∃ (x : Addr) (v : V) (dx : Addr), vs = [.ref x, v] ∧ H x = some (.ins (T c).1 dx []) ∧ Q .non (upd H x (.ins (T c).1 dx [(f, v)]))
structure OkP (P : Program) (w : World) (K : PySem.W.Frag) (mg : Str → Option Value) (base : Heap) (T : Tb) (k : Nat) (c : Nat) (x f : Str) : Prop where
  ex : ∃ fi fd ps, ps.length = 2 ∧ Mk K (T c).1 fi ∧ Binds K fd ps [] ∧ FnOk P w K mg base CX0 k fi fd ps (spP T c f)
  mg : mg x = some (.ref (T c).1)
  nm : (T c).2 = [f]
theorem mk_okp {P : Program} {w : World} {K : PySem.W.Frag} {mg : Str → Option Value} {base : Heap} {x qual f : Str} {st : Stmt} {N ps : List Str} {k c : Nat} (F : FtI K mg T c x qual st ps) (C : ClsF K T c 0 f) (S : FnScope N ps (defScope st)) (hN : N.length = 2) (hp : ps.length = 2) (nm : (T c).2 = [f])
    (hb : ∀ (fa : Addr) (cdv : Value) (A : Around) (outer : List Env) (s : Shared) (H : Hp) (E : XK), PSs (bodyX P w K mg base N qual st fa cdv A outer s H E) (defBody st) (sFld K (tVar 0) (tVar 1) f)) : OkP P w K mg base T (k + 1) c x f := by
  obtain ⟨fi, fd, h1, h2, h3⟩ := F.ex
  refine ⟨⟨fi, fd, ps, hp, h3, h2, h1.ok S (fun vs H Q E ⟨x, v, dx, e, _⟩ => by rw [e, hp]; rfl) fun cdv A outer s H vs Q E hr ⟨z, v, dx, e, hz, hq⟩ => ⟨_, hb fi cdv A outer s H E, ?_⟩⟩, F.mg, nm⟩
  subst e
  refine ⟨v, ?_, .ref z, ?_, z, _, dx, [], rfl, hz, C.cl, C.na, by simp, hq⟩
  · unfold L2.start; simp
  · unfold L2.start; simp
theorem de_makeP {i k cl : Nat} {x f : Str} {φ : List D → Option (List D)} (h : OkP X.prog X.w X.K X.mg X.base T i cl x f) (hr : Room k X.A) (hg : Gl X x) (ha : DE X T H0 Γ e fe (.q p)) (hφ : ∀ d y, φ [d] = some y → y = [d]) (hp : p.le q = true := by rfl) (hL : Q3.L.le q = true := by rfl) (hj : i + 1 ≤ k := by decide)
    (hdb : (x == ("__debug__" : Str)) = false := by decide) (he : starEach [e] X.env = (false, eval e X.env) :: starEach [] X.env := by rfl) (hpl : (backTo pos (starEach [] X.env)).any (·.1) = false := by rfl) :
    DE X T H0 Γ (.Call (.Name x po) [e] [] pos) (eMake cl φ (aCons fe aNil)) (.q q) := by
  obtain ⟨fi, fd, ps, h1, h2, h3, h4⟩ := h.ex
  refine PE.wk (pe_make h2 h4 (hr.mono hj) hg h.mg h3 .nil pass0 (pa_cons ha pa_nil he) hdb he hpl) fun σ H Q ⟨F, O, ρ, d, R, hf, hq⟩ => ?_
  unfold eMake aCons aNil at hf
  cases h5 : fe ρ with
  | none => rw [h5] at hf; cases hf
  | some y =>
    rw [h5] at hf
    simp only [Option.bind_some] at hf
    cases h6 : φ [y] with
    | none => rw [h6] at hf; cases hf
    | some z =>
      rw [h6] at hf
      cases hf
      have := hφ _ _ h6
      subst this
      refine ⟨F, O, ρ, y, R, h5, fun F1 H1 v R1 s1 t1 r1 => ?_⟩
      intro x dx hx hdx hne
      refine ⟨x, v, dx, rfl, upd_same, rfl, ?_⟩
      have s2 : Same H1 (upd (upd (upd H1 dx (.own x)) x (.ins (T cl).1 dx [])) x (.ins (T cl).1 dx [(f, v)])) := fun b o e => by
        have hb : ¬ b = x := ne_of_none e hx
        rw [upd_ne hb, upd_ne hb, upd_ne (ne_of_none e hdx)]; exact e
      have fx : F1 x = none := R1.fh.free hx
      have sF : Same F1 (upd F1 x (.ins (T cl).1 dx [(f, v)])) := fun b o e => by rw [upd_ne (ne_of_none e fx)]; exact e
      refine hq _ _ (.ref x) ((R1.growN s2).more sF (fun b o e => ?_) (R1.nF.upd rfl) (fun i b hi => ?_)) (s1.trans sF) (t1.trans s2.sm) ?_
      · by_cases hb : b = x
        · subst hb; rw [upd_same] at e ⊢; exact e
        · rw [upd_ne hb] at e
          exact s2 _ _ (R1.fh _ _ e)
      · obtain ⟨z1, o, k1, _⟩ := R1.on i b hi
        rw [upd_ne (ne_of_none k1 hx)]; exact z1
      · refine RepG.ins upd_same (NK.le hL _ ((R1.h0.trans R1.fh).free hx)) (by rw [h.nm]; rfl) ?_
        exact .cons (r1.mono sF (NK.le hp)) .nil

/-! ### a < b < c, of ints -/
def gCh (g g' : D → D → Option D) (x y z : D) : Option D := (g x y).bind fun r => match r with
  | .bl true => g' y z
  | .bl false => some (.bl false)
  | _ => none
theorem ch_sem {K : PySem.W.Frag} {o o' : Int → Int → Bool} {g g' : D → D → Option D} (hp : ka.pers = true) (hpb : kb.pers = true) (hg : ∀ x y d, g x y = some d → ∃ i j, x = .int i ∧ y = .int j ∧ d = .bl (o i j)) (hg' : ∀ x y d, g' x y = some d → ∃ i j, x = .int i ∧ y = .int j ∧ d = .bl (o' i j)) (hG : ∀ i j, ∃ d, g' (.int i) j = some d ∨ g' (.int i) j = none) :
    ∀ σ H Q, tD K T H0 Γ (e3 (gCh g g') fa fb fc) (.q q) σ H Q → tChain (rI0 fun i j => .bl (o i j)) (rI0 fun i j => .bl (o' i j)) (tD K T H0 Γ fa ka) (tD K T H0 Γ fb kb) (tD K T H0 Γ fc kc) σ H Q := fun σ H Q ⟨F, O, ρ, d, R, hf, hq⟩ => by
  unfold e3 at hf
  cases h1 : fa ρ with
  | none => rw [h1] at hf; cases hf
  | some x =>
    rw [h1] at hf
    simp only [Option.bind_some] at hf
    cases h2 : fb ρ with
    | none => rw [h2] at hf; cases hf
    | some y =>
      rw [h2] at hf
      simp only [Option.bind_some] at hf
      cases h3 : fc ρ with
      | none => rw [h3] at hf; cases hf
      | some z =>
        rw [h3] at hf
        simp only [Option.bind_some] at hf
        unfold gCh at hf
        cases h4 : g x y with
        | none => rw [h4] at hf; cases hf
        | some r =>
          rw [h4] at hf
          simp only [Option.bind_some] at hf
          obtain ⟨i, j, e1, e2, e3⟩ := hg _ _ _ h4
          subst e1; subst e2; subst e3
          refine ⟨F, O, ρ, _, R, h1, fun F1 H1 v R1 s1 t1 r1 => ⟨F1, O, ρ, _, R1, h2, fun F2 H2 u R2 s2 t2 r2 => ?_⟩⟩
          refine ⟨i, j, (Rp.pers hp s2 t2 r1).int, r2.int, o i j, rfl, ?_⟩
          cases ho : o i j with
          | false =>
            rw [ho] at hf
            cases hf
            exact hq F2 H2 _ R2 (s1.trans s2) (t1.trans t2) (RepG.bl _)
          | true =>
            rw [ho] at hf
            have hf : g' (.int j) z = some d := hf
            obtain ⟨j', m, e1, e2, e3⟩ := hg' _ _ _ hf
            cases e1; subst e2; subst e3
            rw [if_pos rfl]
            exact ⟨F2, O, ρ, _, R2, h3, fun F3 H3 w R3 s3 t3 r3 => ⟨j, m, (Rp.pers hpb s3 t3 r2).int, r3.int, hq F3 H3 _ R3 ((s1.trans s2).trans s3) ((t1.trans t2).trans t3) (RepG.bl _)⟩⟩
theorem gLt_inv (x y d : D) (h : gLt x y = some d) : ∃ i j, x = .int i ∧ y = .int j ∧ d = .bl (decide (i < j)) := by
  unfold gLt i2 at h
  split at h
  · cases h; exact ⟨_, _, rfl, rfl, rfl⟩
  · cases h
theorem gLe_inv (x y d : D) (h : gLe x y = some d) : ∃ i j, x = .int i ∧ y = .int j ∧ d = .bl (decide (i ≤ j)) := by
  unfold gLe i2 at h
  split at h
  · cases h; exact ⟨_, _, rfl, rfl, rfl⟩
  · cases h
/-- a chain of two comparisons of ints: value and test -/
theorem de_chain {op op' : CmpOp} {o o' : Int → Int → Bool} {g g' : D → D → Option D} (ho : OpR X (compareOp op) (rI0 fun i j => .bl (o i j))) (ho' : OpR X (compareOp op') (rI0 fun i j => .bl (o' i j))) (hg : ∀ x y d, g x y = some d → ∃ i j, x = .int i ∧ y = .int j ∧ d = .bl (o i j)) (hg' : ∀ x y d, g' x y = some d → ∃ i j, x = .int i ∧ y = .int j ∧ d = .bl (o' i j))
    (ha : DE X T H0 Γ a fa ka) (hb : DE X T H0 Γ b fb kb) (hc : DE X T H0 Γ c2 fc kc) (hp : ka.pers = true := by rfl) (hpb : kb.pers = true := by rfl) (hm : lastMarks [op, op'] [b, c2] = false := by with_unfolding_all rfl) : DE X T H0 Γ (.Compare a [op, op'] [b, c2] pos) (e3 (gCh g g') fa fb fc) (.q q) :=
  PE.wk (pe_chain ho ho' ha hb hc hm) (ch_sem hp hpb hg hg' fun i j => by cases g' (.int i) j with | none => exact ⟨.non, .inr rfl⟩ | some d => exact ⟨d, .inl rfl⟩)
theorem dt_chain {op op' : CmpOp} {o o' : Int → Int → Bool} {g g' : D → D → Option D} (ho : OpR X (compareOp op) (rI0 fun i j => .bl (o i j))) (ho' : OpR X (compareOp op') (rI0 fun i j => .bl (o' i j))) (hg : ∀ x y d, g x y = some d → ∃ i j, x = .int i ∧ y = .int j ∧ d = .bl (o i j)) (hg' : ∀ x y d, g' x y = some d → ∃ i j, x = .int i ∧ y = .int j ∧ d = .bl (o' i j))
    (ha : DE X T H0 Γ a fa ka) (hb : DE X T H0 Γ b fb kb) (hc : DE X T H0 Γ c2 fc kc) (hp : ka.pers = true := by rfl) (hpb : kb.pers = true := by rfl) (hm : lastMarks [op, op'] [b, c2] = false := by with_unfolding_all rfl) : DT X T H0 Γ (.Compare a [op, op'] [b, c2] pos) (t2b (e3 (gCh g g') fa fb fc)) :=
  PT.wk (pt_chain ho ho' ha hb hc hm) fun σ H Q ⟨F, O, ρ, d, R, hf, hq⟩ => by
    unfold t2b at hf
    cases h1 : e3 (gCh g g') fa fb fc ρ with
    | none => rw [h1] at hf; cases hf
    | some x =>
      rw [h1] at hf
      simp only [Option.bind_some] at hf
      split at hf
      · cases hf
        exact ch_sem (q := .A) hp hpb hg hg' (fun i j => by cases g' (.int i) j with | none => exact ⟨.non, .inr rfl⟩ | some d => exact ⟨d, .inl rfl⟩) σ H _ ⟨F, O, ρ, _, R, h1, fun F' H' v R' s t r => ⟨_, Rp.bl r, hq F' H' R' s t⟩⟩
      · cases hf

/-! ### zip of two lists -/
def zipD (xs ys : List D) : List D := List.zipWith (fun x y => D.tup [x, y]) xs ys
def iZp (f g : EF) : List D → Option (List D) := fun ρ => (f ρ).bind fun x => (g ρ).bind fun y => match x, y with
  | .lst xs, .lst ys => some (zipD xs ys)
  | _, _ => none
def Knd.src (k : Knd) (q : Q3) (c : Bool) : Prop := k = .q q ∨ k = .fl q ∨ (k = .bl q ∧ c = true)
theorem srcOk {K : PySem.W.Frag} {F1 H1 : Hp} {O : Own} {σ : L2.St} {ρ : List D} {v : V} {ds : List D} (hk : k.src q c) (R : Rl K T H0 Γ F1 O σ H1 ρ) (h : Rp K T H0 F1 H1 O k v (.lst ds)) :
    ∃ a vs, v = .ref a ∧ SqL K H1 a vs ∧ (∀ F2 H2, Same F1 F2 → Same F2 H2 → (c = true → Sm H1 H2) → SqL K H2 a vs) ∧ Rqs K T H0 q F1 vs ds := by
  rcases hk with rfl | rfl | ⟨rfl, rfl⟩
  · cases h with
    | @lst a vs ds h2 h3 h4 => exact ⟨a, vs, rfl, SqL.of (R.fh _ _ h2), fun F2 H2 s t _ => SqL.of ((s.trans t) _ _ h2), h4⟩
  · obtain ⟨a, vs, ds, e1, e2, h2, h4⟩ := h
    cases e2
    exact ⟨a, vs, e1, SqL.of (R.fh _ _ h2), fun F2 H2 s t _ => SqL.of ((s.trans t) _ _ h2), h4⟩
  · obtain ⟨a, vs, ds, e1, e2, h2, h4⟩ := h
    cases e2
    exact ⟨a, vs, e1, SqL.of h2, fun F2 H2 s t u => SqL.of ((u rfl) _ _ h2), h4⟩
theorem itz_ok {K : PySem.W.Frag} {a b : Addr} {vs us : List V} {ds es : List D} {F1 H1 : Hp} (ha : ∀ F2 H2, Same F1 F2 → Same F2 H2 → (c = true → Sm H1 H2) → SqL K H2 a vs) (hb : ∀ F2 H2, Same F1 F2 → Same F2 H2 → (c = true → Sm H1 H2) → SqL K H2 b us) (ra : Rqs K T H0 q F1 vs ds) (rb : Rqs K T H0 q F1 us es) :
    ItOk K T H0 (Itz K a b) (zipD ds es) q c F1 H1 := fun i F2 H2 h1 h2 h3 => by
  have sa := ha F2 H2 h1 h2 h3
  have sb := hb F2 H2 h1 h2 h3
  have hl : (zipD ds es).length = min ds.length es.length := by unfold zipD; rw [List.length_zipWith]
  refine ⟨fun d hd => ?_, fun hle => ⟨vs, us, sa, sb, by rw [ra.length, rb.length]; rw [hl] at hle; omega⟩⟩
  have hlt : i < min ds.length es.length := by rw [← hl]; exact (List.getElem?_eq_some_iff.mp hd).1
  have e1 : ds[i]? = some ds[i] := List.getElem?_eq_getElem (by omega)
  have e2 : es[i]? = some es[i] := List.getElem?_eq_getElem (by omega)
  have ed : d = .tup [ds[i], es[i]] := by
    unfold zipD at hd
    rw [List.getElem?_zipWith, e1, e2] at hd
    exact (Option.some.inj hd).symm
  subst ed
  obtain ⟨v, hv, rv⟩ := ra.get e1
  obtain ⟨u, hu, ru⟩ := rb.get e2
  refine ⟨⟨vs, us, v, u, sa, sb, hv, hu⟩, fun x H3 ⟨t, y, z, f1, f2, f3, f4, f5⟩ => ?_⟩
  subst f1; subst f3
  have := f4 vs sa
  rw [hv] at this; cases this
  have := f5 us sb
  rw [hu] at this; cases this
  have g2 : F2 t = none := h2.free f2
  have sH : Same H2 (upd H2 t (.tup [v, u])) := fun b u e => by rw [upd_ne (ne_of_none e f2)]; exact e
  have sF : Same F2 (upd F2 t (.tup [v, u])) := fun b u e => by rw [upd_ne (ne_of_none e g2)]; exact e
  refine ⟨sH, upd F2 t (.tup [v, u]), sF, fun b u e => ?_, ⟨fun b hb hh => ?_, fun n => n.upd rfl⟩, ?_⟩
  · by_cases hb : b = t
    · subst hb; rw [upd_same] at e ⊢; exact e
    · rw [upd_ne hb] at e ⊢; exact h2 _ _ e
  · rw [upd_ne (fun z => by subst z; obtain ⟨_, z, _⟩ := hh; rw [f2] at z; cases z)]; exact hb
  · exact RepG.tup upd_same (.cons ((h1.trans sF).rq rv) (.cons ((h1.trans sF).rq ru) .nil))
theorem di_zip {elts : List Expr} {kk : Nat} {tpos : Pos} (hg : Gl X "zip") (hm : X.mg "zip" = none) (ha : DE X T H0 Γ a fa ka) (hb : DE X T H0 Γ b fb kb) (hka : ka.src q c) (hkb : kb.src q c) (hs : starEach [a, b] X.env = (false, eval a X.env) :: starEach [b] X.env := by rfl) (hs2 : starEach [b] X.env = (false, eval b X.env) :: starEach [] X.env := by rfl) (hpl : (backTo pos (starEach [b] X.env)).any (·.1) = false := by rfl) :
    DI X T H0 Γ (.Tuple elts kk tpos) (.Call (.Name "zip" po) [a, b] [] pos) (iZp fa fb) q c :=
  PI.wk (RZ.pi_zipA hg hm (pa_cons ha (pa_cons hb pa_nil hs2) hs) hs hpl) fun σ H R ⟨F, O, ρ, items, r, hf, hq⟩ => by
    unfold iZp at hf
    cases h1 : fa ρ with
    | none => rw [h1] at hf; cases hf
    | some x =>
      rw [h1] at hf
      simp only [Option.bind_some] at hf
      cases h2 : fb ρ with
      | none => rw [h2] at hf; cases hf
      | some y =>
        rw [h2] at hf
        simp only [Option.bind_some] at hf
        split at hf
        · rename_i xs ys
          cases hf
          refine ⟨F, O, ρ, _, r, h1, fun F1 H1 v R1 s1 t1 r1 => ⟨F1, O, ρ, _, R1, h2, fun F2 H2 u R2 s2 t2 r2 => ?_⟩⟩
          have hp : ka.pers = true := by rcases hka with rfl | rfl | ⟨rfl, _⟩ <;> rfl
          obtain ⟨a1, vs, e1, g1, g2, g3⟩ := srcOk hka R2 (Rp.pers hp s2 t2 r1)
          obtain ⟨b1, us, e2, g4, g5, g6⟩ := srcOk hkb R2 r2
          subst e1; subst e2
          exact ⟨a1, b1, vs, us, rfl, .inl ⟨g1, g4, hq F2 H2 _ R2 (s1.trans s2) (t1.trans t2) (itz_ok g2 g5 g3 g6)⟩⟩
        · cases hf
end
end DL

namespace DL
open PySem PySem.Spec PyProof.Rows L2

/-! ### list(range(i, j, c)) -/
def tLrg3 (ta : TA) : TE := fun σ H Q => ta σ H fun vs H1 => ∃ (i j c : Int) (n : Nat), vs = [.int i, .int j, .int c] ∧ RgC i j c n ∧ n ≤ 1000000 ∧ ∀ p, H1 p = none → Q (.ref p) (upd H1 p (.lst (rcV i c n)))
theorem pe_lrg3 {X : Cx} {a b c : Expr} {ta : TA} {p p2 pos pos2 : Pos} (hc : X.calm = true) (hg : Gl X "list") (hm : X.mg "list" = none) (hg2 : Gl X "range") (hm2 : X.mg "range" = none) (ha : PA X [a, b, c] ta)
    (hs : starEach [a, b, c] X.env = (false, eval a X.env) :: starEach [b, c] X.env := by rfl) (hpl : (backTo pos2 (starEach [b, c] X.env)).any (·.1) = false := by rfl)
    (na : starEach [.Call (.Name "range" p2) [a, b, c] [] pos2] X.env = (false, eval (.Call (.Name "range" p2) [a, b, c] [] pos2) X.env) :: starEach [] X.env := by rfl) :
    PE X (.Call (.Name "list" p) [.Call (.Name "range" p2) [a, b, c] [] pos2] [] pos) (tLrg3 ta) := by
  refine ⟨fun pins s σ H Q I h => ?_⟩
  refine Call_ (ld_blt I hg hm boot_list (PyProof.Rows.callWith_type1 (args_cons (Call_ (ld_blt I hg2 hm2 boot_range (PyProof.Rows.callWith_type1 (thn (ha.run pos2 pins s σ H _ I h) fun us s1 ⟨vs, H1, I1, r1, q1⟩ => ?_) hs hpl))) na) na))
  obtain ⟨i, j, k, n, e, ⟨c0, c1, c2, c3⟩, hn, q⟩ := q1
  subst e
  cases r1 with
  | cons r rr => cases rr with
    | cons r' rr => cases rr with
      | cons r'' rr =>
        cases rr
        obtain ⟨t, rfl⟩ := r
        obtain ⟨t', rfl⟩ := r'
        obtain ⟨t'', rfl⟩ := r''
        refine call_range_3 c0 (args_nil ?_) (.inl (PyProof.noPylong_small c1))
        have I2 : Inv X pins σ H1 { s1 with heap := s1.heap.push { cls := .type "range", data := .fields #[.int i t, .int j t', .int k t''] } } := I1.kept (t' := s1.toks) fun b o e => Heap.get?_push_of_some _ e
        refine call_list_range (s := { s1 with heap := s1.heap.push { cls := .type "range", data := .fields #[.int i t, .int j t', .int k t''] } }) (n := n) (I1.ok.hd hc) (IsRange.new ..) c2 c3 (by omega) fun h' tk acc c' hk e' hi => ?_
        refine ⟨.ref _, upd H1 _ (.lst (rcV i k n)), I2.laid (t' := tk) hk (Nat.le_refl _) (show ObjOk X.prog X.w _ _ _ (.lst (rcV i k n)) from ⟨?_, acc.toList, c', vals_rc hi, ?_⟩), rfl, q _ (I2.hok.fresh (Nat.le_refl _))⟩
        · rw [rcV_len, sizeLine_eq]; omega
        · rw [Array.toArray_toList]; exact e'
/-- the three numbers make a small range -/
def rg3 (i j c : Int) : Bool := decide (c ≠ 0) && decide (c.natAbs.log2 < 29) && Builtin.Range.small i j c && decide (0 ≤ Builtin.Range.rangeSize i j c)
def gLrg3 (x y z : D) : Option D := match x, y, z with
  | .int i, .int j, .int c => if rg3 i j c = true ∧ (Builtin.Range.rangeSize i j c).toNat ≤ 1000000 then some (.lst (rangeC i c (Builtin.Range.rangeSize i j c).toNat)) else none
  | _, _, _ => none
theorem rg3_C {i j c : Int} (h : rg3 i j c = true) : RgC i j c (Builtin.Range.rangeSize i j c).toNat := by
  unfold rg3 at h
  simp only [Bool.and_eq_true, decide_eq_true_eq] at h
  obtain ⟨⟨⟨h1, h2⟩, h3⟩, h4⟩ := h
  refine ⟨h1, ?_, h3, (Int.toNat_of_nonneg h4).symm⟩
  have h5 : small 29 c := h2
  have := small_lt h5
  omega
theorem rg3_neg {i j : Int} (hi : small 62 i) (hj : small 62 j) : rg3 i j (-1) = true ∧ (Builtin.Range.rangeSize i j (-1)).toNat = (i - j).toNat := by
  have h := RgC.neg (small62 hi).1 (small62 hi).2 (small62 hj).1 (small62 hj).2
  obtain ⟨h1, h2, h3, h4⟩ := h
  refine ⟨?_, by rw [h4]; exact Int.toNat_natCast _⟩
  unfold rg3
  rw [h3, h4]
  simp
  exact ⟨by decide, by omega⟩
section
variable {X : Cx} {T : Tb} {H0 : HZ} {Γ Γ1 Γn Γm : List Mode} {J : Jm} {e a b c2 tg iter : Expr} {es : List Expr} {st : Stmt} {sts : List Stmt} {f g : SF} {fe ff fa fb fc : EF} {k ka kb kc : Knd} {pos po p2 p3 pos2 q2 : Pos} {q p : Q3} {fi : List D → Option (List D)} {c : Bool} {fs : List D → Option (List D)}
theorem de_lrg3 (hc : X.calm = true) (hg : Gl X "list") (hm : X.mg "list" = none) (hg2 : Gl X "range") (hm2 : X.mg "range" = none) (ha : DE X T H0 Γ a fa ka) (hb : DE X T H0 Γ b fb kb) (hc2 : DE X T H0 Γ c2 fc kc)
    (hs : starEach [a, b, c2] X.env = (false, eval a X.env) :: starEach [b, c2] X.env := by rfl) (hs2 : starEach [b, c2] X.env = (false, eval b X.env) :: starEach [c2] X.env := by rfl) (hs3 : starEach [c2] X.env = (false, eval c2 X.env) :: starEach [] X.env := by rfl) (hpl : (backTo pos2 (starEach [b, c2] X.env)).any (·.1) = false := by rfl)
    (na : starEach [.Call (.Name "range" p2) [a, b, c2] [] pos2] X.env = (false, eval (.Call (.Name "range" p2) [a, b, c2] [] pos2) X.env) :: starEach [] X.env := by rfl) :
    DE X T H0 Γ (.Call (.Name "list" po) [.Call (.Name "range" p2) [a, b, c2] [] pos2] [] pos) (e3 gLrg3 fa fb fc) (.ol q) :=
  PE.wk (pe_lrg3 hc hg hm hg2 hm2 (da_cons ha (da_cons hb (da_cons hc2 da_nil hs3) hs2) hs) hs hpl na) fun σ H Q ⟨F, O, ρ, d, R, hf, hq⟩ => by
    unfold e3 at hf
    cases h1 : fa ρ with
    | none => rw [h1] at hf; cases hf
    | some x =>
      rw [h1] at hf
      simp only [Option.bind_some] at hf
      cases h2 : fb ρ with
      | none => rw [h2] at hf; cases hf
      | some y =>
        rw [h2] at hf
        simp only [Option.bind_some] at hf
        cases h3 : fc ρ with
        | none => rw [h3] at hf; cases hf
        | some z =>
          rw [h3] at hf
          simp only [Option.bind_some] at hf
          refine ⟨F, O, ρ, [x, y, z], R, by unfold aCons aNil; rw [h1, h2, h3]; rfl, fun F1 H1 vs R1 s1 t1 r1 => ?_⟩
          unfold gLrg3 at hf
          split at hf
          · rename_i i j c
            split at hf
            · rename_i hh
              cases hf
              cases r1 with
              | cons r1 r2 => cases r2 with
                | cons r2 r3 => cases r3 with
                  | cons r3 r4 =>
                    cases r4; cases r1; cases r2; cases r3
                    exact ⟨i, j, c, _, rfl, rg3_C hh.1, hh.2, fun u hu => new_lst R1 (rc_reps _ _ _) (fun F' H' w R' s' t' r' => hq F' H' w R' (s1.trans s') (t1.trans t') r') u hu⟩
            · cases hf
          · cases hf
end
end DL

namespace DL
open PySem PySem.Spec PyProof.Rows L2

/-! ### sorted(pairs), of any ints -/
def leO (p q : Int × Int) : Bool := !SrtO.lexB q p
def sortO (ps : List (Int × Int)) : List (Int × Int) := srtB leO ps
def gSortO (x : D) : Option D := match x with
  | .lst ds => (pairsOf ds).bind fun ps => some (.lst ((sortO ps).map pD))
  | _ => none
theorem leO_iff {p q : Int × Int} : leO p q = true ↔ p.1 < q.1 ∨ (p.1 = q.1 ∧ p.2 ≤ q.2) := by
  unfold leO
  rw [Bool.not_eq_true', SrtO.lexB_no]
  omega
theorem sortO_perm (ps : List (Int × Int)) : (sortO ps).Perm ps := srtB_perm _ _
theorem sortO_pw (ps : List (Int × Int)) : (sortO ps).Pairwise fun a b => leO a b = true :=
  srtB_pw (le := leO) (fun a b c h1 h2 => by
    rw [leO_iff] at *
    omega) (fun a b => by
    rw [Bool.or_eq_true, leO_iff, leO_iff]
    omega) ps
theorem sortO_uniq {ns ms : List (Int × Int)} (h1 : ms.Perm ns) (h2 : ms.Pairwise fun a b => leO a b = true) : ms = sortO ns :=
  (h1.trans (sortO_perm ns).symm).eq_of_pairwise (fun a b _ _ h3 h4 => by
    rw [leO_iff] at h3 h4
    apply Prod.ext <;> omega) h2 (sortO_pw ns)
section
variable {X : Cx} {T : Tb} {H0 : HZ} {Γ Γ1 Γn Γm : List Mode} {J : Jm} {e a b tg iter : Expr} {es : List Expr} {st : Stmt} {sts : List Stmt} {f g : SF} {fe fa fb fc : EF} {k ka kb kc : Knd} {pos po : Pos} {q p : Q3} {fi : List D → Option (List D)} {c : Bool} {fs : List D → Option (List D)}
def kOf (H : Hp) (v : V) : Int × Int := match v with
  | .ref t => match H t with
    | some (.tup [.int i, .int j]) => (i, j)
    | _ => (0, 0)
  | _ => (0, 0)
theorem kOf_eq {H : Hp} {t : Addr} {i j : Int} (h : H t = some (.tup [.int i, .int j])) : kOf H (.ref t) = (i, j) := by
  unfold kOf
  dsimp only
  rw [h]
theorem de_sortO (hg : Gl X "sorted") (hm : X.mg "sorted" = none) (ha : DE X T H0 Γ a fa ka) (hk : ka.its = some q := by rfl) (hs : starEach [a] X.env = (false, eval a X.env) :: starEach [] X.env := by rfl) : DE X T H0 Γ (.Call (.Name "sorted" po) [a] [] pos) (e1 gSortO fa) (.ol q) :=
  PE.wk (pe_callB cr_sortedPO hg hm (by decide +kernel) (pa_cons ha pa_nil hs) (he := hs)) (callB_semK fun F O σ H ρ v x d Q R rv hg hq => by
    unfold gSortO at hg
    split at hg
    · rename_i ds
      cases h1 : pairsOf ds with
      | none => rw [h1] at hg; cases hg
      | some ps =>
        rw [h1] at hg
        simp only [Option.bind_some] at hg
        cases hg
        have := pairsOf_eq h1
        subst this
        obtain ⟨a1, vs, rfl, h2, h3⟩ := Rp.lst R rv hk
        have tupOf : ∀ {v : V} {p : Int × Int}, Rq X.K T H0 q F v (pD p) → ∃ t, v = .ref t ∧ H t = some (.tup [.int p.1, .int p.2]) := fun {v p} r => by
          cases r with
          | @tup a us ds h4 h5 =>
            refine ⟨a, rfl, ?_⟩
            cases h5 with
            | cons r1 r2 => cases r2 with
              | cons r2 r3 => cases r3; cases r1; cases r2; exact R.fh _ _ h4
        refine ⟨a1, vs, kOf H, rfl, SqL.of h2, fun x hx => ?_, fun ys p hw hp hn => ?_⟩
        · obtain ⟨d, hd, rd⟩ := h3.mem hx
          obtain ⟨p, hp, rfl⟩ := List.mem_map.mp hd
          obtain ⟨t, rfl, ht⟩ := tupOf rd
          exact ⟨t, rfl, by rw [kOf_eq ht]; exact ht⟩
        · obtain ⟨es, h4, h5⟩ := RepsG.perm hp.perm h3
          obtain ⟨qs, h6, rfl⟩ := perm_map (f := pD) (fun a b e => by unfold pD at e; injection e with e; injection e with e1 e2; injection e2 with e2 _; injection e1 with e1; injection e2 with e2; exact Prod.ext e1 e2) h4
          have hs : qs.Pairwise fun a b => leO a b = true := by
            clear hp h4 h6 hq hn h3
            induction qs generalizing ys with
            | nil => exact .nil
            | cons p qs ih =>
              cases h5 with
              | @cons v vs _ _ r rs =>
                have hw := List.pairwise_cons.mp hw
                rw [List.pairwise_cons]
                refine ⟨fun b hb => ?_, ih _ hw.2 rs⟩
                obtain ⟨i, hi⟩ := List.mem_iff_getElem?.mp hb
                obtain ⟨w, h8, h9⟩ := rs.get (i := i) (d := pD b) (by rw [List.getElem?_map, hi]; rfl)
                obtain ⟨t, rfl, ht⟩ := tupOf r
                obtain ⟨t2, rfl, ht2⟩ := tupOf h9
                have h10 : ltP (kOf H) (.ref t2) (.ref t) = false := hw.1 _ (List.mem_of_getElem? h8)
                have h10 : SrtO.lexB (kOf H (.ref t2)) (kOf H (.ref t)) = false := h10
                rw [kOf_eq ht, kOf_eq ht2] at h10
                unfold leO
                rw [h10]; rfl
          rw [sortO_uniq h6 hs] at h5
          exact new_lst R h5 hq p hn
    · cases hg)
end
end DL

namespace DL
open PySem PySem.Spec PyProof.Rows L2

/-! ### len(set(xs)), xs a list of tuples of ints -/
def nubL : List (List Int) → List (List Int)
  | [] => []
  | k :: ks => if k ∈ nubL ks then nubL ks else k :: nubL ks
theorem mem_nubL {k : List Int} : ∀ {ks : List (List Int)}, k ∈ nubL ks ↔ k ∈ ks
  | [] => Iff.rfl
  | j :: ks => by
    unfold nubL
    split
    · rename_i h
      rw [mem_nubL, List.mem_cons]
      exact ⟨.inr, fun q => q.elim (fun e => e ▸ mem_nubL.mp h) id⟩
    · rw [List.mem_cons, List.mem_cons, mem_nubL]
theorem nodup_nubL : ∀ ks : List (List Int), (nubL ks).Nodup
  | [] => List.nodup_nil
  | j :: ks => by
    unfold nubL
    split
    · exact nodup_nubL ks
    · rename_i h
      exact List.nodup_cons.mpr ⟨h, nodup_nubL ks⟩
theorem nub_len {ks ls : List (List Int)} (h : ls.Nodup) (hm : ∀ k, k ∈ ls ↔ k ∈ ks) : ls.length = (nubL ks).length :=
  ((List.perm_ext_iff_of_nodup h (nodup_nubL ks)).mpr fun k => by rw [hm, mem_nubL]).length_eq
def tLenSetT (K : PySem.W.Frag) (ta : TE) : TE := fun σ H Q => ta σ H fun x H1 => ∃ (l : Addr) (ks : List (Addr × List Int)), x = V.ref l ∧ SqL K H1 l (ks.map fun p => V.ref p.1) ∧ (∀ p ∈ ks, SqT K H1 p.1 (p.2.map V.int)) ∧ ks.length < 64 ∧ Q (.int (nubL (ks.map (·.2))).length) H1
theorem pe_lenSetT {X : Cx} {a : Expr} {ta : TE} {p p2 q pos : Pos} (hu : X.A.units + 64 < cLine) (hc : X.calm = true) (hg : Gl X "len") (hm : X.mg "len" = none) (hg2 : Gl X "set") (hm2 : X.mg "set" = none) (ha : PE X a ta)
    (na : starEach [a] X.env = (false, eval a X.env) :: starEach [] X.env := by rfl) : PE X (.Call (.Name "len" p) [.Call (.Name "set" p2) [a] [] q] [] pos) (tLenSetT X.K ta) := by
  refine ⟨fun pins s σ H Q I h => ?_⟩
  refine Call_ (ld_blt I hg hm PySem.boot_len ?_)
  refine PyProof.Rows.callWith_builtin1 (PyProof.Rows.args_cons ?_ rfl) rfl rfl
  refine Call_ (ld_blt I hg2 hm2 PyProof.Rows.boot_set ?_)
  refine PyProof.Rows.callWith_type1 (PyProof.Rows.args_cons (thn (ha.run pins s σ H _ I h) fun v s1 ⟨x, H1, I1, r1, q1⟩ => PyProof.Rows.args_nil ?_) na) na rfl
  obtain ⟨l, ks, rfl, hq, hk, h1, q1⟩ := q1
  cases r1
  obtain ⟨its, r, pl, hz⟩ := I1.list hq
  refine call_set_tups (P := X.prog) (w := X.w) ks (I1.ok.hd hc) pl.isList (by simpa using refs_of_vals r) (fun p hp => I1.isT (hk p hp)) h1 (by omega) fun h' tk L es ep t R g k => ?_
  refine PyProof.Rows.args_nil ?_
  obtain ⟨o, ho, hex, hd⟩ := R.ob
  have I2 : Inv X pins σ H1 { s1 with heap := h', toks := tk } := I1.kept fun b o e => k b o e
  have hlen : L.length = (nubL (ks.map (·.2))).length := by
    have e := nub_len (ls := L.map (·.2)) R.nd (ks := ks.map (·.2)) fun k => by
      constructor
      · intro hk
        obtain ⟨p, hp, e⟩ := List.mem_map.mp hk
        exact List.mem_map.mpr ⟨p, List.mem_of_mem_take (g.sub p hp), e⟩
      · intro hk
        obtain ⟨p, hp, e⟩ := List.mem_map.mp hk
        rw [← e]
        exact g.all p (by rw [List.take_length]; exact hp)
    rw [List.length_map] at e
    exact e
  have hfew := R.few
  refine call_len_set ho hex hd (SetTR.fits (s := { s1 with heap := h' }) R) (by rw [SetTR.size (s := { s1 with heap := h' }) R]; omega) ⟨.int (nubL (ks.map (·.2))).length, H1, I2.tok _, ⟨_, by rw [SetTR.size (s := { s1 with heap := h' }) R, hlen]⟩, q1⟩
def intssD : List D → Option (List (List Int))
  | [] => some []
  | d :: r => match d with
    | .tup ds => (intsOf ds).bind fun k => (intssD r).map (k :: ·)
    | _ => none
def gLenSetT (x : D) : Option D := match x with
  | .lst ds => (intssD ds).bind fun ks => if ks.length < 64 then some (.int (nubL ks).length) else none
  | _ => none
section
variable {X : Cx} {T : Tb} {H0 : HZ} {Γ Γ1 Γn Γm : List Mode} {J : Jm} {e a b tg iter : Expr} {es : List Expr} {st : Stmt} {sts : List Stmt} {f g : SF} {fe fa fb fc : EF} {k ka kb kc : Knd} {pos po p2 q2 : Pos} {q p : Q3} {fi : List D → Option (List D)} {c : Bool} {fs : List D → Option (List D)} {j : Nat}
theorem keys_of {K : PySem.W.Frag} {F H : Hp} (hs : ∀ b o, F b = some o → H b = some o) : ∀ {ds : List D} {vs : List V} {ks : List (List Int)}, RepsG K T N F vs ds → intssD ds = some ks → ∃ ps : List (Addr × List Int), vs = ps.map (fun p => V.ref p.1) ∧ ps.map (·.2) = ks ∧ ∀ p ∈ ps, H p.1 = some (.tup (p.2.map V.int)) := by
  intro ds
  induction ds with
  | nil => intro vs ks r h; cases h; cases r; exact ⟨[], rfl, rfl, by simp⟩
  | cons d ds ih =>
    intro vs ks r h
    cases r with
    | @cons v vs _ _ r rs =>
      unfold intssD at h
      cases d with
      | tup es =>
        dsimp only at h
        cases h1 : intsOf es with
        | none => rw [h1] at h; cases h
        | some k =>
          rw [h1] at h
          simp only [Option.bind_some] at h
          cases h2 : intssD ds with
          | none => rw [h2] at h; cases h
          | some ks2 =>
            rw [h2] at h
            cases h
            obtain ⟨ps, e1, e2, e3⟩ := ih rs h2
            have := intsOf_eq h1
            subst this
            cases r with
            | @tup a us _ h4 h5 =>
              rw [h5.ints] at h4
              refine ⟨(a, k) :: ps, by rw [e1]; rfl, by rw [List.map_cons, e2], fun p hp => ?_⟩
              rcases List.mem_cons.mp hp with q | q
              · subst q; exact hs _ _ h4
              · exact e3 p q
      | _ => cases h
theorem de_lenSetT (hc : X.calm = true) (hg : Gl X "len") (hm : X.mg "len" = none) (hg2 : Gl X "set") (hm2 : X.mg "set" = none) (ha : DE X T H0 Γ a fa ka) (hr : Room j X.A) (hk : ka.its = some q := by rfl)
    (hs : starEach [a] X.env = (false, eval a X.env) :: starEach [] X.env := by rfl) : DE X T H0 Γ (.Call (.Name "len" po) [.Call (.Name "set" p2) [a] [] q2] [] pos) (e1 gLenSetT fa) (.q p) :=
  PE.wk (pe_lenSetT hr.units hc hg hm hg2 hm2 ha hs) fun σ H Q ⟨F, O, ρ, d, R, hf, hq⟩ => by
    unfold e1 at hf
    cases h1 : fa ρ with
    | none => rw [h1] at hf; cases hf
    | some x =>
      rw [h1] at hf
      simp only [Option.bind_some] at hf
      refine ⟨F, O, ρ, x, R, h1, fun F1 H1 v R1 s1 t1 r1 => ?_⟩
      unfold gLenSetT at hf
      split at hf
      · rename_i ds
        cases h2 : intssD ds with
        | none => rw [h2] at hf; cases hf
        | some ks =>
          rw [h2] at hf
          simp only [Option.bind_some] at hf
          split at hf
          · rename_i hl
            cases hf
            obtain ⟨a1, vs, rfl, h3, h4⟩ := Rp.lst R1 r1 hk
            obtain ⟨ps, e1, e2, e3⟩ := keys_of (fun b o e => R1.fh b o e) h4 h2
            subst e1; subst e2
            rw [List.length_map] at hl
            exact ⟨a1, ps, rfl, SqL.of h3, fun p hp => SqT.of (e3 p hp), hl, hq F1 H1 _ R1 s1 t1 (RepG.int _)⟩
          · cases hf
      · cases hf
end
end DL

namespace DL
open PySem PySem.Spec PyProof.Rows L2

/-! ### len(d), d a dict -/
def gLenD (x : D) : Option D := match x with
  | .dic ks ds => some (.int ks.length)
  | _ => none
section
variable {X : Cx} {T : Tb} {H0 : HZ} {Γ Γ1 Γn Γm : List Mode} {J : Jm} {e a b tg iter : Expr} {es : List Expr} {st : Stmt} {sts : List Stmt} {f g : SF} {fe fa fb fc : EF} {k ka kb kc : Knd} {pos po p2 q2 : Pos} {q p : Q3} {fi : List D → Option (List D)} {c : Bool} {fs : List D → Option (List D)} {j : Nat}
theorem call_lenDR : CallR X (.builtin "len") (fun xs H Q => ∃ a kvs, xs = [V.ref a] ∧ Rd H a (.dK kvs) ∧ Q (.int (kvs.length : Nat)) H) := by
  intro pins s σ H xs us Q I r h
  obtain ⟨a, kvs, rfl, ha, q⟩ := h
  obtain ⟨u, rfl, ru⟩ := vals1 r
  cases ru
  exact d_len I ha fun t s' I' => ⟨.int kvs.length, H, I', ⟨t, rfl⟩, q⟩
theorem de_lenD (hg : Gl X "len") (hm : X.mg "len" = none) (ha : DD X T H0 Γ a fa q) (hs : starEach [a] X.env = (false, eval a X.env) :: starEach [] X.env := by rfl) : DE X T H0 Γ (.Call (.Name "len" po) [a] [] pos) (e1 gLenD fa) (.q p) :=
  PE.wk (pe_callB call_lenDR hg hm (by decide +kernel) (pa_cons ha pa_nil hs) (he := hs)) fun σ H Q ⟨F, O, ρ, d, R, hf, hq⟩ => by
    unfold e1 at hf
    cases h1 : fa ρ with
    | none => rw [h1] at hf; cases hf
    | some x =>
      rw [h1] at hf
      simp only [Option.bind_some] at hf
      refine ⟨F, O, ρ, x, R, h1, fun F1 H1 v R1 s1 t1 dr => ?_⟩
      unfold gLenD at hf
      split at hf
      · rename_i ks ds
        cases hf
        obtain ⟨a1, rfl, hx⟩ := dr rfl (.int 0) _ rfl
        rcases hx with ⟨kvs, ds', e, h2, h3⟩ | ⟨kvs, ds', e, h2, h3⟩
        · cases e
          rw [List.length_map] at hq
          exact ⟨a1, kvs, rfl, h2, hq F1 H1 _ R1 s1 t1 (RepG.int _)⟩
        · cases e
      · cases hf
end
end DL

namespace DL
open PySem PySem.Spec PyProof.Rows L2

/-! ### what may raise -/
inductive Res where
  | rt (d : D) | ex (c : Nat) (es : List D)
abbrev XF := List D → Option Res
/-- an exception, as it leaves a def -/
def ExOk (K : PySem.W.Frag) (T : Tb) (H0 H' : Hp) (cls : Value) (od : Option Addr) (c : Nat) (es : List D) : Prop := ∃ F, Same H0 F ∧ Same F H' ∧ (NoT F ∧ LamX.Tabs T.t H') ∧ ExR K T F cls od c es
def tDX (K : PySem.W.Frag) (T : Tb) (H0 : HZ) (Γ : List Mode) (f : XF) (k : Knd) (W : WX) : TE := fun σ H Q =>
  ∃ F O ρ r, Rl K T H0 Γ F O σ H ρ ∧ f ρ = some r ∧ (∀ d, r = .rt d → ∀ F' H' v, Rl K T H0 Γ F' O σ H' ρ → Same F F' → Sm H H' → Rp K T H0 F' H' O k v d → Q v H') ∧
    ∀ c es, r = .ex c es → ∀ F' H' cls od, Rl K T H0 Γ F' O σ H' ρ → Same F F' → ExR K T F' cls od c es → W cls od σ H'
abbrev DX (X : Cx) (T : Tb) (H0 : HZ) (Γ : List Mode) (e : Expr) (f : XF) (k : Knd) (W : WX) : Prop := PE X e (tDX X.K T H0 Γ f k W)
def xDrop (f : XF) : SF := fun ρ => (f ρ).bind fun r => match r with
  | .rt _ => some (.nx ρ)
  | .ex c es => some (.ex c es ρ)
def xSet (i : Nat) (f : XF) : SF := fun ρ => (f ρ).bind fun r => match r with
  | .rt d => some (.nx (ρ.set i d))
  | .ex c es => some (.ex c es ρ)
def xRet (f : XF) : SF := fun ρ => (f ρ).bind fun r => match r with
  | .rt d => some (.rt d)
  | .ex c es => some (.ex c es ρ)
section
variable {X : Cx} {T : Tb} {H0 : HZ} {Γ Γ1 Γn Γm : List Mode} {J : Jm} {e a b o tg iter : Expr} {es : List Expr} {st : Stmt} {sts : List Stmt} {f : XF} {fe fa fb fo : EF} {k ka kb : Knd} {pos po pos' : Pos} {q p : Q3} {fs : List D → Option (List D)} {x : Str} {i : Nat} {W : WX} {cl : Nat}
theorem dx_wk (h : DX X T H0 Γ e f k W) {k' : Knd} (i : ∀ F O σ H ρ v d, Rl X.K T H0 Γ F O σ H ρ → Rp X.K T H0 F H O k v d → Rp X.K T H0 F H O k' v d) : DX X T H0 Γ e f k' W :=
  PE.wk h fun σ H Q ⟨F, O, ρ, r, R, hf, hq, hx⟩ => ⟨F, O, ρ, r, R, hf, fun d hd F' H' v R' sF sH r => hq d hd F' H' v R' sF sH (i _ _ _ _ _ _ _ R' r), hx⟩
theorem dx_q (h : DX X T H0 Γ e f (.q p) W) (hl : p.le q = true := by rfl) : DX X T H0 Γ e f (.q q) W := dx_wk h fun F O σ H ρ v d R r => RepG.mono (.refl _) (NK.le hl) r
theorem dx_oo (h : DX X T H0 Γ e f (.ol p) W) (hl : p.le q = true := by rfl) : DX X T H0 Γ e f (.ol q) W := dx_wk h fun F O σ H ρ v d R ⟨a, vs, ds, h1, h2, h3, h4, h5, h6⟩ => ⟨a, vs, ds, h1, h2, h3, h4, h5, RepsG.mono (.refl _) (NK.le hl) h6⟩
theorem ds_dropX (he : DX X T H0 Γ e f k J.w) (hx : wkAll Γ J.x = true) (hs : swapsWith e none pos.line X.env = pure false := by rfl) : DS X T H0 Γ (.Expr e pos) (xDrop f) Γ J := PS.wk (ps_expr he hs) fun E σ H ⟨F, O, ρ, out, R, hf, hq⟩ => by
  unfold xDrop at hf
  cases h1 : f ρ with
  | none => rw [h1] at hf; cases hf
  | some r =>
    rw [h1] at hf
    refine ⟨F, O, ρ, r, R, h1, ?_, ?_⟩
    · rintro d rfl F' H' v R' s s' rv
      cases hf
      exact hq F' O σ H' s R'
    · rintro c es rfl F' H' cls od R' s x
      cases hf
      obtain ⟨F2, O2, s2, R2⟩ := wk_of hx F' O σ H' ρ R'
      exact hq F2 O2 σ H' cls od (s.trans s2) R2 (x.mono s2)
theorem ds_setX (hN : X.N.Nodup) (hi : X.N[i]? = some x) (hx : Loc X.env.scope x) (he : DX X T H0 Γ e f (.q q) J.w) (hw : wkAll Γ J.x = true) (hl : i < Γ.length := by decide) (hs : swapsWith e (some (.Name x pos')) pos.line X.env = pure false := by rfl)
    (hf : X.fn x = true ∨ X.env.scope.names.lookup x = some .local := by first | exact .inl rfl | exact .inr rfl | assumption) : DS X T H0 Γ (.Assign [.Name x pos'] e pos) (xSet i f) (Γ.set i (.fz q)) J := PS.wk (ps_set hN hi hx he hs hf) fun E σ H ⟨F, O, ρ, out, R, hf, hq⟩ => by
  unfold xSet at hf
  cases h1 : f ρ with
  | none => rw [h1] at hf; cases hf
  | some r =>
    rw [h1] at hf
    refine ⟨F, O, ρ, r, R, h1, ?_, ?_⟩
    · rintro d rfl F' H' v R' s s' rv
      cases hf
      exact hq F' O _ H' s (R'.setq hl rv)
    · rintro c es rfl F' H' cls od R' s x
      cases hf
      obtain ⟨F2, O2, s2, R2⟩ := wk_of hw F' O σ H' ρ R'
      exact hq F2 O2 σ H' cls od (s.trans s2) R2 (x.mono s2)
theorem ds_setoX (hN : X.N.Nodup) (hi : X.N[i]? = some x) (hx : Loc X.env.scope x) (he : DX X T H0 Γ e f (.ol q) J.w) (hw : wkAll Γ J.x = true) (hl : i < Γ.length := by decide) (hs : swapsWith e (some (.Name x pos')) pos.line X.env = pure false := by rfl)
    (hf : X.fn x = true ∨ X.env.scope.names.lookup x = some .local := by first | exact .inl rfl | exact .inr rfl | assumption) : DS X T H0 Γ (.Assign [.Name x pos'] e pos) (xSet i f) (Γ.set i (.ow q)) J := PS.wk (ps_set hN hi hx he hs hf) fun E σ H ⟨F, O, ρ, out, R, hf, hq⟩ => by
  unfold xSet at hf
  cases h1 : f ρ with
  | none => rw [h1] at hf; cases hf
  | some r =>
    rw [h1] at hf
    refine ⟨F, O, ρ, r, R, h1, ?_, ?_⟩
    · rintro d rfl F' H' v R' s s' ⟨a, vs, ds, e1, e2, h2, h3, h4, h5⟩
      cases hf
      subst e1; subst e2
      exact hq F' _ _ H' s (R'.seto hl h2 h3 h4 h5)
    · rintro c es rfl F' H' cls od R' s x
      cases hf
      obtain ⟨F2, O2, s2, R2⟩ := wk_of hw F' O σ H' ρ R'
      exact hq F2 O2 σ H' cls od (s.trans s2) R2 (x.mono s2)
theorem ds_retX (he : DX X T H0 Γ e f (.q q) J.w) (hw : wkAll Γ J.x = true) (hr : J.r = .q q := by rfl) : DS X T H0 Γ (.Return (some e) pos) (xRet f) Γn J := PS.wk (ps_ret he) fun E σ H ⟨F, O, ρ, out, R, hf, hq⟩ => by
  unfold xRet at hf
  cases h1 : f ρ with
  | none => rw [h1] at hf; cases hf
  | some r =>
    rw [h1] at hf
    refine ⟨F, O, ρ, r, R, h1, ?_, ?_⟩
    · rintro d rfl F' H' v R' s s' rv
      cases hf
      refine hq H' v ?_
      rw [hr]
      exact ⟨F', R'.h0, R'.fh, ⟨R'.nF, R'.tb⟩, rv⟩
    · rintro c es rfl F' H' cls od R' s x
      cases hf
      obtain ⟨F2, O2, s2, R2⟩ := wk_of hw F' O σ H' ρ R'
      exact hq F2 O2 σ H' cls od (s.trans s2) R2 (x.mono s2)
theorem ds_retoX (he : DX X T H0 Γ e f (.ol q) J.w) (hw : wkAll Γ J.x = true) (hr : J.r = .ol q := by rfl) : DS X T H0 Γ (.Return (some e) pos) (xRet f) Γn J := PS.wk (ps_ret he) fun E σ H ⟨F, O, ρ, out, R, hf, hq⟩ => by
  unfold xRet at hf
  cases h1 : f ρ with
  | none => rw [h1] at hf; cases hf
  | some r =>
    rw [h1] at hf
    refine ⟨F, O, ρ, r, R, h1, ?_, ?_⟩
    · rintro d rfl F' H' v R' s s' rv
      cases hf
      refine hq H' v ?_
      rw [hr]
      obtain ⟨a, vs, ds, e1, e2, h1, h2, h3, h4⟩ := rv
      exact ⟨F', a, vs, ds, e1, e2, R'.h0, R'.fh, ⟨R'.nF, R'.tb⟩, h1, h2, h4⟩
    · rintro c es rfl F' H' cls od R' s x
      cases hf
      obtain ⟨F2, O2, s2, R2⟩ := wk_of hw F' O σ H' ρ R'
      exact hq F2 O2 σ H' cls od (s.trans s2) R2 (x.mono s2)

/-! ### defs that may raise -/
def spX (K : PySem.W.Frag) (T : Tb) (n : Nat) (φ : List D → Option Res) (rk : RK) : Sp := fun vs H Q E => vs.length = n ∧ ∃ ds r, LamX.Tabs T.t H ∧ RUs K T H vs ds ∧ φ ds = some r ∧
  (∀ d, r = .rt d → ∀ H' v, RetOk K T (ntb H) H' rk v d → Q v H') ∧ ∀ c es, r = .ex c es → ∀ H' cls od, ExOk K T (ntb H) H' cls od c es → E cls od H'
def fnX (pks : List PKn) (m : Nat) (nx : Bool) (body : SF) : List D → Option Res := fun args =>
  if chks pks args = true then (body (args ++ List.replicate m .non)).bind fun o => match o with
    | .rt d => some (.rt d)
    | .nx _ => if nx = true then some (.rt .non) else none
    | .ex c es _ => some (.ex c es)
    | _ => none
  else none
abbrev jx (n : Nat) (rk : RK) (E : XK) : Jm := ⟨[], [], rk, List.replicate n .no, fun cls od _ H => E cls od H⟩
abbrev bodyXX (P : Program) (w : World) (K : PySem.W.Frag) (mg : Str → Option Value) (base : Heap) (N : List Str) (x : Str) (st : Stmt) (f : Addr) (cdv : Value) (A : Around) (outer : List Env) (s : Shared) (H : Hp) (E : XK) : Cx := cxOf (L2.CX P w) P w K mg base N x (defScope st) f cdv A outer s H E
/-- what a callee hands back lies so in the caller's heap -/
theorem back_in {K : PySem.W.Frag} {F H1 H' Fc : Hp} {O : Own} {σ : L2.St} {ρ : List D} (R : Rl K T H0 Γ F O σ H1 ρ) (s1 : Same (ntb H1) Fc) (s2 : Same Fc H') (n1 : NoT Fc) (tb : LamX.Tabs T.t H') :
    Rl K T H0 Γ (cut Fc fun b => ∃ i, O i b) O σ H' ρ ∧ Same F (cut Fc fun b => ∃ i, O i b) ∧ Sm H1 H' ∧ ∀ a o, Fc a = some o → isMut o = false → ¬ ∃ i, O i a := by
  have fh : Same F (ntb H1) := fun b o e => ntb_some (R.fh _ _ e) (R.nF _ _ e)
  have sF : Same F (cut Fc fun b => ∃ i, O i b) := fun b o e => by
    rw [cut_out]
    · exact s1 _ _ (fh _ _ e)
    · rintro ⟨i, hi⟩
      rw [(R.on i b hi).1] at e; cases e
  have sm : Sm H1 H' := ⟨fun b o e n => s2 _ _ (s1 _ _ (ntb_some e n))⟩
  refine ⟨(R.grow sm tb).more sF (fun b o e => ?_) n1.cut (fun i b hi => cut_in ⟨i, hi⟩), sF, sm, ?_⟩
  · unfold cut at e
    split at e
    · cases e
    · exact s2 _ _ e
  · rintro a o e hm ⟨i, hi⟩
    obtain ⟨_, u, h2, h3⟩ := R.on i a hi
    have := s1 _ _ (ntb_some h2 (isT_mut h3))
    rw [e] at this; cases this
    rw [hm] at h3; cases h3
theorem ExR.cut {K : PySem.W.Frag} {Fc : Hp} {S : Addr → Prop} (hT : ∀ a o, Fc a = some o → isMut o = false → ¬ S a) {cls : Value} {od : Option Addr} {c : Nat} {es : List D} (h : ExR K T Fc cls od c es) : ExR K T (cut Fc S) cls od c es := by
  obtain ⟨h1, fs, h2, h3, h4⟩ := h
  exact ⟨h1, fs, h2.cut hT, h3, h4.cut (fun _ z => z.elim) hT⟩
theorem ex_in {K : PySem.W.Frag} {F H1 H' : Hp} {O : Own} {σ : L2.St} {ρ : List D} {cls : Value} {od : Option Addr} {c : Nat} {es : List D} (R : Rl K T H0 Γ F O σ H1 ρ) (h : ExOk K T (ntb H1) H' cls od c es) : ∃ F', Rl K T H0 Γ F' O σ H' ρ ∧ Same F F' ∧ ExR K T F' cls od c es := by
  obtain ⟨Fc, s1, s2, ⟨n1, tb⟩, r⟩ := h
  obtain ⟨R2, s3, s4, hT⟩ := back_in R s1 s2 n1 tb
  exact ⟨_, R2, s3, r.cut hT⟩
structure OkFX (P : Program) (w : World) (K : PySem.W.Frag) (mg : Str → Option Value) (base : Heap) (T : Tb) (k : Nat) (x : Str) (ps : List Str) (φ : List D → Option Res) (rk : RK) : Prop where
  ex : ∃ f fd, mg x = some (.ref f) ∧ PySem.W.keepIn K (.ref f) = true ∧ Binds K fd ps [] ∧ FnOk P w K mg base (L2.CX P w) k f fd ps (spX K T ps.length φ rk)
structure OkMX (P : Program) (w : World) (K : PySem.W.Frag) (mg : Str → Option Value) (base : Heap) (T : Tb) (k : Nat) (c : Nat) (m : Str) (ps : List Str) (φ : List D → Option Res) (rk : RK) : Prop where
  ex : ∃ f fd, Meth K (T c).1 m f ∧ Binds K fd ps [] ∧ FnOk P w K mg base (L2.CX P w) k f fd ps (spX K T ps.length φ rk)
  cl : Cls K (T c).1
  no : m ∉ (T c).2
def xCall (φ : List D → Option Res) (fs : List D → Option (List D)) : XF := fun ρ => (fs ρ).bind φ
theorem callX_sem {K : PySem.W.Frag} {n : Nat} {φ : List D → Option Res} {rk : RK} (hk : rk.ok = true) (hn : ∀ ρ ds, fs ρ = some ds → ds.length = n) :
    ∀ σ H Q, tDX K T H0 Γ (xCall φ fs) rk.knd W σ H Q → tCallS (spX K T n φ rk) (WE W) (tDA K T H0 Γ fs) σ H Q := by
  rintro σ H Q ⟨F, O, ρ, r, R, hf, hq, hx⟩
  unfold xCall at hf
  cases h1 : fs ρ with
  | none => rw [h1] at hf; cases hf
  | some ds =>
    rw [h1] at hf
    simp only [Option.bind_some] at hf
    refine ⟨F, O, ρ, ds, R, h1, fun F1 H1 vs R1 s1 t1 r1 => ?_⟩
    refine ⟨by rw [r1.length]; exact hn _ _ h1, ds, r, R1.tb, r1, hf, fun d hd H' v r => ?_, fun c es hd H' cls od r => ?_⟩
    · obtain ⟨F2, R2, s2, t2, r2⟩ := ret_in R1 r hk
      exact hq d hd F2 H' v R2 (s1.trans s2) (t1.trans t2) r2
    · obtain ⟨F2, R2, s2, r2⟩ := ex_in R1 r
      exact hx c es hd F2 H' cls od R2 (s1.trans s2) r2
theorem dx_call {j k : Nat} {x : Str} {ps : List Str} {φ : List D → Option Res} {rk : RK} (h : OkFX X.prog X.w X.K X.mg X.base T j x ps φ rk) (tk : Takes X W) (hr : Room k X.A) (hg : Gl X x) (ha : DA X T H0 Γ (e :: es) fs) (hn : ∀ ρ ds, fs ρ = some ds → ds.length = ps.length) (hj : j ≤ k := by decide) (hk : rk.ok = true := by rfl)
    (hdb : (x == ("__debug__" : Str)) = false := by decide) (he : starEach (e :: es) X.env = (false, eval e X.env) :: starEach es X.env := by rfl) (hpl : (backTo pos (starEach es X.env)).any (·.1) = false := by rfl) :
    DX X T H0 Γ (.Call (.Name x po) (e :: es) [] pos) (xCall φ fs) rk.knd W := by
  obtain ⟨f, fd, h1, h2, h3, h4⟩ := h.ex
  exact PE.wk (pe_callS h4 (hr.mono hj) hg h1 h2 h3 (fun σ => passAt tk σ) ha hdb he hpl) (callX_sem hk hn)
/-- o.m(..), which may raise -/
def tMethX (C : Addr) (m : Str) (sp : Sp) (W : WX) (ta : TE) (t : TA) : TE := fun σ H Q => ta σ H fun x H1 => ∃ a dx fs, x = .ref a ∧ H1 a = some (.ins C dx fs) ∧ fs.lookup m = none ∧ t σ H1 fun vs H2 => sp (x :: vs) H2 Q (WE W σ)
theorem pe_methX {pl : Sem Bool} {C f : Addr} {fd : FuncData} {ps : List Str} {sp : Sp} {k : Nat} {ta : TE} {t : TA} {m : Str} {apos : Pos} (ho : PE X o ta) (c : Cls X.K C) (hm : Meth X.K C m f) (Fn : FnOk X.prog X.w X.K X.mg X.base (L2.CX X.prog X.w) k f fd ps sp) (hr : Room k X.A) (hb : Binds X.K fd ps []) (tk : Takes X W) (ha : PA X (e :: es) t)
    (hst : starEach (e :: es) X.env = (false, eval e X.env) :: starEach es X.env := by rfl) (hpl : (backTo pos (starEach es X.env)).any (·.1) = false := by rfl)
    (ht : eval (.Call (.Attribute o m apos) (e :: es) [] pos) X.env = (do
      let ov ← eval o X.env
      standAt apos.atName
      let (f, first) ← holding [ov] (getMethod ov m pl)
      callWith pos f first (backTo pos (starEach (e :: es) X.env)) (backToKw pos (keywordEach [] X.env))) := by rfl) :
    PE X (.Call (.Attribute o m apos) (e :: es) [] pos) (tMethX C m sp W ta t) := by
  constructor
  intro pins s σ H Q I hw
  refine PySem.W.methodCall_KW (pl := pl) (thn (ho.run pins s σ H _ I hw) ?_) ht
  rintro u s1 ⟨x, H1, I1, rx, a, dx, fs, rfl, ea, l, q⟩
  have eu : u = Value.ref a := rx
  subst eu
  refine getmeth_ok I1 ea c hm l (PySem.W.callWith_K (first := [.ref a]) (h₀ := X.base) I.ok.mod.kin hm.kp (thn (ha.run pos pins s1 σ H1 _ I1 q) ?_) hst hpl)
  rintro us s2 ⟨vs, H2, I2, r, q2⟩
  exact ⟨I2.kIn, run_fnS (E := WE W) (us := .ref a :: us) (vs := .ref a :: vs) Fn hr hb (passAt tk σ) I2 (.cons rfl r) q2⟩
theorem pe_methX0 {pl : Sem Bool} {C f : Addr} {fd : FuncData} {ps : List Str} {sp : Sp} {k : Nat} {ta : TE} {m : Str} {apos : Pos} (ho : PE X o ta) (c : Cls X.K C) (hm : Meth X.K C m f) (Fn : FnOk X.prog X.w X.K X.mg X.base (L2.CX X.prog X.w) k f fd ps sp) (hr : Room k X.A) (hb : Binds X.K fd ps []) (tk : Takes X W)
    (ht : eval (.Call (.Attribute o m apos) [] [] pos) X.env = (do
      let ov ← eval o X.env
      standAt apos.atName
      let (f, first) ← holding [ov] (getMethod ov m pl)
      callWith pos f first (backTo pos (starEach [] X.env)) (backToKw pos (keywordEach [] X.env))) := by rfl) :
    PE X (.Call (.Attribute o m apos) [] [] pos) (tMethX C m sp W ta tNil) := by
  constructor
  intro pins s σ H Q I hw
  refine PySem.W.methodCall_KW (pl := pl) (thn (ho.run pins s σ H _ I hw) ?_) ht
  rintro u s1 ⟨x, H1, I1, rx, a, dx, fs, rfl, ea, l, q⟩
  have eu : u = Value.ref a := rx
  subst eu
  exact getmeth_ok I1 ea c hm l (PySem.W.callWith_K0 (first := [.ref a]) I1.kIn hm.kp (run_fnS (E := WE W) (us := [.ref a]) (vs := [.ref a]) Fn hr hb (passAt tk σ) I1 (.cons rfl .nil) q))
def xMeth (c : Nat) (φ : List D → Option Res) (fo : EF) (fs : List D → Option (List D)) : XF := fun ρ => (fo ρ).bind fun d => match d with
  | .ins c' ds => if c' = c then (fs ρ).bind fun as => φ (.ins c ds :: as) else none
  | _ => none
theorem methX_sem {K : PySem.W.Frag} {n : Nat} {φ : List D → Option Res} {rk : RK} {m : Str} (hk : rk.ok = true) (no : m ∉ (T cl).2) (hp : ka.pers = true) (hn : ∀ ρ ds, fs ρ = some ds → ds.length + 1 = n) :
    ∀ σ H Q, tDX K T H0 Γ (xMeth cl φ fo fs) rk.knd W σ H Q → tMethX (T cl).1 m (spX K T n φ rk) W (tD K T H0 Γ fo ka) (tDA K T H0 Γ fs) σ H Q := by
  rintro σ H Q ⟨F, O, ρ, r, R, hf, hq, hx⟩
  unfold xMeth at hf
  cases h1 : fo ρ with
  | none => rw [h1] at hf; cases hf
  | some y =>
    rw [h1] at hf
    simp only [Option.bind_some] at hf
    split at hf
    · rename_i c' ds'
      split at hf
      · rename_i hc
        subst hc
        cases h2 : fs ρ with
        | none => rw [h2] at hf; cases hf
        | some as =>
          rw [h2] at hf
          simp only [Option.bind_some] at hf
          refine ⟨F, O, ρ, _, R, h1, fun F1 H1 v R1 s1 t1 r1 => ?_⟩
          obtain ⟨a, dx, fs', e1, h3, h4, _⟩ := Rp.ins R1 r1
          refine ⟨a, dx, fs', e1, h3, lookup_no (by rw [h4]; exact no), F1, O, ρ, as, R1, h2, fun F2 H2 vs R2 s2 t2 r2 => ?_⟩
          refine ⟨by rw [List.length_cons, r2.length]; exact hn _ _ h2, _ :: as, r, R2.tb, .cons (t2.rU (R1.toB r1)) r2, hf, fun d hd H' v r => ?_, fun c es hd H' cls od r => ?_⟩
          · obtain ⟨F3, R3, s3, t3, r3⟩ := ret_in R2 r hk
            exact hq d hd F3 H' v R3 ((s1.trans s2).trans s3) ((t1.trans t2).trans t3) r3
          · obtain ⟨F3, R3, s3, r3⟩ := ex_in R2 r
            exact hx c es hd F3 H' cls od R3 ((s1.trans s2).trans s3) r3
      · cases hf
    · cases hf
theorem dx_meth {i k : Nat} {m : Str} {ps : List Str} {φ : List D → Option Res} {rk : RK} {pl : Sem Bool} {apos : Pos} (h : OkMX X.prog X.w X.K X.mg X.base T i cl m ps φ rk) (tk : Takes X W) (hr : Room k X.A) (ho : DE X T H0 Γ o fo ka) (ha : DA X T H0 Γ (e :: es) fs) (hn : ∀ ρ ds, fs ρ = some ds → ds.length + 1 = ps.length) (hp : ka.pers = true := by rfl) (hj : i ≤ k := by decide) (hk : rk.ok = true := by rfl)
    (hst : starEach (e :: es) X.env = (false, eval e X.env) :: starEach es X.env := by rfl) (hpl : (backTo pos (starEach es X.env)).any (·.1) = false := by rfl)
    (ht : eval (.Call (.Attribute o m apos) (e :: es) [] pos) X.env = (do
      let ov ← eval o X.env
      standAt apos.atName
      let (f, first) ← holding [ov] (getMethod ov m pl)
      callWith pos f first (backTo pos (starEach (e :: es) X.env)) (backToKw pos (keywordEach [] X.env))) := by rfl) :
    DX X T H0 Γ (.Call (.Attribute o m apos) (e :: es) [] pos) (xMeth cl φ fo fs) rk.knd W := by
  obtain ⟨f, fd, h1, h2, h3⟩ := h.ex
  exact PE.wk (pe_methX ho h.cl h1 h3 (hr.mono hj) h2 tk ha hst hpl ht) (methX_sem hk h.no hp hn)
theorem dx_meth0 {i k : Nat} {m : Str} {ps : List Str} {φ : List D → Option Res} {rk : RK} {pl : Sem Bool} {apos : Pos} (h : OkMX X.prog X.w X.K X.mg X.base T i cl m ps φ rk) (tk : Takes X W) (hr : Room k X.A) (ho : DE X T H0 Γ o fo ka) (hn : 1 = ps.length := by rfl) (hp : ka.pers = true := by rfl) (hj : i ≤ k := by decide) (hk : rk.ok = true := by rfl)
    (ht : eval (.Call (.Attribute o m apos) [] [] pos) X.env = (do
      let ov ← eval o X.env
      standAt apos.atName
      let (f, first) ← holding [ov] (getMethod ov m pl)
      callWith pos f first (backTo pos (starEach [] X.env)) (backToKw pos (keywordEach [] X.env))) := by rfl) :
    DX X T H0 Γ (.Call (.Attribute o m apos) [] [] pos) (xMeth cl φ fo aNil) rk.knd W := by
  obtain ⟨f, fd, h1, h2, h3⟩ := h.ex
  refine PE.wk (pe_methX0 ho h.cl h1 h3 (hr.mono hj) h2 tk ht) fun σ H Q hw => ?_
  obtain ⟨F, O, ρ, d, R, h4, h5⟩ := methX_sem (K := X.K) hk h.no hp (fun ρ ds e => by cases e; exact hn) σ H Q hw
  refine ⟨F, O, ρ, d, R, h4, fun F1 H1 v R1 s1 t1 r1 => ?_⟩
  obtain ⟨a, dx, fs', e1, e2, e3, F2, O2, ρ2, as, R2, h6, h7⟩ := h5 F1 H1 v R1 s1 t1 r1
  cases h6
  exact ⟨a, dx, fs', e1, e2, e3, h7 F2 H1 [] R2 (.refl _) (.refl _) .nil⟩
end
section
variable {P : Program} {w : World} {K : PySem.W.Frag} {mg : Str → Option Value} {base : Heap} {T : Tb}
theorem fn_bodyX {x qual : Str} {st : Stmt} {N ps : List Str} {pks : List PKn} {m k : Nat} {body : SF} {Γn : List Mode} {rk : RK} {nx : Bool} {f : Addr} {fd : FuncData} (F : Fun K x qual st f fd) (S : FnScope N ps (defScope st)) (hN : N.length = pks.length + m) (hp : ps.length = pks.length)
    (hnx : nx = true → ∃ q, rk = .q q) (hb : ∀ (f : Addr) (cdv : Value) (A : Around) (outer : List Env) (s : Shared) (H : Hp) (E : XK), Room k (bodyXX P w K mg base N qual st f cdv A outer s H E).A → Takes (bodyXX P w K mg base N qual st f cdv A outer s H E) (fun cls od _ H' => E cls od H') →
      PassesOwn (model P w) (bodyXX P w K mg base N qual st f cdv A outer s H E).A (bodyXX P w K mg base N qual st f cdv A outer s H E).env (bodyXX P w K mg base N qual st f cdv A outer s H E).xe →
      DSs (bodyXX P w K mg base N qual st f cdv A outer s H E) T ⟨ntb H, 0, []⟩ (ms0 pks m) (defBody st) body Γn (jx (pks.length + m) rk E)) :
    FnOk P w K mg base (L2.CX P w) (k + 1) f fd ps (spX K T ps.length (fnX pks m nx body) rk) := by
  refine F.okX S (fun vs H Q E h => h.1) fun cdv A outer s H vs Q E hr h => ?_
  obtain ⟨hl, ds, r, ht, rr, hf, hq, hx⟩ := h
  refine ⟨_, hb f cdv A outer s H E hr (takes_of rfl rfl rfl rfl) (passes_of rfl), ?_⟩
  unfold fnX at hf
  split at hf
  · rename_i hc
    cases h1 : body (ds ++ List.replicate m .non) with
    | none => rw [h1] at hf; cases hf
    | some o =>
      rw [h1] at hf
      simp only [Option.bind_some] at hf
      refine ⟨ntb H, _, _, o, rl_start hN rr hc ht, h1, ?_⟩
      split at hf
      · cases hf
        exact fun H' v hv => hq _ rfl H' v hv
      · split at hf
        · rename_i hnn
          cases hf
          obtain ⟨q, rfl⟩ := hnx hnn
          exact fun F' O' σ' H' s R => hq _ rfl H' .non ⟨F', R.h0, R.fh, ⟨R.nF, R.tb⟩, .non⟩
        · cases hf
      · cases hf
        exact fun F' O' σ' H' cls od s R x => hx _ _ rfl H' cls od ⟨F', R.h0, R.fh, ⟨R.nF, R.tb⟩, x⟩
      · cases hf
  · cases hf
theorem mk_okfx {x : Str} {st : Stmt} {N ps : List Str} {pks : List PKn} {m k : Nat} {body : SF} {Γn : List Mode} {rk : RK} {nx : Bool} (F : FtF K mg x x st ps) (S : FnScope N ps (defScope st)) (hN : N.length = pks.length + m) (hp : ps.length = pks.length)
    (hnx : nx = true → ∃ q, rk = .q q) (hb : ∀ (f : Addr) (cdv : Value) (A : Around) (outer : List Env) (s : Shared) (H : Hp) (E : XK), Room k (bodyXX P w K mg base N x st f cdv A outer s H E).A → Takes (bodyXX P w K mg base N x st f cdv A outer s H E) (fun cls od _ H' => E cls od H') →
      PassesOwn (model P w) (bodyXX P w K mg base N x st f cdv A outer s H E).A (bodyXX P w K mg base N x st f cdv A outer s H E).env (bodyXX P w K mg base N x st f cdv A outer s H E).xe →
      DSs (bodyXX P w K mg base N x st f cdv A outer s H E) T ⟨ntb H, 0, []⟩ (ms0 pks m) (defBody st) body Γn (jx (pks.length + m) rk E)) :
    OkFX P w K mg base T (k + 1) x ps (fnX pks m nx body) rk := by
  obtain ⟨f, fd, h1, h2, h3⟩ := F.ex
  exact ⟨f, fd, h3, h1.kp, h2, fn_bodyX h1 S hN hp hnx hb⟩
theorem mk_okmx {x qual : Str} {c : Nat} {st : Stmt} {N ps : List Str} {pks : List PKn} {m k : Nat} {body : SF} {Γn : List Mode} {rk : RK} {nx : Bool} (F : FtM K T c x qual st ps) (S : FnScope N ps (defScope st)) (hN : N.length = pks.length + m) (hp : ps.length = pks.length)
    (hnx : nx = true → ∃ q, rk = .q q) (hb : ∀ (f : Addr) (cdv : Value) (A : Around) (outer : List Env) (s : Shared) (H : Hp) (E : XK), Room k (bodyXX P w K mg base N qual st f cdv A outer s H E).A → Takes (bodyXX P w K mg base N qual st f cdv A outer s H E) (fun cls od _ H' => E cls od H') →
      PassesOwn (model P w) (bodyXX P w K mg base N qual st f cdv A outer s H E).A (bodyXX P w K mg base N qual st f cdv A outer s H E).env (bodyXX P w K mg base N qual st f cdv A outer s H E).xe →
      DSs (bodyXX P w K mg base N qual st f cdv A outer s H E) T ⟨ntb H, 0, []⟩ (ms0 pks m) (defBody st) body Γn (jx (pks.length + m) rk E)) :
    OkMX P w K mg base T (k + 1) c x ps (fnX pks m nx body) rk := by
  obtain ⟨f, fd, h1, h2, h3⟩ := F.ex
  exact ⟨⟨f, fd, h3, h2, fn_bodyX h1 S hN hp hnx hb⟩, F.cl, F.no⟩
end
end DL

namespace DL
open PySem PySem.Spec PyProof.Rows L2

/-! ### raise -/
/-- __init__ of one value, of two values -/
def spE1 (K : PySem.W.Frag) (g : Str) : Sp := fun vs H Q _ => ∃ (a C : Addr) (v : V), vs = [.ref a, v] ∧ OexC K C ∧ PySem.W.findIn K (.ref C) g = some none ∧ H a = some (exo a C none) ∧
  ∀ dx, H dx = none → dx ≠ a → Q .non (upd (upd H dx (exd dx [(g, v)])) a (exo a C (some dx)))
def spE2 (K : PySem.W.Frag) (g1 g2 : Str) : Sp := fun vs H Q _ => ∃ (a C : Addr) (v u : V), vs = [.ref a, v, u] ∧ OexC K C ∧ PySem.W.findIn K (.ref C) g1 = some none ∧ PySem.W.findIn K (.ref C) g2 = some none ∧ H a = some (exo a C none) ∧
  ∀ dx, H dx = none → dx ≠ a → Q .non (upd (upd (upd H dx (exd dx [(g1, v)])) a (exo a C (some dx))) dx (exd dx [(g2, u), (g1, v)]))
section
variable {P : Program} {w : World} {K : PySem.W.Frag} {mg : Str → Option Value} {base : Heap} {T : Tb}
theorem fn_e1 {qual g : Str} {N ps : List Str} {st : Stmt} {f : Addr} {fd : FuncData} (F : Fun K "__init__" qual st f fd) (S : FnScope N ps (defScope st)) (hp : ps.length = 2)
    (hb : ∀ (f : Addr) (cdv : Value) (A : Around) (outer : List Env) (s : Shared) (H : Hp) (E : XK), PSs (bodyX P w K mg base N qual st f cdv A outer s H E) (defBody st) (tOst K g (tVar 0) (tVar 1))) : FnOk P w K mg base CX0 1 f fd ps (spE1 K g) := by
  refine F.ok S (fun vs H Q E h => ?_) fun cdv A outer s H vs Q E hr h => ?_
  · obtain ⟨a, C, v, rfl, _⟩ := h
    exact hp.symm
  · refine ⟨_, hb f cdv A outer s H E, ?_⟩
    obtain ⟨a, C, v, rfl, hc, hf, ha, hq⟩ := h
    exact ⟨v, rfl, .ref a, rfl, a, C, rfl, hc, hf, .inl ⟨ha, fun dx h1 h2 => hq dx h1 h2⟩⟩
theorem fn_e2 {qual g1 g2 : Str} {N ps : List Str} {st : Stmt} {f : Addr} {fd : FuncData} (F : Fun K "__init__" qual st f fd) (S : FnScope N ps (defScope st)) (hp : ps.length = 3)
    (hb : ∀ (f : Addr) (cdv : Value) (A : Around) (outer : List Env) (s : Shared) (H : Hp) (E : XK), PSs (bodyX P w K mg base N qual st f cdv A outer s H E) (defBody st) (tSeq (tOst K g1 (tVar 0) (tVar 1)) (tOst K g2 (tVar 0) (tVar 2)))) : FnOk P w K mg base CX0 1 f fd ps (spE2 K g1 g2) := by
  refine F.ok S (fun vs H Q E h => ?_) fun cdv A outer s H vs Q E hr h => ?_
  · obtain ⟨a, C, v, u, rfl, _⟩ := h
    exact hp.symm
  · refine ⟨_, hb f cdv A outer s H E, ?_⟩
    obtain ⟨a, C, v, u, rfl, hc, hf1, hf2, ha, hq⟩ := h
    refine ⟨v, rfl, .ref a, rfl, a, C, rfl, hc, hf1, .inl ⟨ha, fun dx h1 h2 => ?_⟩⟩
    refine ⟨u, rfl, .ref a, rfl, a, C, rfl, hc, hf2, .inr ⟨dx, [(g1, v)], upd_same, by rw [upd_ne h2, upd_same], by simp, hq dx h1 h2⟩⟩
/-- what the head says of a class of exceptions: its values' names, the last one first -/
structure OkE (P : Program) (w : World) (K : PySem.W.Frag) (mg : Str → Option Value) (base : Heap) (T : Tb) (c : Nat) (x : Str) (gs : List Str) : Prop where
  cl : OexC K (T c).1
  mgx : mg x = some (.ref (T c).1)
  nm : (T c).2 = gs
  ex : match gs with
    | [g] => PySem.W.findIn K (.ref (T c).1) g = some none ∧ ∃ fI fd ps, PySem.W.findIn K (.ref (T c).1) "__init__" = some (some (.ref fI)) ∧ PySem.W.typeIn K (.ref fI) = some (.type "function") ∧ Binds K fd ps [] ∧ FnOk P w K mg base CX0 1 fI fd ps (spE1 K g)
    | [g2, g1] => (PySem.W.findIn K (.ref (T c).1) g1 = some none ∧ PySem.W.findIn K (.ref (T c).1) g2 = some none) ∧ ∃ fI fd ps, PySem.W.findIn K (.ref (T c).1) "__init__" = some (some (.ref fI)) ∧ PySem.W.typeIn K (.ref fI) = some (.type "function") ∧ Binds K fd ps [] ∧ FnOk P w K mg base CX0 1 fI fd ps (spE2 K g1 g2)
    | _ => False
/-- a class of exceptions that are made with a text -/
structure OkE0 (K : PySem.W.Frag) (mg : Str → Option Value) (T : Tb) (c : Nat) (x : Str) : Prop where
  mgx : mg x = some (.ref (T c).1)
  kp : PySem.W.keepIn K (.ref (T c).1) = true
  ty : PySem.W.typeIn K (.ref (T c).1) = some (.type "type")
  sb : PySem.W.subIn K (.ref (T c).1) (.type "BaseException") = some true
  ex : ∃ bm, PySem.W.excIn K (T c).1 bm "ValueError.__new__" = true ∧ ∃ B i, ExcBaseFacts B "ValueError.__new__" i bm
  nm : (T c).2 = []
end
theorem del_up1 {H : Hp} {a dx : Addr} {o1 o2 o3 u : HO} (ha : H a = none) (hd : dx ≠ a) : upd (del (upd (upd (upd H a o1) dx o2) a o3) a) dx u = upd H dx u := by
  funext b
  by_cases h1 : b = dx
  · subst h1; rw [upd_same, upd_same]
  · rw [upd_ne h1, upd_ne h1]
    by_cases h2 : b = a
    · subst h2; rw [del_same, ha]
    · rw [del_ne h2, upd_ne h2, upd_ne h1, upd_ne h2]
theorem del_up2 {H : Hp} {a dx : Addr} {o1 o2 o3 o4 u : HO} (ha : H a = none) (hd : dx ≠ a) : upd (del (upd (upd (upd (upd H a o1) dx o2) a o3) dx o4) a) dx u = upd H dx u := by
  funext b
  by_cases h1 : b = dx
  · subst h1; rw [upd_same, upd_same]
  · rw [upd_ne h1, upd_ne h1]
    by_cases h2 : b = a
    · subst h2; rw [del_same, ha]
    · rw [del_ne h2, upd_ne h1, upd_ne h2, upd_ne h1, upd_ne h2]
def sRaise (c : Nat) (fs : List D → Option (List D)) : SF := fun ρ => (fs ρ).bind fun ds => some (.ex c ds.reverse ρ)
section
variable {X : Cx} {T : Tb} {H0 : HZ} {Γ Γ1 Γn Γm : List Mode} {J : Jm} {e a b o tg iter : Expr} {es : List Expr} {pos po : Pos} {fs : List D → Option (List D)} {x g g1 g2 : Str} {cl : Nat} {W : WX}
theorem passE0 {X : Cx} {E : XK} : Passes L2.CX0 X E := fun _ _ _ _ _ _ _ h => h.elim
theorem ds_raise1 (hc : X.calm = true) (tk : Takes X J.w) (C : OkE X.prog X.w X.K X.mg X.base T cl x [g]) (hr : Room 2 X.A) (hg : Gl X x) (ha : DQ X T H0 Γ (e :: es) fs .A) (hw : wkAll Γ J.x = true) (hn : ∀ ρ ds, fs ρ = some ds → ds.length = 1)
    (hdb : (x == ("__debug__" : Str)) = false := by decide) (he : starEach (e :: es) X.env = (false, eval e X.env) :: starEach es X.env := by rfl) (hpl : (backTo pos (starEach es X.env)).any (·.1) = false := by rfl) {pos2 : Pos} :
    DS X T H0 Γ (.Raise (some (.Call (.Name x po) (e :: es) [] pos)) none pos2) (sRaise cl fs) Γn J := by
  obtain ⟨hf, fI, fd, ps, h1, h2, h3, h4⟩ := C.ex
  refine PS.wk (ps_raise hc tk (pmk_oex C.cl h1 h2 h4 hr h3 .nil passE0 hg C.mgx ha hdb he hpl)) fun E σ H ⟨F, O, ρ, out, R, hfr, hq⟩ => ?_
  unfold sRaise at hfr
  cases h5 : fs ρ with
  | none => rw [h5] at hfr; cases hfr
  | some ds =>
    rw [h5] at hfr
    cases hfr
    refine ⟨F, O, ρ, ds, R, h5, fun F1 H1 vs R1 s1 t1 r1 => ?_⟩
    have hl : ds.length = 1 := hn _ _ h5
    match ds, hl, r1 with
    | [d], _, .cons (v := v) rv .nil =>
      refine ⟨by simp, fun a ha => ?_⟩
      refine ⟨a, _, v, rfl, C.cl, hf, upd_same, fun dx h7 h8 => ⟨rfl, dx, [(g, v)], upd_same, by rw [upd_ne h8, upd_same], ?_, ?_⟩⟩
      · rw [upd_ne h8] at h7; exact h7
      · rw [upd_ne h8] at h7
        rw [del_up1 ha h8]
        obtain ⟨R2, s2, t2⟩ := R1.laid (o := .xd [(g, v)]) h7
        obtain ⟨F3, O3, s3, R3⟩ := wk_of hw _ O σ _ ρ R2
        refine hq F3 O3 σ _ _ _ (s1.trans (s2.trans s3)) R3 ⟨rfl, [(g, v)], .inr ⟨dx, rfl, s3 _ _ upd_same⟩, by rw [C.nm]; rfl, ?_⟩
        exact .cons ((s2.trans s3).rq rv) .nil
theorem ds_raise2 (hc : X.calm = true) (tk : Takes X J.w) (C : OkE X.prog X.w X.K X.mg X.base T cl x [g2, g1]) (hr : Room 2 X.A) (hg : Gl X x) (ha : DQ X T H0 Γ (e :: es) fs .A) (hw : wkAll Γ J.x = true) (hn : ∀ ρ ds, fs ρ = some ds → ds.length = 2)
    (hdb : (x == ("__debug__" : Str)) = false := by decide) (he : starEach (e :: es) X.env = (false, eval e X.env) :: starEach es X.env := by rfl) (hpl : (backTo pos (starEach es X.env)).any (·.1) = false := by rfl) {pos2 : Pos} :
    DS X T H0 Γ (.Raise (some (.Call (.Name x po) (e :: es) [] pos)) none pos2) (sRaise cl fs) Γn J := by
  obtain ⟨⟨hf1, hf2⟩, fI, fd, ps, h1, h2, h3, h4⟩ := C.ex
  refine PS.wk (ps_raise hc tk (pmk_oex C.cl h1 h2 h4 hr h3 .nil passE0 hg C.mgx ha hdb he hpl)) fun E σ H ⟨F, O, ρ, out, R, hfr, hq⟩ => ?_
  unfold sRaise at hfr
  cases h5 : fs ρ with
  | none => rw [h5] at hfr; cases hfr
  | some ds =>
    rw [h5] at hfr
    cases hfr
    refine ⟨F, O, ρ, ds, R, h5, fun F1 H1 vs R1 s1 t1 r1 => ?_⟩
    have hl : ds.length = 2 := hn _ _ h5
    match ds, hl, r1 with
    | [d, d2], _, .cons (v := v) rv (.cons (v := u) ru .nil) =>
      refine ⟨by simp, fun a ha => ?_⟩
      refine ⟨a, _, v, u, rfl, C.cl, hf1, hf2, upd_same, fun dx h7 h8 => ⟨rfl, dx, [(g2, u), (g1, v)], ?_, upd_same, ?_, ?_⟩⟩
      · rw [upd_ne (Ne.symm h8), upd_same]
      · rw [upd_ne h8] at h7; exact h7
      · rw [upd_ne h8] at h7
        rw [del_up2 ha h8]
        obtain ⟨R2, s2, t2⟩ := R1.laid (o := .xd [(g2, u), (g1, v)]) h7
        obtain ⟨F3, O3, s3, R3⟩ := wk_of hw _ O σ _ ρ R2
        refine hq F3 O3 σ _ _ _ (s1.trans (s2.trans s3)) R3 ⟨rfl, [(g2, u), (g1, v)], .inr ⟨dx, rfl, s3 _ _ upd_same⟩, by rw [C.nm]; rfl, ?_⟩
        exact .cons ((s2.trans s3).rq ru) (.cons ((s2.trans s3).rq rv) .nil)
theorem ds_raise0 {m : Str} {j} {p2 pos2 : Pos} (hc : X.calm = true) (tk : Takes X J.w) (C : OkE0 X.K X.mg T cl x) (hg : Gl X x) (hw : wkAll Γ J.x = true) (hdb : (x == ("__debug__" : Str)) = false := by decide) :
    DS X T H0 Γ (.Raise (some (.Call (.Name x po) [.Constant (.str m) j p2] [] pos)) none pos2) (sRaise cl aNil) Γn J := by
  obtain ⟨bm, h1, B, i, h2⟩ := C.ex
  refine PS.wk (ps_raise hc tk (pmk_own h2 h1 C.mgx C.kp (raises_own C.sb C.ty) hg hdb)) fun E σ H ⟨F, O, ρ, out, R, hfr, hq⟩ => ?_
  cases hfr
  obtain ⟨F3, O3, s3, R3⟩ := wk_of hw _ O σ _ ρ R
  exact hq F3 O3 σ _ _ _ s3 R3 ⟨rfl, [], .inl ⟨rfl, rfl⟩, by rw [C.nm]; rfl, .nil⟩
end

/-! ### an instance whose making may raise -/
inductive ResI where
  | ok (fds : List D) | ex (c : Nat) (es : List D)
def spIX (K : PySem.W.Frag) (T : Tb) (c n : Nat) (φ : List D → Option ResI) (q : Q3) : Sp := fun vs H Q E => ∃ x as, vs = .ref x :: as ∧ as.length = n ∧ ∃ dx ds r, H x = some (.ins (T c).1 dx []) ∧ LamX.Tabs T.t H ∧ RUs K T (cut (ntb H) (· = x)) as ds ∧ φ ds = some r ∧
  (∀ fds, r = .ok fds → ∀ F H' dx' fs, Same (cut (ntb H) (· = x)) F → F x = none → Same F H' → (NoT F ∧ LamX.Tabs T.t H') → H' x = some (.ins (T c).1 dx' fs) → fs.map (·.1) = (T c).2 → Rqs K T (cut (ntb H) (· = x)) q F (fs.map (·.2)) fds → Q .non H') ∧
  ∀ ce es, r = .ex ce es → ∀ F H' cls od, Same (cut (ntb H) (· = x)) F → Same F H' → (NoT F ∧ LamX.Tabs T.t H') → ExR K T F cls od ce es → E cls od H'
def initX (c : Nat) (pks : List PKn) (m : Nat) (body : SF) : List D → Option ResI := fun args =>
  if chks pks args = true then (body (.ins c [] :: (args ++ List.replicate m .non))).bind fun (o : Out) => match o with
    | Out.nx ρ => (match ρ[0]? with
      | some (D.ins _ ds) => some (.ok ds)
      | _ => none)
    | Out.ex c es _ => some (.ex c es)
    | _ => none
  else none
structure OkCX (P : Program) (w : World) (K : PySem.W.Frag) (mg : Str → Option Value) (base : Heap) (T : Tb) (k : Nat) (c : Nat) (x : Str) (n : Nat) (φ : List D → Option ResI) (q : Q3) : Prop where
  ex : ∃ fi fd ps, ps.length = n + 1 ∧ Mk K (T c).1 fi ∧ Binds K fd ps [] ∧ FnOk P w K mg base (L2.CX P w) k fi fd ps (spIX K T c n φ q)
  mg : mg x = some (.ref (T c).1)
section
variable {P : Program} {w : World} {K : PySem.W.Frag} {mg : Str → Option Value} {base : Heap} {T : Tb}
theorem fn_initX {x qual : Str} {st : Stmt} {N ps : List Str} {pks : List PKn} {m k c : Nat} {body : SF} {Γn : List Mode} {ms : List FM} {q : Q3} {f : Addr} {fd : FuncData} (F : Fun K x qual st f fd) (S : FnScope N ps (defScope st)) (hN : N.length = pks.length + 1 + m) (hp : ps.length = pks.length + 1)
    (hΓ : Γn[0]? = some (.os (.ins c ms))) (hms : ms.length = (T c).2.length) (hq : ms.all (fmOk q) = true)
    (hb : ∀ (f : Addr) (cdv : Value) (A : Around) (outer : List Env) (s : Shared) (H : Hp) (E : XK) (z : Addr), Room k (bodyXX P w K mg base N qual st f cdv A outer s H E).A → Takes (bodyXX P w K mg base N qual st f cdv A outer s H E) (fun cls od _ H' => E cls od H') →
      PassesOwn (model P w) (bodyXX P w K mg base N qual st f cdv A outer s H E).A (bodyXX P w K mg base N qual st f cdv A outer s H E).env (bodyXX P w K mg base N qual st f cdv A outer s H E).xe →
      DSs (bodyXX P w K mg base N qual st f cdv A outer s H E) T ⟨cut (ntb H) (· = z), z, []⟩ (.os (.ins c []) :: ms0 pks m) (defBody st) body Γn (jx (pks.length + 1 + m) (.q .A) E)) :
    FnOk P w K mg base (L2.CX P w) (k + 1) f fd ps (spIX K T c pks.length (initX c pks m body) q) := by
  refine F.okX S (fun vs H Q E h => ?_) fun cdv A outer s H vs Q E hr h => ?_
  · obtain ⟨z, as, rfl, hl, _⟩ := h
    rw [List.length_cons, hl, hp]
  obtain ⟨z, as, rfl, hl, dx, ds, r, hz, ht, rr, hf, hQ, hX⟩ := h
  refine ⟨_, hb f cdv A outer s H E z hr (takes_of rfl rfl rfl rfl) (passes_of rfl), ?_⟩
  unfold initX at hf
  split at hf
  · rename_i hc
    cases h1 : body (D.ins c [] :: (ds ++ List.replicate m D.non)) with
    | none => rw [h1] at hf; cases hf
    | some o =>
      rw [h1] at hf
      simp only [Option.bind_some] at hf
      have hlen := chks_len hc
      have cs : Same (cut (ntb H) (· = z)) H := fun b o e => by
        unfold cut at e
        split at e
        · cases e
        · exact ntb_le e
      have R0 : Rl K T ⟨cut (ntb H) (· = z), z, []⟩ (.os (.ins c []) :: ms0 pks m) (cut (ntb H) (· = z)) (fun i b => i = 0 ∧ b = z) (L2.start N (.ref z :: as)) H (D.ins c [] :: (ds ++ List.replicate m D.non)) := by
        have nn : NoT (cut (ntb H) (· = z)) := NoT.cut fun b o e => ntb_not e
        refine ⟨.refl _, cs, fun i b hb => ?_, fun i j b h1 h2 => by rw [h1.1, h2.1], ?_, ?_, fun i md hm => ?_, nn, ht⟩
        · obtain ⟨_, rfl⟩ := hb
          exact ⟨cut_in (S := (· = b)) rfl, _, hz, rfl⟩
        · unfold L2.start; simp; omega
        · simp; omega
        · cases i with
          | zero =>
            cases hm
            exact ⟨.ref z, _, rfl, rfl, z, dx, [], [], rfl, rfl, hz, ⟨rfl, rfl⟩, rfl, by simp, trivial⟩
          | succ i =>
            rw [List.getElem?_cons_succ] at hm ⊢
            unfold L2.start
            rw [List.map_cons, List.cons_append, List.getElem?_cons_succ]
            exact slot_start rr hc hm
      refine ⟨_, _, _, o, R0, h1, ?_⟩
      split at hf
      · rename_i ρ
        split at hf
        · rename_i c' ds' hρ
          cases hf
          intro F' O' σ' H' s' R'
          obtain ⟨v, d, g1, g2, a, dx', fs, es, e1, e2, g3, g4, g5, g6, g7⟩ := R'.sl 0 _ hΓ
          rw [hρ] at g2
          cases g2
          cases e2
          have g5 : a = z := g5
          subst g5
          have hes := g7.len
          classical
          have sF : Same F' (fun b => if O' 0 b ∧ b ≠ a then H' b else F' b) := fun b o e => by
            show (if O' 0 b ∧ b ≠ a then H' b else F' b) = some o
            rw [if_neg]
            · exact e
            · rintro ⟨h2, _⟩
              rw [(R'.on 0 b h2).1] at e; cases e
          refine hQ _ rfl (fun b => if O' 0 b ∧ b ≠ a then H' b else F' b) H' dx' fs (R'.h0.trans sF) ?_ (fun b o e => ?_) ⟨fun b o e => ?_, R'.tb⟩ g3 ?_ ?_
          · show (if O' 0 a ∧ a ≠ a then H' a else F' a) = none
            rw [if_neg (fun z => z.2 rfl)]
            exact (R'.on 0 a g4).1
          · have e : (if O' 0 b ∧ b ≠ a then H' b else F' b) = some o := e
            split at e
            · exact e
            · exact R'.fh _ _ e
          · have e : (if O' 0 b ∧ b ≠ a then H' b else F' b) = some o := e
            split at e
            · rename_i hb
              obtain ⟨_, u, z1, z2⟩ := R'.on 0 b hb.1
              rw [z1] at e; cases e
              exact isT_mut z2
            · exact R'.nF _ _ e
          · rw [g6, hes.2, hms, List.take_length]
          · refine fields_frz sF (fun b vs hb hv => ?_) (fun b hb => R'.h0.free (R'.on 0 b hb).1) hq g7
            show (if O' 0 b ∧ b ≠ a then H' b else F' b) = _
            rw [if_pos ⟨hb, fun z => by subst z; rw [g3] at hv; cases hv⟩]
            exact hv
        · cases hf
      · cases hf
        exact fun F' O' σ' H' cls od s R x => hX _ _ rfl F' H' cls od R.h0 R.fh ⟨R.nF, R.tb⟩ x
      · cases hf
  · cases hf
theorem mk_okcx {x qual : Str} {st : Stmt} {N ps : List Str} {pks : List PKn} {m k c : Nat} {body : SF} {Γn : List Mode} {ms : List FM} {q : Q3} (F : FtI K mg T c x qual st ps) (S : FnScope N ps (defScope st)) (hN : N.length = pks.length + 1 + m) (hp : ps.length = pks.length + 1)
    (hΓ : Γn[0]? = some (.os (.ins c ms))) (hms : ms.length = (T c).2.length) (hq : ms.all (fmOk q) = true)
    (hb : ∀ (f : Addr) (cdv : Value) (A : Around) (outer : List Env) (s : Shared) (H : Hp) (E : XK) (z : Addr), Room k (bodyXX P w K mg base N qual st f cdv A outer s H E).A → Takes (bodyXX P w K mg base N qual st f cdv A outer s H E) (fun cls od _ H' => E cls od H') →
      PassesOwn (model P w) (bodyXX P w K mg base N qual st f cdv A outer s H E).A (bodyXX P w K mg base N qual st f cdv A outer s H E).env (bodyXX P w K mg base N qual st f cdv A outer s H E).xe →
      DSs (bodyXX P w K mg base N qual st f cdv A outer s H E) T ⟨cut (ntb H) (· = z), z, []⟩ (.os (.ins c []) :: ms0 pks m) (defBody st) body Γn (jx (pks.length + 1 + m) (.q .A) E)) :
    OkCX P w K mg base T (k + 1) c x pks.length (initX c pks m body) q := by
  obtain ⟨f, fd, h1, h2, h3⟩ := F.ex
  exact ⟨⟨f, fd, ps, hp, h3, h2, fn_initX h1 S hN hp hΓ hms hq hb⟩, F.mg⟩
end
section
variable {X : Cx} {T : Tb} {H0 : HZ} {Γ Γ1 Γn Γm : List Mode} {J : Jm} {e a b o tg iter : Expr} {es : List Expr} {pos po : Pos} {fs : List D → Option (List D)} {x g g1 g2 : Str} {cl : Nat} {W : WX} {p : Q3}
def tMakeX (C : Addr) (sp : Sp) (W : WX) (t : TA) : TE := fun σ H Q => t σ H fun vs H1 => ∀ x dx, H1 x = none → H1 dx = none → dx ≠ x → sp (.ref x :: vs) (upd (upd H1 dx (.own x)) x (.ins C dx [])) (fun v H2 => v = .non ∧ Q (.ref x) H2) (WE W σ)
theorem pe_makeX {C f : Addr} {fd : FuncData} {ps : List Str} {sp : Sp} {k : Nat} {t : TA} (M : Mk X.K C f) (F : FnOk X.prog X.w X.K X.mg X.base (L2.CX X.prog X.w) k f fd ps sp) (hr : Room (k + 1) X.A) (hg : Gl X x) (hm : X.mg x = some (.ref C)) (hb : Binds X.K fd ps []) (tk : Takes X W) (ha : PA X (e :: es) t)
    (hdb : (x == ("__debug__" : Str)) = false := by decide) (he : starEach (e :: es) X.env = (false, eval e X.env) :: starEach es X.env := by rfl) (hpl : (backTo pos (starEach es X.env)).any (·.1) = false := by rfl) :
    PE X (.Call (.Name x po) (e :: es) [] pos) (tMakeX C sp W t) := by
  constructor
  intro pins s σ H Q I hw
  refine wpAny_Call_Name_kw (ld_glob I hg hm (PySem.W.callWith_K (h₀ := X.base) I.ok.mod.kin M.kp (thn (ha.run pos pins s σ H _ I hw) ?_) he hpl) hdb)
  rintro us s1 ⟨vs, H1, I1, r, q⟩
  refine ⟨I1.kIn, ?_⟩
  have nw := Nat.ne_of_lt (Nat.lt_succ_self s1.heap.objs.size)
  have hq := q (s1.heap.objs.size + 1) s1.heap.objs.size (I1.hok.fresh (Nat.le_succ _)) (I1.hok.fresh (Nat.le_refl _)) nw
  have I2 := Inv.made (C := C) I1
  have hl : (Value.ref (s1.heap.objs.size + 1) :: us ++ []).length = ps.length := by
    have e1 := F.len _ _ _ _ hq
    have e2 := Paired.length r
    rw [List.append_nil, List.length_cons, ← e2, ← e1, List.length_cons]
  have bb := hb _ (Value.ref (s1.heap.objs.size + 1) :: us) I2.kIn hl
  rw [List.append_nil] at bb
  refine wpAny_call (make_map (f := f) I1.kIn M.makes M.init (beq_iff_eq.mp M.fn) (codeAny_mono (F.run _ X.stack _ _ _ _ _ _ (WE W σ) (hr.make C us []) (I2.env0.make C us []) bb (.cons (show RelV (V.ref (s1.heap.objs.size + 1)) (Value.ref (s1.heap.objs.size + 1)) from rfl) r) hq) ?_))
  intro rr s' hq'
  cases rr with
  | error er => exact passAt tk σ pins _ _ er s' I2 hq'
  | ok fl =>
    cases fl with
    | ret u =>
      obtain ⟨v, H', I3, rv, ev, q3⟩ := I2.after hq'
      subst ev
      exact ⟨rv, V.ref (s1.heap.objs.size + 1), H', I3, rfl, q3⟩
    | next => cases hq'
    | brk => cases hq'
    | cont => cases hq'
def xMake (c : Nat) (φ : List D → Option ResI) (fs : List D → Option (List D)) : XF := fun ρ => ((fs ρ).bind φ).map fun r => match r with
  | .ok fds => .rt (.ins c fds)
  | .ex ce es => .ex ce es
theorem makeX_sem {K : PySem.W.Frag} {n : Nat} {φ : List D → Option ResI} (hp : p.le .L = true) (hn : ∀ ρ ds, fs ρ = some ds → ds.length = n) :
    ∀ σ H Q, tDX K T H0 Γ (xMake cl φ fs) (.q .L) W σ H Q → tMakeX (T cl).1 (spIX K T cl n φ p) W (tDA K T H0 Γ fs) σ H Q := by
  rintro σ H Q ⟨F, O, ρ, r, R, hf, hq, hX⟩
  unfold xMake at hf
  cases h1 : fs ρ with
  | none => rw [h1] at hf; cases hf
  | some ds =>
    rw [h1] at hf
    simp only [Option.bind_some] at hf
    cases h2 : φ ds with
    | none => rw [h2] at hf; cases hf
    | some rr =>
      rw [h2] at hf
      refine ⟨F, O, ρ, ds, R, h1, fun F1 H1 vs R1 s1 t1 r1 => ?_⟩
      intro x dx hx hdx hne
      have s2' : Same H1 (upd (upd H1 dx (.own x)) x (.ins (T cl).1 dx [])) := fun b o e => by
        have hb : ¬ b = x := ne_of_none e hx
        rw [upd_ne hb, upd_ne (ne_of_none e hdx)]; exact e
      have s2 : Sm H1 (cut (ntb (upd (upd H1 dx (.own x)) x (.ins (T cl).1 dx []))) (· = x)) := ⟨fun b o e n => by
        have hb : ¬ b = x := ne_of_none e hx
        rw [cut_out (S := (· = x)) hb]; exact ntb_some (s2' _ _ e) n⟩
      refine ⟨x, vs, rfl, by rw [r1.length]; exact hn _ _ h1, dx, ds, rr, upd_same, R1.tb.ext s2', s2.rUs r1, h2, fun fds hr F2 H' dx' fs' s3 f3 s4 n4 h4 h5 h6 => ⟨rfl, ?_⟩, fun ce es hr F2 H' cls od s3 s4 n4 h6 => ?_⟩
      · subst hr
        cases hf
        have s5 : Sm H1 F2 := s2.trans s3.sm
        have sF : Same F1 (upd (cut F2 fun b => ∃ i, O i b) x (.ins (T cl).1 dx' fs')) := fun b o e => by
          have hb : b ≠ x := ne_of_none (R1.fh _ _ e) hx
          rw [upd_ne hb, cut_out]
          · exact s5 _ _ (R1.fh _ _ e) (R1.nF _ _ e)
          · rintro ⟨i, hi⟩
            rw [(R1.on i b hi).1] at e; cases e
        have sC : Same (cut F2 fun b => ∃ i, O i b) (upd (cut F2 fun b => ∃ i, O i b) x (.ins (T cl).1 dx' fs')) := fun b o e => by
          unfold cut at e
          split at e
          · cases e
          · rename_i hb
            rw [upd_ne (ne_of_none e f3), cut_out hb]; exact e
        refine hq _ rfl _ H' (.ref x) ((R1.grow (s5.trans s4.sm) n4.2).more sF (fun b o e => ?_) (n4.1.cut.upd rfl) (fun i b hi => ?_)) (s1.trans sF) (t1.trans (s5.trans s4.sm)) ?_
        · by_cases hb : b = x
          · subst hb; rw [upd_same] at e; cases e; exact h4
          · rw [upd_ne hb] at e
            unfold cut at e
            split at e
            · cases e
            · exact s4 _ _ e
        · obtain ⟨_, o, k1, _⟩ := R1.on i b hi
          rw [upd_ne (ne_of_none k1 hx)]
          exact cut_in ⟨i, hi⟩
        · refine RepG.ins upd_same (show H0.h x = none from (R1.h0.trans R1.fh).free hx) h5 ?_
          refine (RepsG.cut (S := fun b => ∃ i, O i b) (fun a ha => ?_) (fun a o e hm => ?_) h6).mono sC fun a ha => ?_
          · rintro ⟨i, hi⟩
            obtain ⟨_, o, k1, k2⟩ := R1.on i a hi
            cases p with
            | A => exact ha
            | L =>
              have ha : cut (ntb (upd (upd H1 dx (.own x)) x (.ins (T cl).1 dx []))) (· = x) a = none := ha
              rw [s2 _ _ k1 (isT_mut k2)] at ha; cases ha
            | U => cases hp
          · rintro ⟨i, hi⟩
            obtain ⟨_, u, k1, k2⟩ := R1.on i a hi
            rw [s5 _ _ k1 (isT_mut k2)] at e; cases e
            rw [hm] at k2; cases k2
          · cases p with
            | A => exact ha.elim
            | L => exact (Sm.ofF (fun b o e => R1.nF _ _ (R1.h0 _ _ e)) (R1.h0.trans R1.fh) s2).free ha
            | U => cases hp
      · subst hr
        cases hf
        have s5 : Sm H1 F2 := s2.trans s3.sm
        have sF : Same F1 (cut F2 fun b => ∃ i, O i b) := fun b o e => by
          rw [cut_out]
          · exact s5 _ _ (R1.fh _ _ e) (R1.nF _ _ e)
          · rintro ⟨i, hi⟩
            rw [(R1.on i b hi).1] at e; cases e
        refine hX _ _ rfl _ H' cls od ((R1.grow (s5.trans s4.sm) n4.2).more sF (fun b o e => ?_) n4.1.cut (fun i b hi => cut_in ⟨i, hi⟩)) (s1.trans sF) (h6.cut fun a o e hm => ?_)
        · unfold cut at e
          split at e
          · cases e
          · exact s4 _ _ e
        · rintro ⟨i, hi⟩
          obtain ⟨_, u, k1, k2⟩ := R1.on i a hi
          rw [s5 _ _ k1 (isT_mut k2)] at e; cases e
          rw [hm] at k2; cases k2
theorem dx_make {i k : Nat} {n : Nat} {φ : List D → Option ResI} (h : OkCX X.prog X.w X.K X.mg X.base T i cl x n φ p) (tk : Takes X W) (hr : Room k X.A) (hg : Gl X x) (ha : DA X T H0 Γ (e :: es) fs) (hn : ∀ ρ ds, fs ρ = some ds → ds.length = n) (hp : p.le .L = true := by rfl) (hj : i + 1 ≤ k := by decide)
    (hdb : (x == ("__debug__" : Str)) = false := by decide) (he : starEach (e :: es) X.env = (false, eval e X.env) :: starEach es X.env := by rfl) (hpl : (backTo pos (starEach es X.env)).any (·.1) = false := by rfl) :
    DX X T H0 Γ (.Call (.Name x po) (e :: es) [] pos) (xMake cl φ fs) (.q .L) W := by
  obtain ⟨f, fd, ps, h1, h2, h3, h4⟩ := h.ex
  exact PE.wk (pe_makeX h2 h4 (hr.mono hj) hg h.mg h3 tk ha hdb he hpl) (makeX_sem hp hn)
end
end DL

namespace DL
open PySem PySem.Spec PyProof.Rows L2

/-! ### try -/
section
variable {X : Cx} {pins : List (Addr × Obj)} {σ : L2.St} {H : Hp} {s : Shared}
theorem exc_ok {P : Program} {w : World} {h : Heap} {a C : Addr} {od : Option Addr} {oe : Obj} {vs : Array Value} (ha : h.get? a = some oe) (hz : Zc (.ref C) od oe) (hd : oe.data = .fields vs) : ObjOk P w H h a (ExC a C od) :=
  ⟨⟨oe, vs, ha, hz.1, hz.2, hd⟩, ⟨oe, ha⟩, fun _ _ ⟨o, v, q, r⟩ k => ⟨o, v, k o q, r⟩⟩
/-- a caught exception is known from now on -/
theorem inv_track {a C : Addr} {od : Option Addr} {oe : Obj} {vs : Array Value} (I : Inv X pins σ H s) (ha : s.heap.get? a = some oe) (hz : Zc (.ref C) od oe) (hd : oe.data = .fields vs) (na : H a = none) (n0 : X.s_0.heap.get? a = none) (nL : a ≠ X.env.locals)
    (np : ∀ p ∈ X.pn ++ pins, p.1 ≠ a) : Inv X pins σ (upd H a (ExC a C od)) s := by
  have ne : ∀ {b : Addr} {o : HO}, H b = some o → b ≠ a := fun {b o} e => ne_of_none e na
  have nc : ∀ x c, X.env.cells.lookup x = some c → c ≠ a := fun x c e z => by
    obtain ⟨v, o, h1, h2⟩ := I.cell x c e
    rw [z, ha] at h1; cases h1
    rw [hd] at h2; cases h2
  refine ⟨I.ok, I.os, I.bare, ⟨I.base.keep, I.base.slot, fun b o e n hx => ?_, I.base.there, fun b xs e => ?_, fun b o u e => ?_, fun b ps e => ?_⟩, I.loc, I.cell, ?_, fun x c e => ?_, fun p hp => ?_, fun b u e => ?_, I.len⟩
  · rw [upd_ne (fun z => by rw [z, n0] at e; cases e)]; exact I.base.free b o e n hx
  · have q := I.base.tups b xs e
    rw [upd_ne (ne q)]; exact q
  · have q := I.base.frzs b o u e
    rw [upd_ne (ne q)]; exact q
  · obtain ⟨m, q⟩ := I.base.tbls b ps e
    exact ⟨m, by rw [upd_ne (ne q)]; exact q⟩
  · rw [upd_ne (Ne.symm nL)]; exact I.free
  · rw [upd_ne (nc x c e)]; exact I.freeC x c e
  · obtain ⟨h1, h2, h3⟩ := I.pin p hp
    exact ⟨h1, by rw [upd_ne (np p hp)]; exact h2, h3⟩
  · by_cases hb : b = a
    · subst hb
      rw [upd_same] at e
      cases e
      exact exc_ok ha hz hd
    · rw [upd_ne hb] at e
      exact (I.hok b u e).stay (fun c v hc q => q) (fun c q => by rw [upd_ne (ne q)]; exact q) fun c xs q => by rw [upd_ne (ne q)]; exact q
theorem inv_sut {a : Addr} (I : Inv X pins σ H s) : Inv (X.suite a (X.pn ++ pins)) [] σ H s :=
  ⟨I.ok.suite _ _, I.os, I.bare, I.base, I.loc, I.cell, I.free, I.freeC, fun p hp => I.pin p (by rw [List.append_nil] at hp; exact hp), I.hok, I.len⟩
theorem sut_inv {a : Addr} {q : List (Addr × Obj)} (I : Inv (X.suite a (X.pn ++ pins)) q σ H s) (ok : X.Ok) : Inv X pins σ H s :=
  ⟨ok, I.os, I.bare, I.base, I.loc, I.cell, I.free, I.freeC, fun p hp => I.pin p (List.mem_append_left _ hp), I.hok, I.len⟩
end
/-- a clause: the classes that it takes, that it does not take; its name's slot; its suite -/
abbrev Clause := List Nat × List Nat × Nat × SF
def suiteOut (i : Nat) : Out → Option Out
  | .nx ρ => some (.nx (ρ.set i .non))
  | .rt d => some (.rt d)
  | _ => none
def tryGo : List Clause → Nat → List D → SF
  | [], _, _, _ => none
  | (yes, no, i, g) :: cs, c, es, ρ => if c ∈ yes then (g (ρ.set i (.exn c es))).bind (suiteOut i) else if c ∈ no then tryGo cs c es ρ else none
def sTry (f : SF) (cs : List Clause) : SF := fun ρ => (f ρ).bind fun o => match o with
  | .ex c es ρ' => tryGo cs c es ρ'
  | o => some o
section
variable {X : Cx} {T : Tb} {H0 : HZ} {Γ Γ1 Γn Γx : List Mode} {J : Jm} {e a b o tg iter : Expr} {es : List Expr} {pos po : Pos} {f g : SF} {fe fa fb : EF} {k ka kb : Knd} {q p : Q3}
/-- the except clauses, as texts, do cs -/
inductive HOk (X : Cx) (T : Tb) (H0 : HZ) (Γx Γn : List Mode) (J : Jm) : List ExceptHandler → List Clause → Prop
  | nil : HOk X T H0 Γx Γn J [] []
  | cons {x n : Str} {cv : Value} {yes no : List Nat} {i : Nat} {g : SF} {Γg : List Mode} {b₀ : Stmt} {suite : List Stmt} {np pos' : Pos} {hs : List ExceptHandler} {cs : List Clause} :
    Names X x cv → (∀ c ∈ yes, PySem.W.exmOne X.K (.ref (T c).1) cv = some true) → (∀ c ∈ no, PySem.W.exmOne X.K (.ref (T c).1) cv = some false) →
    X.N[i]? = some n → X.env.kindOf n = some .local → i < Γx.length → (∀ a pn, DSs (X.suite a pn) T H0 (Γx.set i (.fz .A)) (b₀ :: suite) g Γg ⟨[], [], J.r, [], fun _ _ _ _ => False⟩) → wkAll (Γg.set i .no) Γn = true →
    HOk X T H0 Γx Γn J hs cs → HOk X T H0 Γx Γn J (.ExceptHandler (some (.Name x np)) (some n) (b₀ :: suite) pos' :: hs) ((yes, no, i, g) :: cs)
theorem Rl.drop {K : PySem.W.Frag} {F H : Hp} {O : Own} {σ : L2.St} {ρ : List D} (R : Rl K T H0 Γ F O σ H ρ) (i : Nat) : Rl K T H0 (Γ.set i .no) F O (σ.set i none) H (ρ.set i .non) := by
  refine ⟨R.h0, R.fh, R.on, R.od, by simp [R.ls], by simp [R.lr], fun j mj hj => ?_, R.nF, R.tb⟩
  by_cases hji : j = i
  · subst hji
    by_cases hl : j < Γ.length
    · rw [List.getElem?_set_self hl] at hj
      cases hj
      trivial
    · rw [List.getElem?_eq_none (by simpa using hl)] at hj; cases hj
  · rw [List.getElem?_set_ne (Ne.symm hji)] at hj
    rw [List.getElem?_set_ne (Ne.symm hji), List.getElem?_set_ne (Ne.symm hji)]
    exact R.sl j mj hj
/-- the clauses, one behind another -/
theorem handle_ok (hs : X.stack = X.env :: X.outer) (hf : X.env.frame = some X.env.locals) (hN : X.N.Nodup) {En : Ends} {pins : List (Addr × Obj)} {σ : L2.St} {H : Hp} {sI : Shared} {B : Heap} {a : Addr} {od : Option Addr} {c : Nat} {ds : List D} {F : Hp} {O : Own} {ρ : List D}
    (J0 : Inv X pins σ H sI) (nb : ∀ b o, sI.heap.get? b = some o → b ∉ frs X.stack → B.get? b = some o) (nB : B.get? a = none) (hex : X.ex = []) (na : H a = none) (R : Rl X.K T H0 Γx F O σ H ρ) (xr : ExR X.K T F (.ref (T c).1) od c ds) :
    ∀ {hl : List ExceptHandler} {cs : List Clause}, HOk X T H0 Γx Γn J hl cs → ∀ {s' : Shared} {out : Out}, sI.heap.UpToSlots s'.heap → HandSPX.FlyingZ B (X.env :: X.outer) a (Zc (.ref (T c).1) od) s'.heap → s'.os = sI.os → AllBare s'.gens →
      tryGo cs c ds ρ = some out → Fin X.K T H0 F Γn J En out → wpAny (model X.prog X.w) X.A (handleBy (.ref a) X.env hl) (SP X pins En) X.xe s' := by
  intro hl cs hk
  have ok := J0.ok
  have hfr : X.A.frames = some (X.env :: X.outer) := by rw [ok.frames, hs]
  induction hk with
  | nil => intro s' out _ _ _ _ hg _; cases hg
  | @cons x n cv yes no i g Γg b₀ suite np pos' hl cs hc hyes hno hi hln hil hsu hwk _ ih =>
    intro s' out up fl os ag hg hq
    have Jh : Inv X pins σ H s' := J0.landed nb fl.1 up os ag
    obtain ⟨oe, vs, he, hz, hd⟩ := fl.there
    have nfr : ∀ {h : Heap} {o : Obj} {vs : Array Value}, h.FunFrames B (X.env :: X.outer) → h.get? a = some o → o.data = .fields vs → a ∉ frs (X.env :: X.outer) := fun {h o vs} ff e dd hm => by
      obtain ⟨_, o', e', hnf⟩ := ff.mem hm
      rw [e] at e'; cases e'
      exact hnf _ dd
    have nf := nfr fl.2.2.1 he hd
    have nL : a ≠ X.env.locals := fun z => nf (List.mem_filterMap.mpr ⟨X.env, List.mem_cons_self, by rw [hf, z]⟩)
    have nF : a ∉ X.fs := fun hm => by
      obtain ⟨e, h1, h2⟩ := List.mem_filterMap.mp hm
      exact nf (List.mem_filterMap.mpr ⟨e, List.mem_cons_of_mem _ h1, h2⟩)
    have n0 : X.s_0.heap.get? a = none := by
      cases e : X.s_0.heap.get? a with
      | none => rfl
      | some o =>
        obtain ⟨o', e2⟩ := J0.base.there a o e (by rw [hex]; exact fun z => nomatch z)
        have e3 := nb a o' e2 (by rw [hs]; exact nf)
        rw [nB] at e3; cases e3
    have npn : ∀ p ∈ X.pn ++ pins, p.1 ≠ a := fun p hp z => by
      obtain ⟨h1, h2, h3, h4, _⟩ := J0.pin p hp
      rw [z] at h1
      have e3 := nb a _ h1 (by rw [hs]; exact nf)
      rw [nB] at e3; cases e3
    have S3 := Jh.suite he hd na nL nF
    refine wpAny_handleBy_cons (codeAny_handlers_test ?_) (by intro q; cases q)
    have LT : PySem.W.Looks (model X.prog X.w) s'.heap (typeOf (.ref a)) (.ref (T c).1) := fun A Q E s k q => wpAny_typeOf_ref (k _ _ he) (by rw [hz.1]; exact q)
    have test : ∀ {Q : Value → Shared → Prop} {E : Value → Shared → Prop}, Q cv s' → wpAny (model X.prog X.w) (X.A.mark (some (.ref a))) (eval (.Name x np) X.env) Q E s' := fun {Q E} q => by
      obtain ⟨hg, hdbg, hm | ⟨hm, hv, hnn⟩⟩ := hc
      · exact ld_glob (X := X.suite a ((a, oe) :: (X.pn ++ pins))) S3 hg hm q hdbg
      · exact ld_blt (X := X.suite a ((a, oe) :: (X.pn ++ pins))) S3 hg hm hv q hnn hdbg
    unfold tryGo at hg
    split at hg
    · rename_i hin
      refine test ((PySem.W.exm_one (M := model X.prog X.w) Jh.kIn LT (hyes c hin)).here ?_)
      refine codeAny_handlers_suite_as (HandSPX.lands_againZ fl fun h4 fl4 up4 => ?_)
      have J4 : Inv X pins σ H { s' with heap := h4 } := J0.landed nb fl4.1 (up.trans up4) os ag
      obtain ⟨oe4, vs4, he4, hz4, hd4⟩ := fl4.there
      have S4 := inv_sut (a := a) (inv_track J4 he4 hz4 hd4 na n0 nL npn)
      have hin2 : i < Γx.length := hil
      cases h5 : g (ρ.set i (.exn c ds)) with
      | none => rw [h5] at hg; cases hg
      | some o5 =>
        rw [h5] at hg
        simp only [Option.bind_some] at hg
        refine store_ok (X := X.suite a (X.pn ++ pins)) (v := .ref a) S4 hN hi (.inl hln) rfl (fun s5 S5 => ?_) (.inr hln)
        have fz : F a = none := R.fh.free na
        obtain ⟨R2, s2, t2⟩ := R.laid (o := ExC a (T c).1 od) na
        have rx : RepG X.K T (NK H0 .A) (upd F a (ExC a (T c).1 od)) (.ref a) (.exn c ds) := by
          obtain ⟨_, fs, x1, x2, x3⟩ := xr
          exact .exn upd_same (x1.monoS s2.sm) x2 (x3.mono s2 fun _ h => h)
        have R3 := R2.setq (q := .A) hin2 rx
        let En' : Ends := { nx := fun σ' H' => En.nx (σ'.set i none) H', rt := En.rt, bk := fun _ _ => False, ct := fun _ _ => False }
        have end_ : ∀ {σ6 : L2.St} {H6 : Hp} {s6 : Shared} {Q : Shared → Prop}, Inv (X.suite a (X.pn ++ pins)) [] σ6 H6 s6 → (∀ s7, Inv X pins (σ6.set i none) H6 s7 → Q s7) →
            wpAny (model X.prog X.w) X.A (do bindName X.env n .none; unbindBehindTheSuite X.env n pos') (fun _ s7 => Q s7) X.xe s6 := fun {σ6 H6 s6 Q} S6 hq => gone_ok (sut_inv S6 ok) hN hi hln hq
        refine wpAny_mono ((hsu a (X.pn ++ pins)).run [] s5 _ _ En' S5 ⟨_, O, _, o5, R3, h5, ?_⟩) (fun fl s6 hsp => ?_) (fun _ _ z => False.elim z)
        · cases o5 with
          | nx ρ5 =>
            cases hg
            intro F6 O6 σ6 H6 s6 R6
            obtain ⟨F7, O7, s7, R7⟩ := wk_of hwk _ _ _ _ _ (R6.drop i)
            exact hq F7 O7 _ H6 ((s2.trans s6).trans s7) R7
          | rt d => cases hg; exact fun H' v r => hq H' v r
          | bk ρ5 => cases hg
          | ct ρ5 => cases hg
          | ex c5 e5 ρ5 => cases hg
        · cases fl with
          | next =>
            obtain ⟨σ6, H6, S6, q6⟩ := hsp
            exact end_ S6 fun s7 J7 => ⟨_, _, J7, q6⟩
          | brk =>
            obtain ⟨σ6, H6, S6, q6⟩ := hsp
            exact q6.elim
          | cont =>
            obtain ⟨σ6, H6, S6, q6⟩ := hsp
            exact q6.elim
          | ret u =>
            obtain ⟨v6, σ6, H6, S6, r6, q6⟩ := hsp
            exact end_ S6 fun s7 J7 => ⟨_, _, _, J7, r6, q6⟩
    · split at hg
      · rename_i hin
        refine test ((PySem.W.exm_one (M := model X.prog X.w) Jh.kIn LT (hno c hin)).here ?_)
        exact ih up fl os ag hg hq
      · cases hg
theorem ds_try {body : List Stmt} {hl : List ExceptHandler} {cs : List Clause} (hs : X.stack = X.env :: X.outer) (hf : X.env.frame = some X.env.locals) (hN : X.N.Nodup) (hex : X.ex = [])
    (hb : ∀ (W : WX) (pn : List (Addr × Obj)) (xe : Value → Shared → Prop), Takes (X.tr pn xe) W → PassesOwn (model X.prog X.w) X.A X.env xe → DSs (X.tr pn xe) T H0 Γ body f Γn ⟨J.b, J.c, J.r, Γx, W⟩)
    (hh : HOk X T H0 Γx Γn J hl cs) (hne : hl ≠ []) : DS X T H0 Γ (.Try body hl [] [] pos) (sTry f cs) Γn J := by
  refine ⟨fun pins s σ H D I ⟨F, O, ρ, out, R, hf2, hq⟩ => ?_⟩
  have ok := I.ok
  have hfr : X.A.frames = some (X.env :: X.outer) := by rw [ok.frames, hs]
  unfold sTry at hf2
  cases h1 : f ρ with
  | none => rw [h1] at hf2; cases hf2
  | some o1 =>
    rw [h1] at hf2
    simp only [Option.bind_some] at hf2
    obtain ⟨h0, hr, rfl⟩ : ∃ h0 hr, hl = h0 :: hr := by cases hl with
      | nil => exact absurd rfl hne
      | cons h0 hr => exact ⟨h0, hr, rfl⟩
    refine wpAny_Try_except ?_
    let W : WX := fun cls od σ H => ∃ F O ρ c ds out, Rl X.K T H0 Γx F O σ H ρ ∧ ExR X.K T F cls od c ds ∧ tryGo cs c ds ρ = some out ∧ Fin X.K T H0 F Γn J D out
    refine wpAny_mono ((hb W (X.pn ++ pins) (fun e s₁ => wpAny (model X.prog X.w) X.A (noteFrame e X.env) (fun _ s₂ => wpAny (model X.prog X.w) X.A (setFlight e none) (fun _ s₃ =>
      wpAny (model X.prog X.w) X.A (handleBy e X.env (h0 :: hr)) (SP X pins D) X.xe s₃) X.xe s₂) X.xe s₁) ?_ PassesOwn.looking).run [] s σ H D (I.toTry _) ⟨F, O, ρ, o1, R, h1, ?_⟩) (fun fl s1 hsp => ?_) (fun _ _ he => he)
    · rintro u s' ⟨a, B, sI, pins', σ', H', cls, od, rfl, J', nb, up, sky, na, os, ag, F5, O5, ρ5, c, ds, out5, R5, x5, g5, q5⟩
      have J0 : Inv X pins σ' H' sI := J'.ofTry ok
      have sky' : Sky B (X.env :: X.outer) a (Zc cls od) X.env.locals s'.heap := by rw [← hs]; exact sky
      have nB : B.get? a = none := by
        rcases sky' with h | h | h
        · exact h.2.1
        · exact h.2.1
        · exact h.2.1
      obtain rfl := x5.1
      show wpAny (model X.prog X.w) X.A (noteFrame (.ref a) X.env) _ _ _
      refine Sky.land Zc.steady hfr hf sky' fun h3 fl3 up3 => ?_
      exact handle_ok hs hf hN J0 nb nB hex na R5 x5 hh (up.trans up3) fl3 os ag g5 q5
    · cases o1 with
      | nx ρ' => cases hf2; exact hq
      | bk ρ' => cases hf2; exact hq
      | ct ρ' => cases hf2; exact hq
      | rt d => cases hf2; exact hq
      | ex c ds ρ' => exact fun F' O' σ' H' cls od s2 R2 x2 => ⟨F', O', ρ', c, ds, out, R2, x2, hf2, hq.from s2⟩
    · cases fl with
      | next =>
        obtain ⟨σ', H', J', q⟩ := hsp
        exact wpAny_execs_nil ⟨σ', H', J'.ofTry ok, q⟩
      | brk =>
        obtain ⟨σ', H', J', q⟩ := hsp
        exact ⟨σ', H', J'.ofTry ok, q⟩
      | cont =>
        obtain ⟨σ', H', J', q⟩ := hsp
        exact ⟨σ', H', J'.ofTry ok, q⟩
      | ret u =>
        obtain ⟨v, σ', H', J', r, q⟩ := hsp
        exact ⟨v, σ', H', J'.ofTry ok, r, q⟩

/-! ### a caught exception: its class, its values -/
/-- its kind, for isinstance -/
structure IsiE (K : PySem.W.Frag) (C : Addr) : Prop where
  e : L2.ExcC K C
structure IsiI (K : PySem.W.Frag) (C : Addr) : Prop where
  cl : Cls K C
  ha : PySem.W.findIn K (.ref C) "__class__" = some (some (.builtin "object.__class__"))
  hn : PySem.W.specialIn K (.builtin "object.__class__") "__get__" = some (some (.builtin "getset_descriptor.__get__"))
  htk : PySem.W.takesIn K (.builtin "object.__class__") = some true
  hm : PySem.W.mroIn K C (.type "object") = some true
theorem exc_inst {X : Cx} {pins : List (Addr × Obj)} {σ : L2.St} {H : Hp} {s : Shared} {a C : Addr} {od : Option Addr} {fs : List (Str × V)} (I : Inv X pins σ H s) (h : H a = some (ExC a C od)) (x : XdAt H od fs) :
    ∃ oe ob, PySem.W.InstAt s.heap a oe C ob ∧ (∀ f v, fs.lookup f = some v → ∃ o u, ob = some o ∧ PySem.W.lookIn f o = some (some u) ∧ RelV v u) := by
  obtain ⟨⟨oe, vs, h1, h2, h3, h4⟩, _, _⟩ := I.hok a _ h
  have hn : PySem.W.notCls oe = true := by unfold PySem.W.notCls; rw [h4]
  rcases x with ⟨rfl, rfl⟩ | ⟨dx, rfl, hx⟩
  · exact ⟨oe, none, ⟨h1, h2, hn, by rw [h3]; trivial⟩, fun f v e => by cases e⟩
  · have hx : ObjOk X.prog X.w H s.heap dx (.xd fs) := I.hok dx _ hx
    obtain ⟨mA, hns, hr⟩ := hx
    obtain ⟨od, ho, hl⟩ := lookIn_ns hns
    refine ⟨oe, some od, ⟨h1, h2, hn, by rw [h3]; exact ho⟩, fun f v e => ?_⟩
    obtain ⟨u, hu, ru⟩ := RelO.some_of (v := v) (o := mA f) (by rw [← e]; exact hr f)
    exact ⟨od, u, rfl, by rw [hl, hu], ru⟩
/-- isinstance(x, c) for exceptions -/
def rIsX (K : PySem.W.Frag) : List V → Hp → VK → Prop := fun xs H Q => ∃ (a C : Addr) (od : Option Addr) (fs : List (Str × V)) (c : V) (cv : Value) (b : Bool), xs = [.ref a, c] ∧ H a = some (ExC a C od) ∧ XdAt H od fs ∧ L2.ExcC K C ∧ ClsV c cv ∧ PySem.W.kitOne K (.ref C) cv = some b ∧ Q (.bl b) H
theorem call_isX {X : Cx} : CallR X (.builtin "isinstance") (rIsX X.K) := by
  intro pins s σ H xs us Q I r h
  obtain ⟨a, C, od, fs, c, cv, b, rfl, ha, hx, T, hcv, e, q⟩ := h
  obtain ⟨u1, u2, rfl, r1, r2⟩ := vals2 r
  have e2 := hcv.eq r2
  subst e2
  cases (show u1 = Value.ref a from r1)
  obtain ⟨oe, ob, J, _⟩ := exc_inst I ha hx
  obtain ⟨cd, hcd, _⟩ := PySem.W.any_some T.hd
  exact PySem.W.kia_one (PySem.W.kitx_exc (gt := none) (by rw [hcd]; rfl) T.hg T.hk T.hs T.ha T.hn T.ht T.hm) I.kIn J e (fun z => nomatch z) fun tk => ⟨.bl b, H, I.tok tk, rfl, q⟩
/-- isinstance(x, c) of either kind -/
def rIsA (K : PySem.W.Frag) : List V → Hp → VK → Prop := fun xs H Q => rIsi K xs H Q ∨ rIsX K xs H Q
theorem call_isA {X : Cx} : CallR X (.builtin "isinstance") (rIsA X.K) := by
  intro pins s σ H xs us Q I r h
  rcases h with h | h
  · exact call_isi pins s σ H xs us Q I r h
  · exact call_isX pins s σ H xs us Q I r h
def gIsC (ti te : List (Nat × Bool)) (nn : Option Bool) : D → Option D
  | .ins c _ => (ti.lookup c).map .bl
  | .exn c _ => (te.lookup c).map .bl
  | .non => nn.map .bl
  | _ => none
theorem lookup_mem : ∀ {l : List (Nat × Bool)} {c : Nat} {b : Bool}, l.lookup c = some b → (c, b) ∈ l
  | (c', b') :: l, c, b, h => by
    rw [List.lookup] at h
    split at h
    · rename_i e
      have e : c = c' := by simpa using e
      cases h; subst e; exact .head _
    · exact .tail _ (lookup_mem h)
theorem de_isC {cc : V} {cv : Value} {ti te : List (Nat × Bool)} {nn : Option Bool} (hg : Gl X "isinstance") (hm : X.mg "isinstance" = none) (hcv : ClsV cc cv) (hti : ∀ p ∈ ti, IsiI X.K (T p.1).1 ∧ PySem.W.kitOne X.K (.ref (T p.1).1) cv = some p.2) (hte : ∀ p ∈ te, L2.ExcC X.K (T p.1).1 ∧ PySem.W.kitOne X.K (.ref (T p.1).1) cv = some p.2)
    (hnn : ∀ b, nn = some b → PySem.W.kitOne X.K (.type "NoneType") cv = some b) (ha : DE X T H0 Γ a fa ka) (hb : PE X b (tC cc))
    (hs : starEach [a, b] X.env = (false, eval a X.env) :: starEach [b] X.env := by rfl) (hs2 : starEach [b] X.env = (false, eval b X.env) :: starEach [] X.env := by rfl) (hpl : (backTo pos (starEach [b] X.env)).any (·.1) = false := by rfl) : DE X T H0 Γ (.Call (.Name "isinstance" po) [a, b] [] pos) (e1 (gIsC ti te nn) fa) (.q q) :=
  PE.wk (pe_callB call_isA hg hm (by decide +kernel) (pa_cons ha (pa_cons hb pa_nil hs2) hs) (he := hs) (hpl := hpl)) (by
    rintro σ H Q ⟨F, O, ρ, d, R, hf, hq⟩
    unfold e1 at hf
    cases h1 : fa ρ with
    | none => rw [h1] at hf; cases hf
    | some x =>
      rw [h1] at hf
      simp only [Option.bind_some] at hf
      refine ⟨F, O, ρ, x, R, h1, fun F1 H1 v R1 s1 t1 r1 => ?_⟩
      have rv := R1.toB r1
      have hq1 : ∀ w, Rp X.K T H0 F1 H1 O (.q q) w d → Q w H1 := fun w hw => hq F1 H1 w R1 s1 t1 hw
      cases rv with
      | non =>
        cases hb : nn with
        | none => rw [hb] at hf; cases hf
        | some b => rw [hb] at hf; cases hf; exact .inl ⟨_, _, _, _, b, rfl, hcv, .base .non, hnn b hb, hq1 _ (RepG.bl b)⟩
      | @ins a dx c fs ds h2 h3 h4 h5 =>
        have hf : (ti.lookup c).map D.bl = some d := hf
        cases hb : ti.lookup c with
        | none => rw [hb] at hf; cases hf
        | some b =>
          rw [hb] at hf; cases hf
          obtain ⟨Z, z⟩ := hti _ (lookup_mem hb)
          exact .inl ⟨_, _, _, _, b, rfl, hcv, .base (.ins h2 Z.cl Z.ha Z.hn Z.htk Z.hm), z, hq1 _ (RepG.bl b)⟩
      | @exn a c od fs ds h2 h3 h4 h5 =>
        have hf : (te.lookup c).map D.bl = some d := hf
        cases hb : te.lookup c with
        | none => rw [hb] at hf; cases hf
        | some b =>
          rw [hb] at hf; cases hf
          obtain ⟨Z, z⟩ := hte _ (lookup_mem hb)
          exact .inr ⟨_, _, _, _, _, _, b, rfl, h2, h3, Z, hcv, z, hq1 _ (RepG.bl b)⟩
      | bl _ => cases hf
      | int _ => cases hf
      | str _ => cases hf
      | tup _ _ => cases hf
      | lst _ _ _ => cases hf
      | scr _ _ => cases hf
      | dic _ _ _ => cases hf
      | dit _ _ _ => cases hf)
/-- e.f -/
def eFldE (c j : Nat) (fo : EF) : EF := fun ρ => (fo ρ).bind fun d => match d with
  | .exn c' ds => if c' = c then ds[j]? else none
  | _ => none
/-- e.f, as the machine does it -/
def tXfE (K : PySem.W.Frag) (C : Addr) (f : Str) (te : TE) : TE := fun σ H Q => te σ H fun x H1 => ∃ a od fs v, x = .ref a ∧ H1 a = some (ExC a C od) ∧ XdAt H1 od fs ∧ fs.lookup f = some v ∧ Q v H1
theorem pe_xfE {C : Addr} {e : Expr} {te : TE} {n : Str} (Z : XfC X.K C) (hno : PySem.W.findIn X.K (.ref C) n = some none) (he : PE X e te) (hb : attributeBase e n X.env (eval e X.env) = eval e X.env := by rfl) : PE X (.Attribute e n pos) (tXfE X.K C n te) := by
  constructor
  intro pins s σ H Q I h
  refine attr_of hb (thn (he.run pins s σ H _ I h) ?_)
  rintro u s1 ⟨x, H1, I1, rx, a, od, fs, v, rfl, ha, hx, l, q⟩
  obtain rfl : u = Value.ref a := rx
  obtain ⟨oe, ob, J, hv⟩ := exc_inst I1 ha hx
  obtain ⟨o, u, rfl, lk, ru⟩ := hv _ _ l
  exact HandSPX.exc_get I1.kIn J Z.ga Z.gg Z.exC (PySem.W.findObj_own Z.hdC hno rfl lk) (handed_of ru) ⟨v, H1, I1.tok _, ru, q⟩
theorem de_fldE {cl j : Nat} {x : Str} (Z : XfC X.K (T cl).1) (hno : PySem.W.findIn X.K (.ref (T cl).1) x = some none) (hnm : (T cl).2[j]? = some x) (hnd : (T cl).2.Nodup) (ha : DE X T H0 Γ a fa (.q q)) (hb : attributeBase a x X.env (eval a X.env) = eval a X.env := by rfl) : DE X T H0 Γ (.Attribute a x pos) (eFldE cl j fa) (.q q) :=
  PE.wk (pe_xfE Z hno ha hb) fun σ H Q ⟨F, O, ρ, d, R, hf, hq⟩ => by
    unfold eFldE at hf
    cases h1 : fa ρ with
    | none => rw [h1] at hf; cases hf
    | some y =>
      rw [h1] at hf
      simp only [Option.bind_some] at hf
      split at hf
      · split at hf
        · rename_i hc
          subst hc
          refine ⟨F, O, ρ, _, R, h1, fun F1 H1 v R1 s1 t1 r1 => ?_⟩
          cases r1 with
          | @exn a c od fs ds h2 h3 h4 h5 =>
            obtain ⟨w, h6, h7⟩ := h5.get hf
            exact ⟨a, od, fs, w, rfl, R1.fh _ _ h2, h3.monoS R1.fh.sm, by rw [lookup_names h4 hnd hnm]; exact h6, hq F1 H1 w R1 s1 t1 h7⟩
        · cases hf
      · cases hf
/-- x is None -/
def isN : D → Bool
  | .non => true
  | _ => false
def gIs0 (x y : D) : Option D := match y with
  | .non => some (.bl (isN x))
  | _ => none
def gNot0 (x y : D) : Option D := match y with
  | .non => some (.bl (!isN x))
  | _ => none
theorem dec_non {K : PySem.W.Frag} {H : Hp} {v : V} {x : D} (h : RU K T H v x) : decide (v = V.non) = isN x := by
  cases h <;> first | rfl | exact decide_eq_false fun z => nomatch z
theorem cs_is0 {K : PySem.W.Frag} (hp : ka.pers = true) : ∀ σ H Q, tD K T H0 Γ (e2 gIs0 fa fb) (.q q) σ H Q → tOp (fun x y H Q => y = .non ∧ Q (.bl (decide (x = .non))) H) (tD K T H0 Γ fa ka) (tD K T H0 Γ fb kb) σ H Q := bin_sem hp fun F O σ H ρ v u x y d Q R rv ru hg hq => by
  unfold gIs0 at hg
  split at hg
  · cases hg
    rw [dec_non (R.toB rv)]
    have ru := R.toB ru
    cases ru
    exact ⟨rfl, hq F H _ R (.refl _) (.refl _) (RepG.bl _)⟩
  · cases hg
theorem cs_not0 {K : PySem.W.Frag} (hp : ka.pers = true) : ∀ σ H Q, tD K T H0 Γ (e2 gNot0 fa fb) (.q q) σ H Q → tOp (fun x y H Q => y = .non ∧ Q (.bl (!decide (x = .non))) H) (tD K T H0 Γ fa ka) (tD K T H0 Γ fb kb) σ H Q := bin_sem hp fun F O σ H ρ v u x y d Q R rv ru hg hq => by
  unfold gNot0 at hg
  split at hg
  · cases hg
    rw [dec_non (R.toB rv)]
    have ru := R.toB ru
    cases ru
    exact ⟨rfl, hq F H _ R (.refl _) (.refl _) (RepG.bl _)⟩
  · cases hg
end
end DL

namespace DL
open PySem PySem.Spec PyProof.Rows L2
section
variable {X : Cx} {T : Tb} {H0 : HZ} {Γ : List Mode} {e : Expr} {f : XF} {q p : Q3} {W : WX} {k : Knd}
theorem dx_oq (h : DX X T H0 Γ e f (.ol p) W) (hl : p.le q = true := by rfl) (hL : Q3.L.le q = true := by rfl) : DX X T H0 Γ e f (.q q) W :=
  PE.wk h fun σ H Q ⟨F, O, ρ, r, R, hf, hq, hx⟩ => ⟨F, O, ρ, r, R, hf, fun d hd F' H' v R' sF sH ⟨a, vs, ds, e1, e2, h1, h2, h3, h4⟩ => by
    subst e1; subst e2
    obtain ⟨R2, s2⟩ := fz_new R' h1 h2 h3
    exact hq _ hd _ H' _ R2 (sF.trans s2) sH (RepG.lst upd_same (NK.le hL _ (R'.h0.free h2)) (h4.mono s2 (NK.le hl))), hx⟩
end
theorem alln {α : Type} {P : α → Prop} : ∀ x ∈ ([] : List α), P x := fun _ h => nomatch h
theorem allc {α : Type} {P : α → Prop} {a : α} {l : List α} (h : P a) (t : ∀ x ∈ l, P x) : ∀ x ∈ a :: l, P x := fun x hx => by
  cases hx with
  | head => exact h
  | tail _ hx => exact t x hx
end DL

namespace DL
open PySem PySem.Spec PyProof.Rows L2
section
variable {X : Cx} {T : Tb} {H0 : HZ} {Γ : List Mode} {a b c2 d2 : Expr} {fa fb fc fd : EF} {ka kb kc kd : Knd} {pos : Pos} {q : Q3} {ta tb tc td : TE}
/-! ### a chain of three comparisons -/
def tChain3 (r r' r2 : R2) (ta tb tc td : TE) : TE := fun σ H Q => ta σ H fun x H1 => tb σ H1 fun y H2 => r x y H2 fun z H3 => ∃ k, z = .bl k ∧
  (if k = true then tc σ H3 fun u H4 => r' y u H4 fun z2 H5 => ∃ k2, z2 = .bl k2 ∧ (if k2 = true then td σ H5 fun w H6 => r2 u w H6 Q else Q (.bl false) H5) else Q (.bl false) H3)
theorem pt_chain3 {o1 o2 o3 : CmpOp} {r r' r2 : R2} (h1 : OpR X (compareOp o1) r) (h2 : OpR X (compareOp o2) r') (h3 : OpR X (compareOp o3) r2) (ha : PE X a ta) (hb : PE X b tb) (hc : PE X c2 tc) (hd : PE X d2 td)
    (hm : lastMarks [o1, o2, o3] [b, c2, d2] = false := by with_unfolding_all rfl) : PT X (.Compare a [o1, o2, o3] [b, c2, d2] pos) (tTest (tChain3 r r' r2 ta tb tc td)) := by
  constructor
  intro pins s σ H Q I hw
  refine isTrue_chain (thn (ha.run pins s σ H _ I hw) ?_) hm
  rintro v s1 ⟨x, H1, I1, r1, q1⟩
  refine test_link (thn (hb.run pins s1 σ H1 _ I1 q1) ?_)
  rintro u s2 ⟨y, H2, I2, r2, q2⟩
  refine thn (h1 pins s2 σ H2 x y v u _ I2 r1 r2 q2) ?_
  rintro d s3 ⟨z, H3, I3, r3, k, rfl, q3⟩
  cases r3
  refine wpAny_truthy_bool ?_
  cases k with
  | false =>
    obtain ⟨k', e', q'⟩ := q3
    cases e'
    exact ite_ff ⟨H3, I3, q'⟩
  | true =>
    refine ite_tt (test_link (thn (hc.run pins s3 σ H3 _ I3 q3) ?_))
    rintro u2 s4 ⟨y2, H4, I4, r4, q4⟩
    refine thn (h2 pins s4 σ H4 y y2 u u2 _ I4 r2 r4 q4) ?_
    rintro d5 s5 ⟨z5, H5, I5, r5, k5, rfl, q5⟩
    cases r5
    refine wpAny_truthy_bool ?_
    cases k5 with
    | false =>
      obtain ⟨k', e', q'⟩ := q5
      cases e'
      exact ite_ff ⟨H5, I5, q'⟩
    | true =>
      refine ite_tt (test_last (thn (hd.run pins s5 σ H5 _ I5 q5) ?_))
      rintro u6 s6 ⟨y6, H6, I6, r6, q6⟩
      refine thn (h3 pins s6 σ H6 y2 y6 u2 u6 _ I6 r4 r6 q6) ?_
      rintro d7 s7 ⟨z7, H7, I7, r7, k7, rfl, q7⟩
      cases r7
      exact wpAny_truthy_bool ⟨H7, I7, q7⟩
def t4 (g : D → D → D → D → Option Bool) (a b c d : EF) : List D → Option Bool := fun ρ => (a ρ).bind fun x => (b ρ).bind fun y => (c ρ).bind fun z => (d ρ).bind fun w => g x y z w
def gCh3 (o o' o2 : Int → Int → Bool) : D → D → D → D → Option Bool
  | .int i, .int j, .int k, .int l => some (o i j && (o' j k && o2 k l))
  | _, _, _, _ => none
theorem dt_chain3 {o1 o2 o3 : CmpOp} {o o' op : Int → Int → Bool} (h1 : OpR X (compareOp o1) (rI0 fun i j => .bl (o i j))) (h2 : OpR X (compareOp o2) (rI0 fun i j => .bl (o' i j))) (h3 : OpR X (compareOp o3) (rI0 fun i j => .bl (op i j)))
    (ha : DE X T H0 Γ a fa ka) (hb : DE X T H0 Γ b fb kb) (hc : DE X T H0 Γ c2 fc kc) (hd : DE X T H0 Γ d2 fd kd) (hpa : ka.pers = true := by rfl) (hpb : kb.pers = true := by rfl) (hpc : kc.pers = true := by rfl) (hm : lastMarks [o1, o2, o3] [b, c2, d2] = false := by with_unfolding_all rfl) :
    DT X T H0 Γ (.Compare a [o1, o2, o3] [b, c2, d2] pos) (t4 (gCh3 o o' op) fa fb fc fd) := PT.wk (pt_chain3 h1 h2 h3 ha hb hc hd hm) fun σ H Q ⟨F, O, ρ, bb, R, hf, hq⟩ => by
  unfold t4 at hf
  cases e1 : fa ρ with
  | none => rw [e1] at hf; cases hf
  | some x =>
    rw [e1] at hf
    simp only [Option.bind_some] at hf
    cases e2 : fb ρ with
    | none => rw [e2] at hf; cases hf
    | some y =>
      rw [e2] at hf
      simp only [Option.bind_some] at hf
      cases e3 : fc ρ with
      | none => rw [e3] at hf; cases hf
      | some z =>
        rw [e3] at hf
        simp only [Option.bind_some] at hf
        cases e4 : fd ρ with
        | none => rw [e4] at hf; cases hf
        | some w =>
          rw [e4] at hf
          simp only [Option.bind_some] at hf
          unfold gCh3 at hf
          split at hf
          · rename_i i j k l
            cases hf
            refine ⟨F, O, ρ, _, R, e1, fun F1 H1 v R1 s1 t1 r1 => ⟨F1, O, ρ, _, R1, e2, fun F2 H2 u R2 s2 t2 r2 => ⟨i, j, (Rp.pers hpa s2 t2 r1).int, r2.int, o i j, rfl, ?_⟩⟩⟩
            cases q1 : o i j with
            | false => rw [if_neg (by decide)]; exact ⟨false, rfl, by rw [q1] at hq; exact hq F2 H2 R2 (s1.trans s2) (t1.trans t2)⟩
            | true =>
              rw [if_pos rfl]
              refine ⟨F2, O, ρ, _, R2, e3, fun F3 H3 v3 R3 s3 t3 r3 => ⟨j, k, (Rp.pers hpb s3 t3 r2).int, r3.int, o' j k, rfl, ?_⟩⟩
              cases q2 : o' j k with
              | false => rw [if_neg (by decide)]; exact ⟨false, rfl, by rw [q1, q2] at hq; exact hq F3 H3 R3 ((s1.trans s2).trans s3) ((t1.trans t2).trans t3)⟩
              | true =>
                rw [if_pos rfl]
                refine ⟨F3, O, ρ, _, R3, e4, fun F4 H4 v4 R4 s4 t4 r4 => ⟨k, l, (Rp.pers hpc s4 t4 r3).int, r4.int, op k l, rfl, ?_⟩⟩
                rw [q1, q2] at hq
                exact hq F4 H4 R4 (((s1.trans s2).trans s3).trans s4) (((t1.trans t2).trans t3).trans t4)
          · cases hf
end
end DL

namespace DL
open PySem PySem.Spec PyProof.Rows L2
/-! ### an __init__ whose last parameter has a default -/
section
variable {P : Program} {w : World} {K : PySem.W.Frag} {mg : Str → Option Value} {base : Heap} {T : Tb}
theorem fn_initD {x qual : Str} {st : Stmt} {N ps : List Str} {pks : List PKn} {m k c : Nat} {body : SF} {Γn : List Mode} {ms : List FM} {q : Q3} {f : Addr} {fd : FuncData} {dvs : List V} (F : FunD K x qual (defArgs st) (defBody st) (defScope st) dvs [] f fd) (S : FnScope N ps (defScope st)) (hN : N.length = pks.length + 1 + m) (hp : ps.length = pks.length + 1)
    (hΓ : Γn[0]? = some (.os (.ins c ms))) (hms : ms.length = (T c).2.length) (hq : ms.all (fmOk q) = true)
    (hb : ∀ (f : Addr) (cdv : Value) (A : Around) (outer : List Env) (s : Shared) (H : Hp) (E : XK) (z : Addr), Room k (bodyX P w K mg base N qual st f cdv A outer s H E).A → DSs (bodyX P w K mg base N qual st f cdv A outer s H E) T ⟨cut (ntb H) (· = z), z, []⟩ (.os (.ins c []) :: ms0 pks m) (defBody st) body Γn (jm (.q .A))) :
    FnOk P w K mg base CX0 (k + 1) f fd ps (spI K T c pks.length (initD c pks m body) q) := by
  refine F.ok S (fun vs H Q E h => ?_) fun cdv A outer s H vs Q E hr h => ?_
  · obtain ⟨z, as, rfl, hl, _⟩ := h
    rw [List.length_cons, hl, hp]
  obtain ⟨z, as, rfl, hl, dx, ds, fds, hz, ht, r, hf, hQ⟩ := h
  refine ⟨_, PSs.nox (hb f cdv A outer s H E z hr), ?_⟩
  unfold initD at hf
  split at hf
  · rename_i hc
    cases h1 : body (D.ins c [] :: (ds ++ List.replicate m D.non)) with
    | none => rw [h1] at hf; cases hf
    | some o =>
      rw [h1] at hf
      simp only [Option.bind_some] at hf
      have hlen := chks_len hc
      have cs : Same (cut (ntb H) (· = z)) H := fun b o e => by
        unfold cut at e
        split at e
        · cases e
        · exact ntb_le e
      have R0 : Rl K T ⟨cut (ntb H) (· = z), z, []⟩ (.os (.ins c []) :: ms0 pks m) (cut (ntb H) (· = z)) (fun i b => i = 0 ∧ b = z) (L2.start N (.ref z :: as)) H (D.ins c [] :: (ds ++ List.replicate m D.non)) := by
        have nn : NoT (cut (ntb H) (· = z)) := NoT.cut fun b o e => ntb_not e
        refine ⟨.refl _, cs, fun i b hb => ?_, fun i j b h1 h2 => by rw [h1.1, h2.1], ?_, ?_, fun i md hm => ?_, nn, ht⟩
        · obtain ⟨_, rfl⟩ := hb
          exact ⟨cut_in (S := (· = b)) rfl, _, hz, rfl⟩
        · unfold L2.start; simp; omega
        · simp; omega
        · cases i with
          | zero =>
            cases hm
            exact ⟨.ref z, _, rfl, rfl, z, dx, [], [], rfl, rfl, hz, ⟨rfl, rfl⟩, rfl, by simp, trivial⟩
          | succ i =>
            rw [List.getElem?_cons_succ] at hm ⊢
            unfold L2.start
            rw [List.map_cons, List.cons_append, List.getElem?_cons_succ]
            exact slot_start r hc hm
      refine ⟨_, _, _, o, R0, h1, ?_⟩
      split at hf
      · rename_i ρ
        split at hf
        · rename_i c' ds' hρ
          cases hf
          intro F' O' σ' H' s' R'
          obtain ⟨v, d, g1, g2, a, dx', fs, es, e1, e2, g3, g4, g5, g6, g7⟩ := R'.sl 0 _ hΓ
          rw [hρ] at g2
          cases g2
          cases e2
          have g5 : a = z := g5
          subst g5
          have hes := g7.len
          classical
          have sF : Same F' (fun b => if O' 0 b ∧ b ≠ a then H' b else F' b) := fun b o e => by
            show (if O' 0 b ∧ b ≠ a then H' b else F' b) = some o
            rw [if_neg]
            · exact e
            · rintro ⟨h2, _⟩
              rw [(R'.on 0 b h2).1] at e; cases e
          refine hQ (fun b => if O' 0 b ∧ b ≠ a then H' b else F' b) H' dx' fs (R'.h0.trans sF) ?_ (fun b o e => ?_) ⟨fun b o e => ?_, R'.tb⟩ g3 ?_ ?_
          · show (if O' 0 a ∧ a ≠ a then H' a else F' a) = none
            rw [if_neg (fun z => z.2 rfl)]
            exact (R'.on 0 a g4).1
          · have e : (if O' 0 b ∧ b ≠ a then H' b else F' b) = some o := e
            split at e
            · exact e
            · exact R'.fh _ _ e
          · have e : (if O' 0 b ∧ b ≠ a then H' b else F' b) = some o := e
            split at e
            · rename_i hb
              obtain ⟨_, u, z1, z2⟩ := R'.on 0 b hb.1
              rw [z1] at e; cases e
              exact isT_mut z2
            · exact R'.nF _ _ e
          · rw [g6, hes.2, hms, List.take_length]
          · refine fields_frz sF (fun b vs hb hv => ?_) (fun b hb => R'.h0.free (R'.on 0 b hb).1) hq g7
            show (if O' 0 b ∧ b ≠ a then H' b else F' b) = _
            rw [if_pos ⟨hb, fun z => by subst z; rw [g3] at hv; cases hv⟩]
            exact hv
        · cases hf
      · cases hf
  · cases hf
theorem fn_initXD {x qual : Str} {st : Stmt} {N ps : List Str} {pks : List PKn} {m k c : Nat} {body : SF} {Γn : List Mode} {ms : List FM} {q : Q3} {f : Addr} {fd : FuncData} {dvs : List V} (F : FunD K x qual (defArgs st) (defBody st) (defScope st) dvs [] f fd) (S : FnScope N ps (defScope st)) (hN : N.length = pks.length + 1 + m) (hp : ps.length = pks.length + 1)
    (hΓ : Γn[0]? = some (.os (.ins c ms))) (hms : ms.length = (T c).2.length) (hq : ms.all (fmOk q) = true)
    (hb : ∀ (f : Addr) (cdv : Value) (A : Around) (outer : List Env) (s : Shared) (H : Hp) (E : XK) (z : Addr), Room k (bodyXX P w K mg base N qual st f cdv A outer s H E).A → Takes (bodyXX P w K mg base N qual st f cdv A outer s H E) (fun cls od _ H' => E cls od H') →
      PassesOwn (model P w) (bodyXX P w K mg base N qual st f cdv A outer s H E).A (bodyXX P w K mg base N qual st f cdv A outer s H E).env (bodyXX P w K mg base N qual st f cdv A outer s H E).xe →
      DSs (bodyXX P w K mg base N qual st f cdv A outer s H E) T ⟨cut (ntb H) (· = z), z, []⟩ (.os (.ins c []) :: ms0 pks m) (defBody st) body Γn (jx (pks.length + 1 + m) (.q .A) E)) :
    FnOk P w K mg base (L2.CX P w) (k + 1) f fd ps (spIX K T c pks.length (initX c pks m body) q) := by
  refine F.ok S (fun vs H Q E h => ?_) fun cdv A outer s H vs Q E hr h => ?_
  · obtain ⟨z, as, rfl, hl, _⟩ := h
    rw [List.length_cons, hl, hp]
  obtain ⟨z, as, rfl, hl, dx, ds, r, hz, ht, rr, hf, hQ, hX⟩ := h
  refine ⟨_, hb f cdv A outer s H E z hr (takes_of rfl rfl rfl rfl) (passes_of rfl), ?_⟩
  unfold initX at hf
  split at hf
  · rename_i hc
    cases h1 : body (D.ins c [] :: (ds ++ List.replicate m D.non)) with
    | none => rw [h1] at hf; cases hf
    | some o =>
      rw [h1] at hf
      simp only [Option.bind_some] at hf
      have hlen := chks_len hc
      have cs : Same (cut (ntb H) (· = z)) H := fun b o e => by
        unfold cut at e
        split at e
        · cases e
        · exact ntb_le e
      have R0 : Rl K T ⟨cut (ntb H) (· = z), z, []⟩ (.os (.ins c []) :: ms0 pks m) (cut (ntb H) (· = z)) (fun i b => i = 0 ∧ b = z) (L2.start N (.ref z :: as)) H (D.ins c [] :: (ds ++ List.replicate m D.non)) := by
        have nn : NoT (cut (ntb H) (· = z)) := NoT.cut fun b o e => ntb_not e
        refine ⟨.refl _, cs, fun i b hb => ?_, fun i j b h1 h2 => by rw [h1.1, h2.1], ?_, ?_, fun i md hm => ?_, nn, ht⟩
        · obtain ⟨_, rfl⟩ := hb
          exact ⟨cut_in (S := (· = b)) rfl, _, hz, rfl⟩
        · unfold L2.start; simp; omega
        · simp; omega
        · cases i with
          | zero =>
            cases hm
            exact ⟨.ref z, _, rfl, rfl, z, dx, [], [], rfl, rfl, hz, ⟨rfl, rfl⟩, rfl, by simp, trivial⟩
          | succ i =>
            rw [List.getElem?_cons_succ] at hm ⊢
            unfold L2.start
            rw [List.map_cons, List.cons_append, List.getElem?_cons_succ]
            exact slot_start rr hc hm
      refine ⟨_, _, _, o, R0, h1, ?_⟩
      split at hf
      · rename_i ρ
        split at hf
        · rename_i c' ds' hρ
          cases hf
          intro F' O' σ' H' s' R'
          obtain ⟨v, d, g1, g2, a, dx', fs, es, e1, e2, g3, g4, g5, g6, g7⟩ := R'.sl 0 _ hΓ
          rw [hρ] at g2
          cases g2
          cases e2
          have g5 : a = z := g5
          subst g5
          have hes := g7.len
          classical
          have sF : Same F' (fun b => if O' 0 b ∧ b ≠ a then H' b else F' b) := fun b o e => by
            show (if O' 0 b ∧ b ≠ a then H' b else F' b) = some o
            rw [if_neg]
            · exact e
            · rintro ⟨h2, _⟩
              rw [(R'.on 0 b h2).1] at e; cases e
          refine hQ _ rfl (fun b => if O' 0 b ∧ b ≠ a then H' b else F' b) H' dx' fs (R'.h0.trans sF) ?_ (fun b o e => ?_) ⟨fun b o e => ?_, R'.tb⟩ g3 ?_ ?_
          · show (if O' 0 a ∧ a ≠ a then H' a else F' a) = none
            rw [if_neg (fun z => z.2 rfl)]
            exact (R'.on 0 a g4).1
          · have e : (if O' 0 b ∧ b ≠ a then H' b else F' b) = some o := e
            split at e
            · exact e
            · exact R'.fh _ _ e
          · have e : (if O' 0 b ∧ b ≠ a then H' b else F' b) = some o := e
            split at e
            · rename_i hb
              obtain ⟨_, u, z1, z2⟩ := R'.on 0 b hb.1
              rw [z1] at e; cases e
              exact isT_mut z2
            · exact R'.nF _ _ e
          · rw [g6, hes.2, hms, List.take_length]
          · refine fields_frz sF (fun b vs hb hv => ?_) (fun b hb => R'.h0.free (R'.on 0 b hb).1) hq g7
            show (if O' 0 b ∧ b ≠ a then H' b else F' b) = _
            rw [if_pos ⟨hb, fun z => by subst z; rw [g3] at hv; cases hv⟩]
            exact hv
        · cases hf
      · cases hf
        exact fun F' O' σ' H' cls od s R x => hX _ _ rfl F' H' cls od R.h0 R.fh ⟨R.nF, R.tb⟩ x
      · cases hf
  · cases hf
structure FtID (K : PySem.W.Frag) (mg : Str → Option Value) (T : Tb) (c : Nat) (x qual : Str) (st : Stmt) (ps : List Str) (v : V) : Prop where
  ex : ∃ f fd, FunD K "__init__" qual (defArgs st) (defBody st) (defScope st) [v] [] f fd ∧ Binds K fd ps [] ∧ (∃ ds, Vals [v] ds ∧ Binds K fd ps ds) ∧ Mk K (T c).1 f
  mg : mg x = some (.ref (T c).1)
theorem mk_okcD {x qual : Str} {st : Stmt} {N ps : List Str} {pks : List PKn} {m k c : Nat} {body : SF} {Γn : List Mode} {ms : List FM} {q : Q3} {v : V} (F : FtID K mg T c x qual st ps v) (S : FnScope N ps (defScope st)) (hN : N.length = pks.length + 1 + m) (hp : ps.length = pks.length + 1)
    (hΓ : Γn[0]? = some (.os (.ins c ms))) (hms : ms.length = (T c).2.length) (hq : ms.all (fmOk q) = true)
    (hb : ∀ (f : Addr) (cdv : Value) (A : Around) (outer : List Env) (s : Shared) (H : Hp) (E : XK) (z : Addr), Room k (bodyX P w K mg base N qual st f cdv A outer s H E).A → DSs (bodyX P w K mg base N qual st f cdv A outer s H E) T ⟨cut (ntb H) (· = z), z, []⟩ (.os (.ins c []) :: ms0 pks m) (defBody st) body Γn (jm (.q .A))) :
    OkC P w K mg base T (k + 1) c x pks.length (initD c pks m body) q := by
  obtain ⟨f, fd, h1, h2, _, h3⟩ := F.ex
  exact ⟨⟨f, fd, ps, hp, h3, h2, fn_initD h1 S hN hp hΓ hms hq hb⟩, F.mg⟩
theorem mk_okcxD {x qual : Str} {st : Stmt} {N ps : List Str} {pks : List PKn} {m k c : Nat} {body : SF} {Γn : List Mode} {ms : List FM} {q : Q3} {v : V} (F : FtID K mg T c x qual st ps v) (S : FnScope N ps (defScope st)) (hN : N.length = pks.length + 1 + m) (hp : ps.length = pks.length + 1)
    (hΓ : Γn[0]? = some (.os (.ins c ms))) (hms : ms.length = (T c).2.length) (hq : ms.all (fmOk q) = true)
    (hb : ∀ (f : Addr) (cdv : Value) (A : Around) (outer : List Env) (s : Shared) (H : Hp) (E : XK) (z : Addr), Room k (bodyXX P w K mg base N qual st f cdv A outer s H E).A → Takes (bodyXX P w K mg base N qual st f cdv A outer s H E) (fun cls od _ H' => E cls od H') →
      PassesOwn (model P w) (bodyXX P w K mg base N qual st f cdv A outer s H E).A (bodyXX P w K mg base N qual st f cdv A outer s H E).env (bodyXX P w K mg base N qual st f cdv A outer s H E).xe →
      DSs (bodyXX P w K mg base N qual st f cdv A outer s H E) T ⟨cut (ntb H) (· = z), z, []⟩ (.os (.ins c []) :: ms0 pks m) (defBody st) body Γn (jx (pks.length + 1 + m) (.q .A) E)) :
    OkCX P w K mg base T (k + 1) c x pks.length (initX c pks m body) q := by
  obtain ⟨f, fd, h1, h2, _, h3⟩ := F.ex
  exact ⟨⟨f, fd, ps, hp, h3, h2, fn_initXD h1 S hN hp hΓ hms hq hb⟩, F.mg⟩
/-- the same class, made with one value less -/
structure OkC1 (P : Program) (w : World) (K : PySem.W.Frag) (mg : Str → Option Value) (base : Heap) (T : Tb) (k : Nat) (c : Nat) (x : Str) (n : Nat) (φ : List D → Option (List D)) (q : Q3) (v : V) : Prop where
  ex : ∃ fi fd ps ds, ps.length = n + 1 ∧ Mk K (T c).1 fi ∧ Vals [v] ds ∧ Binds K fd ps ds ∧ FnOk P w K mg base CX0 k fi fd ps (spI K T c n φ q)
  mg : mg x = some (.ref (T c).1)
theorem mk_okc1 {x qual : Str} {st : Stmt} {N ps : List Str} {pks : List PKn} {m k c : Nat} {body : SF} {Γn : List Mode} {ms : List FM} {q : Q3} {v : V} (F : FtID K mg T c x qual st ps v) (S : FnScope N ps (defScope st)) (hN : N.length = pks.length + 1 + m) (hp : ps.length = pks.length + 1)
    (hΓ : Γn[0]? = some (.os (.ins c ms))) (hms : ms.length = (T c).2.length) (hq : ms.all (fmOk q) = true)
    (hb : ∀ (f : Addr) (cdv : Value) (A : Around) (outer : List Env) (s : Shared) (H : Hp) (E : XK) (z : Addr), Room k (bodyX P w K mg base N qual st f cdv A outer s H E).A → DSs (bodyX P w K mg base N qual st f cdv A outer s H E) T ⟨cut (ntb H) (· = z), z, []⟩ (.os (.ins c []) :: ms0 pks m) (defBody st) body Γn (jm (.q .A))) :
    OkC1 P w K mg base T (k + 1) c x pks.length (initD c pks m body) q v := by
  obtain ⟨f, fd, h1, h2, ⟨ds, h4, h5⟩, h3⟩ := F.ex
  exact ⟨⟨f, fd, ps, ds, hp, h3, h4, h5, fn_initD h1 S hN hp hΓ hms hq hb⟩, F.mg⟩
end
section
variable {X : Cx} {T : Tb} {H0 : HZ} {Γ : List Mode} {e : Expr} {es : List Expr} {pos po : Pos} {fs : List D → Option (List D)} {x : Str} {cl : Nat} {p : Q3}
/-- the last value is the default -/
def with1 (d : D) (φ : List D → Option (List D)) : List D → Option (List D) := fun as => φ (as ++ [d])
theorem make1_sem {K : PySem.W.Frag} {n : Nat} {φ : List D → Option (List D)} {E : XK} {i : Int} (hp : p.le .L = true) (hn : ∀ ρ ds, fs ρ = some ds → ds.length + 1 = n) :
    ∀ σ H Q, tD K T H0 Γ (eMake cl (with1 (.int i) φ) fs) (.q .L) σ H Q → tMake (T cl).1 (spI K T cl n φ p) [.int i] E (tDA K T H0 Γ fs) σ H Q := by
  rintro σ H Q ⟨F, O, ρ, d, R, hf, hq⟩
  have hf2 : eMake cl φ (fun ρ => (fs ρ).map (· ++ [.int i])) ρ = some d := by
    unfold eMake at hf ⊢
    cases h1 : fs ρ with
    | none => rw [h1] at hf; cases hf
    | some ds => rw [h1] at hf; show (((fs ρ).map (· ++ [.int i])).bind φ).map (.ins cl) = some d; rw [h1]; exact hf
  obtain ⟨F1, O1, ρ1, ds1, R1, h1, h2⟩ := make_sem (K := K) (E := E) (fs := fun ρ => (fs ρ).map (· ++ [.int i])) hp (n := n) (fun ρ ds e => by
    have e : (fs ρ).map (· ++ [.int i]) = some ds := e
    cases h1 : fs ρ with
    | none => rw [h1] at e; cases e
    | some ds' => rw [h1] at e; cases e; rw [List.length_append]; exact hn _ _ h1) σ H Q ⟨F, O, ρ, d, R, hf2, hq⟩
  have h1 : (fs ρ1).map (· ++ [.int i]) = some ds1 := h1
  cases h3 : fs ρ1 with
  | none => rw [h3] at h1; cases h1
  | some ds' =>
    rw [h3] at h1
    cases h1
    refine ⟨F1, O1, ρ1, ds', R1, h3, fun F2 H2 vs R2 s2 t2 r2 => ?_⟩
    have := h2 F2 H2 (vs ++ [.int i]) R2 s2 t2 (r2.append (.cons (.int i) .nil))
    intro x dx hx hdx hne
    have := this x dx hx hdx hne
    rw [List.append_nil] at this
    exact this
theorem de_make1 {i k : Nat} {n : Nat} {φ : List D → Option (List D)} {z : Int} (h : OkC1 X.prog X.w X.K X.mg X.base T i cl x n φ p (.int z)) (hr : Room k X.A) (hg : Gl X x) (ha : DA X T H0 Γ (e :: es) fs) (hn : ∀ ρ ds, fs ρ = some ds → ds.length + 1 = n) (hp : p.le .L = true := by rfl) (hj : i + 1 ≤ k := by decide)
    (hdb : (x == ("__debug__" : Str)) = false := by decide) (he : starEach (e :: es) X.env = (false, eval e X.env) :: starEach es X.env := by rfl) (hpl : (backTo pos (starEach es X.env)).any (·.1) = false := by rfl) :
    DE X T H0 Γ (.Call (.Name x po) (e :: es) [] pos) (eMake cl (with1 (.int z) φ) fs) (.q .L) := by
  obtain ⟨f, fd, ps, ds, h1, h2, h5, h3, h4⟩ := h.ex
  exact PE.wk (pe_make h2 h4 (hr.mono hj) hg h.mg h3 h5 pass0 ha hdb he hpl) (make1_sem hp hn)
end
end DL
namespace DL
open PySem PySem.Spec PyProof.Rows L2
/-- a tuple of defaults, in the written part -/
def DflQ (K : PySem.W.Frag) (p : Addr) (vs : List V) : Prop := ∃ (o : Obj) (its : List Value) (n : Nat), K.lookup p = some o ∧ o.data = .seq its.toArray n ∧ Vals vs its
theorem funD_mk {K : PySem.W.Frag} {x qual : Str} {st : Stmt} {f dv : Addr} {oc : Value} {od an : Option Addr} {osl : Array (Option Value)} {kV doc pm cdv ct : Value} {v : V} (l : K.lookup f = some ⟨oc, od, .func (PySem.W.fnOf x qual (defArgs st) (defBody st) (defScope st) (.ref dv) kV doc pm an cdv ct), osl⟩)
    (c : PySem.W.codeIn K cdv qual = true) (k : PySem.W.keepIn K (.ref f) = true) (d : DflQ K dv [v]) : FunD K x qual (defArgs st) (defBody st) (defScope st) [v] [] f (PySem.W.fnOf x qual (defArgs st) (defBody st) (defScope st) (.ref dv) kV doc pm an cdv ct) := by
  obtain ⟨o, its, n, h1, h2, h3⟩ := d
  exact ⟨⟨oc, od, .ref dv, kV, doc, pm, an, cdv, ct, osl, rfl, l, c, .inr ⟨List.cons_ne_nil _ _, dv, o, its, n, rfl, h1, h2, h3⟩, .inl rfl⟩, k⟩
theorem funD_b {K : PySem.W.Frag} {x qual : Str} {st : Stmt} {f : Addr} {fd : FuncData} {v : V} {ps : List Str} (F : FunD K x qual (defArgs st) (defBody st) (defScope st) [v] [] f fd)
    (h : ∀ (T : Addr) (kV doc pm : Value) (an : Option Addr) (cdv ct : Value) (us its : List Value), us.length = ps.length → its.length = 1 → ∃ k, bindArgs (PySem.W.fnOf x qual (defArgs st) (defBody st) (defScope st) (.ref T) kV doc pm an cdv ct) ⟨us, []⟩ = seqItems? (.ref T) >>= k ∧ k (some its.toArray) = pure (ps.zip (us ++ its.drop 1))) : Binds K fd ps [] := by
  obtain ⟨ds, h1, h2⟩ := F.binds1 (ps := ps) ps.length 1 (List.cons_ne_nil _ _) rfl h
  cases h1
  exact h2
theorem funD_b1 {K : PySem.W.Frag} {x qual : Str} {st : Stmt} {f : Addr} {fd : FuncData} {v : V} {ps : List Str} (F : FunD K x qual (defArgs st) (defBody st) (defScope st) [v] [] f fd)
    (h : ∀ (T : Addr) (kV doc pm : Value) (an : Option Addr) (cdv ct : Value) (us its : List Value), us.length + 1 = ps.length → its.length = 1 → ∃ k, bindArgs (PySem.W.fnOf x qual (defArgs st) (defBody st) (defScope st) (.ref T) kV doc pm an cdv ct) ⟨us, []⟩ = seqItems? (.ref T) >>= k ∧ k (some its.toArray) = pure (ps.zip (us ++ its))) (hp : 0 < ps.length) : ∃ ds, Vals [v] ds ∧ Binds K fd ps ds := by
  obtain ⟨ds, h1, h2⟩ := F.binds1 (ps := ps) (ps.length - 1) 0 (List.cons_ne_nil _ _) (by show ps.length - 1 + 1 = ps.length; omega) fun T kV doc pm an cdv ct us its h1 h2 => h T kV doc pm an cdv ct us its (by omega) h2
  exact ⟨ds, h1, h2⟩
end DL

/-! tuple(reversed(a tuple)) -/
namespace DL
open PySem PySem.Spec PyProof.Rows L2
section
variable {prog : Program} {w : World} {A : Around} {E : Value → Shared → Prop} {s : Shared}
theorem iadd_rt {R : Result → Shared → Prop} (hh : A.handled = none) {it l S : Addr} {items : Array Value} (c₀ : Nat) (hit : RT.IsRt s.heap it l ((items.size : Int) - 1)) (hl : IsTup s.heap l items) (hne : l ≠ it) (hn : items.size ≤ sizeLine)
    (hSi : S ≠ it) (hSl : S ≠ l) (hS : s.heap.get? S = some { cls := .type "list", data := .seq #[] c₀ })
    (hR : ∀ h' tk acc' c', (∀ b o, b ≠ S → b ≠ it → s.heap.get? b = some o → h'.get? b = some o) → h'.get? S = some { cls := .type "list", dict := none, data := .seq acc' c', slots := #[] } →
      ItemsOf (fun i v => items[items.size - 1 - i]? = some v) acc' items.size → R (.ok (.ret (.ref S))) { s with heap := h', toks := tk }) :
    codeAny (model prog w) A (.builtin "list.__iadd__" ⟨[.ref S, .ref it], []⟩) R s := by
  refine codeAny_builtin F.entry_list_iadd ?_
  rw [Around.under_plainId F.plain_list_iadd _]
  show wpAny _ A.in1 (Builtin.List.listExtendWith (.ref S) (.ref it) (.ref S)) _ _ _
  exact extend_rt (A := A) hh (.ref S) c₀ hit hl hne hn hSi hSl hS hR
theorem collect_rt {it l : Addr} {items : Array Value} {Q : List Value → Shared → Prop} (hh : A.handled = none) (hit : RT.IsRt s.heap it l ((items.size : Int) - 1)) (hl : IsTup s.heap l items) (hne : l ≠ it) (hn : items.size ≤ sizeLine)
    (hQ : ∀ (h' : Heap) (tk : Nat) (acc : Array Value), (∀ b o, b ≠ it → s.heap.get? b = some o → h'.get? b = some o) → ItemsOf (fun i v => items[items.size - 1 - i]? = some v) acc items.size → Q acc.toList { s with heap := h', toks := tk }) :
    wpAny (model prog w) A (collect (.ref it)) Q E s := by
  obtain ⟨oi, hoi, _⟩ := id hit
  obtain ⟨ol, hol, _⟩ := id hl
  have hSi : s.heap.objs.size ≠ it := Nat.ne_of_gt (Heap.lt_size hoi)
  have hSl : s.heap.objs.size ≠ l := Nat.ne_of_gt (Heap.lt_size hol)
  unfold collect
  refine wpAny_bind (wpAny_runValue (codeAny_builtin F.entry_proto_collect ?_))
  rw [Around.under_plainId F.plain_proto_collect _]
  show wpAny _ A.in1 (newList [] >>= fun l' => again (.builtin "list.__iadd__" ⟨[l', .ref it], []⟩)) _ _ s
  refine wpAny_bind (wpAny_newObj_type ?_)
  refine wpAny_pure ⟨plainId_quiet F.plain_list_iadd _, ?_⟩
  have hS₁ : (s.heap.push { cls := .type "list", data := .seq ([] : List Value).toArray }).get? s.heap.objs.size = some { cls := .type "list", data := .seq ([] : List Value).toArray } := Heap.get?_push_size _ rfl
  refine iadd_rt (A := A) (s := { s with heap := s.heap.push { cls := .type "list", data := .seq ([] : List Value).toArray } }) hh 0 (hit.at fun o e => Heap.get?_push_of_some _ e) (tup_at hl fun o e => Heap.get?_push_of_some _ e) hne hn hSi hSl hS₁ fun h' tk acc' c' hk hS' hacc => ?_
  show wpAny _ A (load s.heap.objs.size >>= _) _ _ _
  refine wpAny_bind (wpAny_load (s := { s with heap := h', toks := tk }) hS' ?_)
  refine wpAny_pure ?_
  exact hQ h' tk acc' (fun b o hb e => hk b o (Nat.ne_of_lt (Heap.lt_size e)) hb (Heap.get?_push_of_some _ e)) hacc
theorem code_tuple_new_rt {it l : Addr} {items : Array Value} {Q₁ : Value → Shared → Prop} (hh : A.handled = none) (hit : RT.IsRt s.heap it l ((items.size : Int) - 1)) (hl : IsTup s.heap l items) (hne : l ≠ it) (hn : items.size ≤ sizeLine)
    (h : ∀ (h' : Heap) (tk : Nat) (acc : Array Value), (∀ b o, b ≠ it → s.heap.get? b = some o → h'.get? b = some o) → ItemsOf (fun i v => items[items.size - 1 - i]? = some v) acc items.size →
      Q₁ (.ref h'.objs.size) { s with heap := h'.push { cls := .type "tuple", data := .seq acc }, toks := tk }) :
    codeAny (model prog w) A (.call (.builtin "tuple.__new__") ⟨[.type "tuple", .ref it], []⟩) (wants Q₁ E) s := by
  refine codeAny_of_tree ?_
  show wpAny _ A.in1 (do checkBuiltinCall "tuple.__new__" ⟨[.type "tuple", .ref it], []⟩; again (.builtin "tuple.__new__" ⟨[.type "tuple", .ref it], []⟩)) _ _ s
  refine wpAny_bind (wpAny_of_eq (F.newCall_tuple_1 _) (wpAny_pure ⟨plainId_quiet F.plain_tuple_new _, codeAny_builtin F.entry_tuple_new ?_⟩))
  rw [Around.under_plainId F.plain_tuple_new _]
  have hsub := sub_tuple_self
  have hinit := init_tuple_lookup
  have hmh := madeHere_tuple
  have hTI : s.TypeIs (.ref it) "reversed" := hit.typeIs
  have hh1 : A.in1.handled = none := hh
  wp_walk using wpAny_typeOf hTI, collect_rt (A := A.in1) hh1 hit hl hne hn
  intro h' tk acc hk hacc
  show wpAny _ _ (Builtin.Tuple.tupleExact acc.toList.toArray >>= fun v => ret v) _ _ _
  unfold Builtin.Tuple.tupleExact
  refine wpAny_bind (wpAny_newObj_type ?_ (by show acc.toList.toArray.size ≤ sizeLine; simp only [Array.toArray_toList]; rw [hacc.1]; exact hn))
  refine wpAny_pure ?_
  have e : acc.toList.toArray = acc := by simp
  rw [e]
  exact h h' tk acc hk hacc
theorem call_tuple_rt {it l : Addr} {items : Array Value} {Q : Value → Shared → Prop} (hh : A.handled = none) (hit : RT.IsRt s.heap it l ((items.size : Int) - 1)) (hl : IsTup s.heap l items) (hne : l ≠ it) (hn : items.size ≤ sizeLine)
    (hQ : ∀ (h' : Heap) (tk : Nat) (acc : Array Value), (∀ b o, b ≠ it → s.heap.get? b = some o → h'.get? b = some o) → ItemsOf (fun i v => items[items.size - 1 - i]? = some v) acc items.size →
      Q (.ref h'.objs.size) { s with heap := h'.push { cls := .type "tuple", data := .seq acc }, toks := tk }) :
    wpAny (model prog w) A (call (.type "tuple") [.ref it]) Q E s := by
  refine callType_codes (Q₁ := fun obj s₁ => s₁.TypeIs obj "tuple" ∧ Q obj s₁) F.called_tuple (F.typeCall_tuple_1 _) F.entry_object_init
    (code_tuple_new_rt (A := A.in1) hh hit hl hne hn fun h' tk acc hk hacc => ⟨⟨_, Heap.get?_push_size _ rfl, rfl⟩, hQ h' tk acc hk hacc⟩) fun obj s₁ h₁ => ?_
  exact ⟨h₁.1, F.args_object_init_2 obj _, object_init_meets F.called_tuple.init.lookup F.called_tuple.made (by decide) prog w A.in1 _ s₁ ⟨h₁.1, rfl, h₁.2⟩⟩
end
/-- tuple(reversed(x)), x a tuple: a new tuple -/
def tTupRevT (K : PySem.W.Frag) (te : TE) : TE := fun σ H Q => te σ H fun v H1 => ∃ (a : Addr) (xs : List V), v = .ref a ∧ SqT K H1 a xs ∧ ∀ q, H1 q = none → Q (.ref q) (upd H1 q (.tup xs.reverse))
theorem pe_tupRevT {X : Cx} {e : Expr} {te : TE} {p p2 pos pos2 : Pos} (hc : X.calm = true) (hg : Gl X "tuple") (hm : X.mg "tuple" = none) (hg2 : Gl X "reversed") (hm2 : X.mg "reversed" = none) (he : PE X e te)
    (hs : starEach [e] X.env = (false, eval e X.env) :: starEach [] X.env := by rfl)
    (hs2 : starEach [.Call (.Name "reversed" p2) [e] [] pos2] X.env = (false, eval (.Call (.Name "reversed" p2) [e] [] pos2) X.env) :: starEach [] X.env := by rfl) :
    PE X (.Call (.Name "tuple" p) [.Call (.Name "reversed" p2) [e] [] pos2] [] pos) (tTupRevT X.K te) := by
  refine ⟨fun pins s σ H Q I h => ?_⟩
  refine Call_ (ld_blt I hg hm boot_tuple (PyProof.Rows.callWith_type1 (args_cons (Call_ (ld_blt I hg2 hm2 PyProof.Rows.boot_reversed (PyProof.Rows.callWith_type1 (args_cons (thn (he.run pins s σ H _ I h) fun u s1 ⟨v, H1, I1, r1, q1⟩ => args_nil ?_) hs) hs rfl))) hs2) hs2 rfl))
  obtain ⟨a, xs, ev, hq, q⟩ := q1
  subst ev
  obtain rfl : u = Value.ref a := r1
  obtain ⟨its, rv, p', hz⟩ := I1.tuple hq
  have hl := rv.length
  have hn63 := line63
  refine RT.call_reversed_tup p' (fun A E Q k => len_tuple p' (by simp only [List.size_toArray] <;> omega) k) (args_nil ?_)
  have k0 : ∀ b o, s1.heap.get? b = some o → (s1.heap.push (RT.rtObj a ((its.toArray.size : Int) - 1))).get? b = some o := fun b o e => Heap.get?_push_of_some _ e
  have I2 : Inv X pins σ H1 { s1 with heap := s1.heap.push (RT.rtObj a ((its.toArray.size : Int) - 1)), toks := s1.toks + 1 + 1 } := I1.kept (t' := s1.toks + 1 + 1) k0
  obtain ⟨f0, f1, f2, f3, f4, f5⟩ := I1.fpOk (H' := H1) (b := s1.heap.objs.size) (Nat.le_refl _) (I1.hok.fresh (Nat.le_refl _))
  obtain ⟨ol, hol, _⟩ := id p'
  have hne : a ≠ s1.heap.objs.size := Nat.ne_of_lt (Heap.lt_size hol)
  have hn : its.toArray.size ≤ sizeLine := by rw [List.size_toArray, ← rv.length]; exact hz
  refine call_tuple_rt (s := { s1 with heap := s1.heap.push (RT.rtObj a ((its.toArray.size : Int) - 1)), toks := s1.toks + 1 + 1 }) (I1.ok.hd hc) ⟨_, Heap.get?_push_size _ rfl, rfl, rfl⟩ (tup_at p' fun o e => k0 _ o e) hne hn fun h' tk acc hk hi => ?_
  have I3 : Inv X pins σ H1 { s1 with heap := h', toks := tk } := I2.turned (t' := tk) (fun b o hb e => hk b o hb e) f0 f1 f3 f4 f5
  refine ⟨.ref h'.objs.size, upd H1 h'.objs.size (.tup xs.reverse), I3.laid (t' := tk) (fun c o e => Heap.get?_push_of_some _ e) (Nat.le_refl _) (show ObjOk X.prog X.w _ _ _ (.tup xs.reverse) from ⟨by rw [List.length_reverse]; exact hz, acc.toList, RT.vals_rev rv hi, ?_⟩), rfl, q _ (I3.hok.fresh (Nat.le_refl _))⟩
  rw [Array.toArray_toList]
  exact IsTup.new _ _
section
variable {X : Cx} {T : Tb} {H0 : HZ} {Γ : List Mode} {a : Expr} {fa : EF} {ka : Knd} {pos po p2 pos2 : Pos} {q : Q3}
def gTupRT : D → Option D
  | .tup ds => some (.tup ds.reverse)
  | _ => none
theorem de_tupRevT (hc : X.calm = true) (hg : Gl X "tuple") (hm : X.mg "tuple" = none) (hg2 : Gl X "reversed") (hm2 : X.mg "reversed" = none) (ha : DE X T H0 Γ a fa (.q q))
    (hs : starEach [a] X.env = (false, eval a X.env) :: starEach [] X.env := by rfl)
    (hs2 : starEach [.Call (.Name "reversed" p2) [a] [] pos2] X.env = (false, eval (.Call (.Name "reversed" p2) [a] [] pos2) X.env) :: starEach [] X.env := by rfl) :
    DE X T H0 Γ (.Call (.Name "tuple" po) [.Call (.Name "reversed" p2) [a] [] pos2] [] pos) (e1 gTupRT fa) (.q q) :=
  PE.wk (pe_tupRevT hc hg hm hg2 hm2 ha hs hs2) fun σ H Q ⟨F, O, ρ, d, R, hf, hq⟩ => by
    unfold e1 at hf
    cases h1 : fa ρ with
    | none => rw [h1] at hf; cases hf
    | some x =>
      rw [h1] at hf
      simp only [Option.bind_some] at hf
      refine ⟨F, O, ρ, x, R, h1, fun F1 H1 v R1 s1 t1 r1 => ?_⟩
      unfold gTupRT at hf
      split at hf
      · cases hf
        obtain ⟨a1, vs, rfl, h1, h2⟩ := Rp.tupq R1 r1
        refine ⟨a1, vs, rfl, same_sqT R1.fh h1, fun p hp => ?_⟩
        obtain ⟨R2, s2, t2⟩ := R1.laid (o := .tup vs.reverse) hp
        exact hq _ _ _ R2 (s1.trans s2) (t1.trans t2) (RepG.tup upd_same (s2.rqs h2.reverse))
      · cases hf
end
end DL

/-! str(an int); texts joined by + -/
namespace DL
open PySem PySem.Spec PyProof.Rows L2
section
variable {X : Cx} {T : Tb} {H0 : HZ} {Γ : List Mode} {a b : Expr} {fa fb : EF} {ka kb : Knd} {pos po : Pos} {q : Q3}
def gStr : D → Option D
  | .int i => if i.natAbs.log2 < 1920 then some (.str (Str.ofString (toString i))) else none
  | _ => none
def gAddS : D → D → Option D
  | .str i, .str j => if i.length + j.length ≤ 1000000 then some (.str (i ++ j)) else none
  | _, _ => none
theorem de_strI (hg : Gl X "str") (hm : X.mg "str" = none) (ha : DE X T H0 Γ a fa ka) (hs : starEach [a] X.env = (false, eval a X.env) :: starEach [] X.env := by rfl) : DE X T H0 Γ (.Call (.Name "str" po) [a] [] pos) (e1 gStr fa) (.q q) :=
  PE.wk (pe_callTy call_str_int hg hm (by decide +kernel) (pa_cons ha pa_nil hs) (he := hs)) (callB_semK fun F O σ H ρ v x d Q R rv hg hq => by
    unfold gStr at hg
    split at hg
    · rename_i i
      split at hg
      · rename_i hl
        cases hg
        have : v = .int i := rv.int
        subst this
        exact ⟨i, rfl, hl, hq F H _ R (.refl _) (.refl _) (RepG.str _)⟩
      · cases hg
    · cases hg)
theorem de_addS (ha : DE X T H0 Γ a fa ka) (hb : DE X T H0 Γ b fb kb) (hp : ka.pers = true := by rfl) : DE X T H0 Γ (.BinOp a .Add b pos) (e2 gAddS fa fb) (.q q) :=
  PE.wk (pe_op op_add_str ha hb) (bin_sem hp fun F O σ H ρ v u x y d Q R rv ru hg hq => by
    unfold gAddS at hg
    split at hg
    · rename_i i j
      split at hg
      · rename_i hl
        cases hg
        have h1 : v = .str i := rv.str
        have h2 : u = .str j := ru.str
        subst h1 h2
        have hn := line63
        have hz : i.length + j.length ≤ sizeLine := by rw [sizeLine_eq]; omega
        exact ⟨i, j, rfl, rfl, hz, hq F H _ R (.refl _) (.refl _) (RepG.str _)⟩
      · cases hg
    · cases hg)
end
end DL

/-! xs[lo::step] of a list -/
namespace DL
open PySem PySem.Spec PyProof.Rows L2
def stepG {α : Type} (xs : List α) (lo st : Option Int) : List α := (sliceRange (sliceBounds lo none st xs.length).1 (sliceBounds lo none st xs.length).2.1 (sliceBounds lo none st xs.length).2.2).filterMap (xs[·]?)
theorem Vals.pick {xs : List V} {its : List Value} (r : Vals xs its) : ∀ ks : List Nat, Vals (ks.filterMap (xs[·]?)) (ks.filterMap (its[·]?))
  | [] => .nil
  | k :: ks => by
    have ih := Vals.pick r ks
    by_cases h : k < xs.length
    · have h2 : k < its.length := by rw [← r.length]; exact h
      obtain ⟨u, hu, ru⟩ := r.get (List.getElem?_eq_getElem h)
      rw [List.filterMap_cons, List.filterMap_cons, List.getElem?_eq_getElem h, hu]
      exact .cons ru ih
    · have h2 : its.length ≤ k := by rw [← r.length]; omega
      rw [List.filterMap_cons, List.filterMap_cons, List.getElem?_eq_none (by omega), List.getElem?_eq_none h2]
      exact ih
theorem slicePick_stepG (its : List Value) (lo st : Option Int) : slicePick its.toArray lo none st = (stepG its lo st).toArray := by
  unfold slicePick stepG
  simp only [List.size_toArray, List.getElem?_toArray]
def rStep (K : PySem.W.Frag) : V → Option Int → Option Int → Hp → VK → Prop := fun x lo st H Q => ∃ a xs, x = .ref a ∧ SqL K H a xs ∧ st ≠ some 0 ∧ (stepG xs lo st).length ≤ sizeLine ∧ ∀ p, H p = none → Q (.ref p) (upd H p (.lst (stepG xs lo st)))
section
variable {X : Cx} {T : Tb} {H0 : HZ} {Γ : List Mode} {a e : Expr} {lo : Option Expr} {st : Expr} {fa : EF} {fl fh : List D → Option (Option Int)} {ka : Knd} {pos p2 : Pos} {q : Q3} {te : TE} {tl ts : TO}
theorem pe_sliceS (he : PE X e te) (hl : PO X lo tl) (hu : PO X (some st) ts) : PE X (.Subscript e (.Slice lo none (some st) p2) pos) (tSl (rStep X.K) te tl ts) := by
  refine ⟨fun pins s σ H Q I h => ?_⟩
  refine Subscript_ (thn (he.run pins s σ H _ I h) fun v s1 ⟨x, H1, I1, r1, q1⟩ => ?_)
  refine wpAny_Slice (thn (hl.run pins s1 σ H1 _ I1 q1) fun vl s2 ⟨l, H2, I2, pl, q2⟩ => ?_)
  rw [evalPart_none]
  refine wpAny_pure (thn (hu.run pins s2 σ H2 _ I2 q2) fun vu s3 ⟨u, H3, I3, pu, q3⟩ => ?_)
  have I4 : Inv X pins σ H3 { s3 with heap := s3.heap.push { cls := .type "slice", data := .fields #[vl, .none, vu] } } := I3.kept (t' := s3.toks) fun b ob q => Heap.get?_push_of_some _ q
  obtain ⟨a, xs, rfl, hx, hne, hsz, q⟩ := q3
  cases r1
  obtain ⟨its, r, ht, hz⟩ := I4.list hx
  have hlen := r.length
  show wpAny (model X.prog X.w) X.A (subscriptTail e (.Slice lo none (some st) p2) (.ref a) (.ref s3.heap.objs.size)) (EP X pins σ Q) X.xe { s3 with heap := s3.heap.push { cls := .type "slice", data := .fields #[vl, .none, vu] } }
  refine tail_any (T := "list") (ops := [.ref a, .ref s3.heap.objs.size]) ht.isList.typeIs slot_list_getitem.lookup ?_ (by with_unfolding_all rfl)
  refine wpAny_getItem_list_slice ht.isList (Heap.IsSliceOf.new ..) pl .none pu hne ?_ (by rw [List.size_toArray] <;> omega)
  rw [slicePick_stepG]
  refine ⟨.ref _, _, I4.laid (o := .lst (stepG xs l u)) (fun b ob q => Heap.get?_push_of_some _ q) (Nat.le_refl _) ?_, rfl, q _ (I4.hok.fresh (Nat.le_refl _))⟩
  have hv : Vals (stepG xs l u) (stepG its l u) := by
    unfold stepG
    rw [hlen]
    exact Vals.pick r _
  exact ⟨hsz, _, 0, hv, Heap.get?_push_size _ rfl⟩
def gSlSt (x : D) (l s : Option Int) : Option D := match x with
  | .lst ds => if s ≠ some 0 ∧ (stepG ds l s).length ≤ 1000000 then some (.lst (stepG ds l s)) else none
  | _ => none
theorem RepsG.pick {K : PySem.W.Frag} {N : Addr → Prop} {F : Hp} {vs : List V} {ds : List D} (r : RepsG K T N F vs ds) : ∀ ks : List Nat, RepsG K T N F (ks.filterMap (vs[·]?)) (ks.filterMap (ds[·]?))
  | [] => .nil
  | k :: ks => by
    have ih := RepsG.pick r ks
    by_cases h : k < ds.length
    · have hd : ds[k]? = some ds[k] := List.getElem?_eq_getElem h
      obtain ⟨u, hu, ru⟩ := r.get hd
      rw [List.filterMap_cons, List.filterMap_cons, hd, hu]
      exact .cons ru ih
    · have h2 : vs.length ≤ k := by rw [r.length]; omega
      rw [List.filterMap_cons, List.filterMap_cons, List.getElem?_eq_none h2, List.getElem?_eq_none (show ds.length ≤ k by omega)]
      exact ih
theorem RepsG.step {K : PySem.W.Frag} {N : Addr → Prop} {F : Hp} {vs : List V} {ds : List D} (r : RepsG K T N F vs ds) (l h : Option Int) : RepsG K T N F (stepG vs l h) (stepG ds l h) := by
  unfold stepG
  rw [r.length]
  exact RepsG.pick r _
theorem de_slSt (ha : DE X T H0 Γ a fa ka) (hl : DO X T H0 Γ lo fl) (hh : DO X T H0 Γ (some st) fh) (hk : ka.its = some q := by rfl) (hp : ka.pers = true := by rfl) : DE X T H0 Γ (.Subscript a (.Slice lo none (some st) p2) pos) (eSl gSlSt fa fl fh) (.ol q) :=
  PE.wk (pe_sliceS ha hl hh) (sl_sem hp fun F O σ H ρ v x l h d Q R rv hg hq => by
    unfold gSlSt at hg
    split at hg
    · split at hg
      · rename_i hc
        cases hg
        obtain ⟨a1, vs, rfl, h1, h2⟩ := Rp.lst R rv hk
        have h3 := h2.step l h
        have hn := line63
        exact ⟨a1, vs, rfl, SqL.of h1, hc.1, by rw [h3.length, sizeLine_eq]; omega, fun p hp => new_lst R h3 hq p hp⟩
      · cases hg
    · cases hg)
end
end DL

/-! a dict that is locked while a statement walks it -/
namespace DL
open PySem PySem.Spec PyProof.Rows L2
section
variable {K : PySem.W.Frag} {T : Tb} {N N' : Addr → Prop} {F F' : Hp}
mutual
theorem RepG.monoN (e : Same F F') (hn : ∀ a o, F a = some o → N a → N' a) : ∀ {v : V} {d : D}, RepG K T N F v d → RepG K T N' F' v d
  | _, _, .non => .non
  | _, _, .bl b => .bl b
  | _, _, .int b => .int b
  | _, _, .str b => .str b
  | _, _, .tup h r => .tup (e _ _ h) (RepsG.monoN e hn r)
  | _, _, .lst h n r => .lst (e _ _ h) (hn _ _ h n) (RepsG.monoN e hn r)
  | _, _, .scr h r => .scr (same_sqS e h) (RepsG.monoN e hn r)
  | _, _, .ins h n q r => .ins (e _ _ h) (hn _ _ h n) q (RepsG.monoN e hn r)
  | _, _, .dic h n r => .dic (e _ _ h) (hn _ _ h n) (RepsG.monoN e hn r)
  | _, _, .dit h n r => .dit (e _ _ h) (hn _ _ h n) (RepsG.monoN e hn r)
  | _, _, .exn h x q r => .exn (e _ _ h) (x.monoS e.sm) q (RepsG.monoN e hn r)
theorem RepsG.monoN (e : Same F F') (hn : ∀ a o, F a = some o → N a → N' a) : ∀ {vs : List V} {ds : List D}, RepsG K T N F vs ds → RepsG K T N' F' vs ds
  | _, _, .nil => .nil
  | _, _, .cons h r => .cons (RepG.monoN e hn h) (RepsG.monoN e hn r)
end
/-- what is taken away is a locked dict: nothing rests on it -/
structure Thaw (F F' : Hp) (d : Addr) : Prop where
  at_ : ∃ od u, F d = some (.frz od u) ∧ (∀ xs, u ≠ .lst xs) ∧ ∀ xs, u ≠ .tup xs
  to : ∀ b, b ≠ d → F' b = F b
theorem Thaw.get {d : Addr} (w : Thaw F F' d) {b : Addr} {o : HO} (h : F b = some o) (hn : ∀ od u, o = .frz od u → (∃ xs, u = .lst xs) ∨ ∃ xs, u = .tup xs) : F' b = some o := by
  rw [w.to b, h]
  rintro rfl
  obtain ⟨od, u, h2, h3, h4⟩ := w.at_
  rw [h] at h2; cases h2
  rcases hn _ _ rfl with ⟨xs, e⟩ | ⟨xs, e⟩
  · exact h3 xs e
  · exact h4 xs e
theorem Thaw.sqS {d : Addr} (w : Thaw F F' d) {a : Addr} {xs : List V} (h : SqS K F a xs) : SqS K F' a xs := by
  rcases h with ⟨o, h⟩ | h
  · exact .inl ⟨o, w.get h fun od u e => by cases e; exact .inl ⟨_, rfl⟩⟩
  · exact .inr h
theorem Thaw.xd {d : Addr} (w : Thaw F F' d) {od : Option Addr} {fs : List (Str × V)} (h : XdAt F od fs) : XdAt F' od fs := by
  rcases h with h | ⟨dx, h1, h2⟩
  · exact .inl h
  · exact .inr ⟨dx, h1, w.get h2 fun od u e => nomatch e⟩
mutual
theorem RepG.thaw {d0 : Addr} (w : Thaw F F' d0) (hn : ∀ a, a ≠ d0 → N a → N' a) : ∀ {v : V} {d : D}, RepG K T N F v d → RepG K T N' F' v d
  | _, _, .non => .non
  | _, _, .bl b => .bl b
  | _, _, .int b => .int b
  | _, _, .str b => .str b
  | _, _, .tup h r => .tup (w.get h fun od u e => nomatch e) (RepsG.thaw w hn r)
  | _, _, .lst h n r => .lst (w.get h fun od u e => nomatch e) (hn _ (by rintro rfl; obtain ⟨od, u, h2, _⟩ := w.at_; rw [h] at h2; cases h2) n) (RepsG.thaw w hn r)
  | _, _, .scr h r => .scr (w.sqS h) (RepsG.thaw w hn r)
  | _, _, .ins h n q r => .ins (w.get h fun od u e => nomatch e) (hn _ (by rintro rfl; obtain ⟨od, u, h2, _⟩ := w.at_; rw [h] at h2; cases h2) n) q (RepsG.thaw w hn r)
  | _, _, .dic h n r => .dic (w.get h fun od u e => nomatch e) (hn _ (by rintro rfl; obtain ⟨od, u, h2, _⟩ := w.at_; rw [h] at h2; cases h2) n) (RepsG.thaw w hn r)
  | _, _, .dit h n r => .dit (w.get h fun od u e => nomatch e) (hn _ (by rintro rfl; obtain ⟨od, u, h2, _⟩ := w.at_; rw [h] at h2; cases h2) n) (RepsG.thaw w hn r)
  | _, _, .exn h x q r => .exn (w.get h fun od u e => nomatch e) (w.xd x) q (RepsG.thaw w hn r)
theorem RepsG.thaw {d0 : Addr} (w : Thaw F F' d0) (hn : ∀ a, a ≠ d0 → N a → N' a) : ∀ {vs : List V} {ds : List D}, RepsG K T N F vs ds → RepsG K T N' F' vs ds
  | _, _, .nil => .nil
  | _, _, .cons h r => .cons (RepG.thaw w hn h) (RepsG.thaw w hn r)
end
end
/-- a mode that has nothing to do with HZ.z -/
def okM : Mode → Bool
  | .os (.ins _ _) => false
  | .os (.ldk _) => false
  | .os (.ldt _) => false
  | .os (.lkl _) => false
  | .os (.prm _) => false
  | _ => true
section
variable {K : PySem.W.Frag} {T : Tb} {H0 H0' : HZ} {F F' H H' : Hp} {o o' : Addr → Prop}
theorem RowsR.conv (hr : ∀ {q vs ds}, Rqs K T H0 q F vs ds → Rqs K T H0' q F' vs ds) (hH : ∀ b, o b → H' b = H b) (ho : ∀ b, o b → o' b) {q : Q3} : ∀ {rows : List Addr} {rds : List (List D)}, RowsR K T H0 q F H o rows rds → RowsR K T H0' q F' H' o' rows rds
  | _, _, .nil => .nil
  | _, _, .cons ⟨h1, vs, h2, h3⟩ r => .cons ⟨ho _ h1, vs, by rw [hH _ h1]; exact h2, hr h3⟩ (RowsR.conv hr hH ho r)
theorem SlotR.conv {m : Mode} {sv : Option (Option V)} {dv : Option D} (hm : okM m = true) (hr1 : ∀ {q v d}, Rq K T H0 q F v d → Rq K T H0' q F' v d) (hr : ∀ {q vs ds}, Rqs K T H0 q F vs ds → Rqs K T H0' q F' vs ds)
    (hF : ∀ b vs, F b = some (.lst vs) → F' b = some (.lst vs)) (hH : ∀ b, o b → H' b = H b) (ho : ∀ b, o b → o' b) (h : SlotR K T H0 F H o sv dv m) : SlotR K T H0' F' H' o' sv dv m := by
  cases m with
  | no => trivial
  | fz k => obtain ⟨v, d, h1, h2, h3⟩ := h; exact ⟨v, d, h1, h2, hr1 h3⟩
  | fl k => obtain ⟨a, vs, ds, h1, h2, h3, h4⟩ := h; exact ⟨a, vs, ds, h1, h2, hF _ _ h3, hr h4⟩
  | ow k => obtain ⟨a, vs, ds, h1, h2, h3, h4, h5⟩ := h; exact ⟨a, vs, ds, h1, h2, by rw [hH _ h4]; exact h3, ho _ h4, hr h5⟩
  | os S =>
    obtain ⟨v, d, g1, g2, h⟩ := h
    refine ⟨v, d, g1, g2, ?_⟩
    cases S with
    | tbl q =>
      obtain ⟨a, rows, rds, h1, h2, h3, h4, h5, h6, h7⟩ := h
      exact ⟨a, rows, rds, h1, h2, by rw [hH _ h4]; exact h3, ho _ h4, h5, h6, RowsR.conv hr hH ho h7⟩
    | ins _ _ => cases hm
    | ldk _ => cases hm
    | ldt _ => cases hm
    | lkl _ => cases hm
    | prm _ => cases hm
    | odn q =>
      rcases h with h | ⟨a, kvs, ds, h1, h2, h3, h4, h5⟩
      · exact .inl h
      · exact .inr ⟨a, kvs, ds, h1, h2, by rw [hH _ h4]; exact h3, ho _ h4, hr h5⟩
    | dic q =>
      obtain ⟨a, kvs, ds, h1, h2, h3, h4, h5⟩ := h
      exact ⟨a, kvs, ds, h1, h2, by rw [hH _ h4]; exact h3, ho _ h4, hr h5⟩
    | dit q =>
      obtain ⟨a, kvs, ds, h1, h2, h3, h4, h5⟩ := h
      exact ⟨a, kvs, ds, h1, h2, by rw [hH _ h4]; exact h3, ho _ h4, hr h5⟩
end
/-- the outcome is no break, no continue -/
def NoB (f : SF) : Prop := ∀ ρ out, f ρ = some out → (∀ ρ', out ≠ .bk ρ') ∧ ∀ ρ', out ≠ .ct ρ'
theorem nob_set {i : Nat} {f : EF} : NoB (sSet i f) := fun ρ out h => by
  unfold sSet at h
  cases h1 : f ρ with
  | none => rw [h1] at h; cases h
  | some d => rw [h1] at h; cases h; exact ⟨(fun _ h => nomatch h), (fun _ h => nomatch h)⟩
theorem nob_loop {tg : D → List D → Option (List D)} {b : SF} {cl : List Nat} : ∀ (items : List D) (ρ : List D) (out : Out), loopD tg b cl items ρ = some out → (∀ ρ', out ≠ .bk ρ') ∧ ∀ ρ', out ≠ .ct ρ'
  | [], ρ, out, h => by unfold loopD at h; cases h; exact ⟨(fun _ h => nomatch h), (fun _ h => nomatch h)⟩
  | x :: xs, ρ, out, h => by
    unfold loopD at h
    cases h1 : tg x ρ with
    | none => rw [h1] at h; cases h
    | some ρ1 =>
      rw [h1] at h
      simp only [Option.bind_some] at h
      cases h2 : b ρ1 with
      | none => rw [h2] at h; cases h
      | some o =>
        rw [h2] at h
        simp only [Option.bind_some] at h
        cases o with
        | nx ρ2 => exact nob_loop xs _ out h
        | ct ρ2 => exact nob_loop xs _ out h
        | bk ρ2 => cases h; exact ⟨(fun _ h => nomatch h), (fun _ h => nomatch h)⟩
        | rt d => cases h; exact ⟨(fun _ h => nomatch h), (fun _ h => nomatch h)⟩
        | ex c es ρ2 => cases h; exact ⟨(fun _ h => nomatch h), (fun _ h => nomatch h)⟩
theorem nob_for {fi : List D → Option (List D)} {tg : D → List D → Option (List D)} {b : SF} {cl : List Nat} : NoB (sFor fi tg b cl) := fun ρ out h => by
  unfold sFor at h
  cases h1 : fi ρ with
  | none => rw [h1] at h; cases h
  | some items => rw [h1] at h; exact nob_loop items _ out h
section
variable {X : Cx} {T : Tb} {H0 : HZ} {Γ Γn : List Mode} {J : Jm} {st : Stmt} {f : SF} {q : Q3}
theorem ps_lockG {t' : TS} (hh : ∀ E σ H, t' E σ H → ∃ d u, H d = some u ∧ Mut (some u) ∧ ∀ od, ∃ t : TS, PS X st t ∧ t ⟨fun σ' H' => H' d = some (.frz od u) ∧ E.nx σ' (upd H' d u), fun v H' => H' d = some (.frz od u) ∧ E.rt v (upd H' d u), fun σ' H' => H' d = some (.frz od u) ∧ E.bk σ' (upd H' d u), fun σ' H' => H' d = some (.frz od u) ∧ E.ct σ' (upd H' d u)⟩ σ (upd H d (.frz od u))) : PS X st t' := by
  refine ⟨fun pins s σ H D I hw => ?_⟩
  obtain ⟨d, u, hd, mu, hw⟩ := hh _ _ _ hw
  obtain ⟨od, I1⟩ := I.lock hd mu
  obtain ⟨t, ht, hw⟩ := hw od
  refine thn (ht.run pins s σ _ _ I1 hw) fun f s1 q => ?_
  cases f with
  | next => obtain ⟨σ', H', I2, e, q⟩ := q; exact ⟨σ', _, I2.unlock e (I.nofrz hd mu), q⟩
  | brk => obtain ⟨σ', H', I2, e, q⟩ := q; exact ⟨σ', _, I2.unlock e (I.nofrz hd mu), q⟩
  | cont => obtain ⟨σ', H', I2, e, q⟩ := q; exact ⟨σ', _, I2.unlock e (I.nofrz hd mu), q⟩
  | ret v => obtain ⟨x, σ', H', I2, r, e, q⟩ := q; exact ⟨x, σ', _, I2.unlock e (I.nofrz hd mu), r, q⟩
theorem tabs_upd {T : List (Addr × Str)} {H : Hp} {a : Addr} {o o' : HO} (t : LamX.Tabs T H) (h : H a = some o) (hn : isT o = false) (hc : ∀ c q, o ≠ LamX.CodeO c q := by intro _ _ h; cases h) : LamX.Tabs T (upd H a o') := by
  intro p hp
  obtain ⟨ps, h1, h2, h3⟩ := t p hp
  have hne : p.1 ≠ a := by
    intro e
    rw [e, h] at h1
    cases h1; cases hn
  refine ⟨ps, by rw [upd_ne hne]; exact h1, h2, fun pos cv hcv => ?_⟩
  obtain ⟨c, e1, e2⟩ := h3 pos cv hcv
  have hne2 : c ≠ a := by
    intro e
    rw [e, h] at e2
    exact hc _ _ (Option.some.inj e2)
  exact ⟨c, e1, by rw [upd_ne hne2]; exact e2⟩
/-- the dict at the slot i is locked while the statement runs -/
theorem ds_lockK (i : Nat) (hm : Γ[i]? = some (.os (.dic q))) (hmn : Γn[i]? = some (.os (.dic q))) (ho : (Γ.set i .no).all okM = true) (hon : (Γn.set i .no).all okM = true) (hb : NoB f)
    (h : ∀ H1 : HZ, DS X T H1 (Γ.set i (.os (.ldk q))) st f (Γn.set i (.os (.ldk q))) ⟨[], [], J.r, [], fun _ _ _ _ => True⟩) : DS X T H0 Γ st f Γn J := by
  refine ps_lockG fun E σ H ⟨F, O, ρ, out, R, hf, hq⟩ => ?_
  obtain ⟨v, d0, h1, h2, a, kvs, ds, e1, e2, h3, h4, h5⟩ := R.sl i _ hm
  subst e1; subst e2
  have fa : F a = none := (R.on i a h4).1
  have h0a : H0.h a = none := by
    cases hz : H0.h a with
    | none => rfl
    | some o => rw [R.h0 _ _ hz] at fa; cases fa
  refine ⟨a, _, h3, trivial, fun od => ⟨_, h ⟨upd H0.h a (.frz od (.dK kvs)), a, []⟩, ?_⟩⟩
  have hi : i < Γ.length := (List.getElem?_eq_some_iff.mp hm).1
  have hin : i < Γn.length := (List.getElem?_eq_some_iff.mp hmn).1
  have okG : ∀ {Γ : List Mode} {j : Nat} {m : Mode}, (Γ.set i .no).all okM = true → j ≠ i → Γ[j]? = some m → okM m = true := fun {Γ j m} hall hj hjm =>
    List.all_eq_true.mp hall m (List.mem_of_getElem? (i := j) (by rw [List.getElem?_set_ne (Ne.symm hj)]; exact hjm))
  have sF : Same F (upd F a (.frz od (.dK kvs))) := fun b o e => by rw [upd_ne (ne_of_none e fa)]; exact e
  have nk1 : ∀ (q : Q3) (b : Addr) (o : HO), F b = some o → NK H0 q b → NK (upd H0.h a (.frz od (.dK kvs))) q b := fun q b o e n => by
    cases q with
    | A => exact n
    | L => show upd H0.h a _ b = none; rw [upd_ne (ne_of_none e fa)]; exact n
    | U => trivial
  have R1 : Rl X.K T ⟨upd H0.h a (.frz od (.dK kvs)), a, []⟩ (Γ.set i (.os (.ldk q))) (upd F a (.frz od (.dK kvs))) (fun j b => O j b ∧ b ≠ a) σ (upd H a (.frz od (.dK kvs))) ρ := by
    refine ⟨fun b o e => ?_, fun b o e => ?_, fun j b hj => ?_, fun j k b hj hk => R.od j k b hj.1 hk.1, by rw [List.length_set]; exact R.ls, by rw [List.length_set]; exact R.lr, fun j m hj => ?_, fun b o e => ?_, tabs_upd R.tb h3 rfl⟩
    · have e : upd H0.h a (.frz od (.dK kvs)) b = some o := e
      by_cases hb : b = a
      · subst hb; rw [upd_same] at e ⊢; exact e
      · rw [upd_ne hb] at e ⊢; exact R.h0 _ _ e
    · by_cases hb : b = a
      · subst hb; rw [upd_same] at e ⊢; exact e
      · rw [upd_ne hb] at e ⊢; exact R.fh _ _ e
    · obtain ⟨g1, o, g2, g3⟩ := R.on j b hj.1
      exact ⟨by rw [upd_ne hj.2]; exact g1, o, by rw [upd_ne hj.2]; exact g2, g3⟩
    · by_cases hji : j = i
      · subst hji
        rw [List.getElem?_set_self hi] at hj
        cases hj
        exact ⟨.ref a, _, h1, h2, od, kvs, ds, rfl, rfl, upd_same, h5.monoN sF (nk1 q)⟩
      · rw [List.getElem?_set_ne (Ne.symm hji)] at hj
        have hne : ∀ b, O j b → b ≠ a := fun b hb z => hji (R.od j i b hb (z ▸ h4))
        exact (R.sl j m hj).conv (okG ho hji hj) (fun r => r.monoN sF (nk1 _)) (fun r => r.monoN sF (nk1 _)) (fun b vs e => sF _ _ e) (fun b hb => upd_ne (hne b hb)) fun b hb => ⟨hb, hne b hb⟩
    · by_cases hb : b = a
      · subst hb; rw [upd_same] at e; cases e; rfl
      · rw [upd_ne hb] at e; exact R.nF _ _ e
  refine ⟨_, _, ρ, out, R1, hf, ?_⟩
  have back : ∀ {F' H' : Hp}, Same (upd H0.h a (.frz od (.dK kvs))) F' → Same F' H' → F' a = some (.frz od (.dK kvs)) ∧ H' a = some (.frz od (.dK kvs)) ∧ Thaw F' (cut F' (· = a)) a ∧ Same H0 (cut F' (· = a)) ∧ Same (cut F' (· = a)) (upd H' a (.dK kvs)) := fun {F' H'} s1 s2 => by
    have g : F' a = some (.frz od (.dK kvs)) := s1 _ _ upd_same
    refine ⟨g, s2 _ _ g, ⟨⟨od, _, g, (fun _ e => nomatch e), (fun _ e => nomatch e)⟩, fun b hb => cut_out (S := fun x => x = a) hb⟩, fun b o e => ?_, fun b o e => ?_⟩
    · have hb : b ≠ a := ne_of_none e h0a
      rw [cut_out (S := fun x => x = a) hb]
      exact s1 _ _ (by rw [upd_ne hb]; exact e)
    · by_cases hb : b = a
      · subst hb; rw [cut_in (S := fun x => x = b) rfl] at e; cases e
      · rw [cut_out (S := fun x => x = a) hb] at e
        rw [upd_ne hb]; exact s2 _ _ e
  have nk2 : ∀ (q : Q3) (b : Addr), b ≠ a → NK (upd H0.h a (.frz od (.dK kvs))) q b → NK H0 q b := fun q b hb n => by
    cases q with
    | A => exact n
    | L =>
      have n : upd H0.h a _ b = none := n
      rw [upd_ne hb] at n; exact n
    | U => trivial
  cases out with
  | bk ρ' => exact absurd rfl ((hb ρ _ hf).1 ρ')
  | ct ρ' => exact absurd rfl ((hb ρ _ hf).2 ρ')
  | ex c es ρ' => exact fun _ _ _ _ _ _ _ _ _ => trivial
  | rt d =>
    intro H' v hr
    have hr : RetOk X.K T (upd H0.h a (.frz od (.dK kvs))) H' J.r v d := hr
    have hq2 : ∀ H'' v, RetOk X.K T H0.h H'' J.r v d → E.rt v H'' := hq
    generalize J.r = rk at hr hq2
    cases rk with
    | q q' =>
      obtain ⟨F', s1, s2, ⟨nt, tb⟩, r⟩ := hr
      obtain ⟨g1, g2, w, s3, s4⟩ := back s1 s2
      exact ⟨g2, hq2 _ v ⟨cut F' (· = a), s3, s4, ⟨nt.cut, tabs_upd tb g2 rfl⟩, RepG.thaw w (nk2 q') r⟩⟩
    | ol q' =>
      obtain ⟨F', a2, vs, es, z1, z2, s1, s2, ⟨nt, tb⟩, z3, z4, r⟩ := hr
      obtain ⟨g1, g2, w, s3, s4⟩ := back s1 s2
      have hne : a2 ≠ a := by rintro rfl; rw [g1] at z4; cases z4
      exact ⟨g2, hq2 _ v ⟨cut F' (· = a), a2, vs, es, z1, z2, s3, s4, ⟨nt.cut, tabs_upd tb g2 rfl⟩, by rw [upd_ne hne]; exact z3, by rw [cut_out (S := fun x => x = a) hne]; exact z4, RepsG.thaw w (nk2 q') r⟩⟩
    | pl z =>
      obtain ⟨F', a2, vs, es, z1, z2, s1, s2, ⟨nt, tb⟩, z3, z4, r⟩ := hr
      obtain ⟨g1, g2, w, s3, s4⟩ := back s1 s2
      have hne : a2 ≠ a := by rintro rfl; rw [s2 _ _ g1] at z3; cases z3
      exact ⟨g2, hq2 _ v ⟨cut F' (· = a), a2, vs, es, z1, z2, s3, s4, ⟨nt.cut, tabs_upd tb g2 rfl⟩, by rw [upd_ne hne]; exact z3, z4.imp (fun z => by rw [cut_out (S := fun x => x = a) hne]; exact z) id, RepsG.thaw w (nk2 .A) r⟩⟩
    | od S =>
      obtain ⟨F', a2, z1, s1, s2, ⟨nt, tb⟩, z4, r⟩ := hr
      obtain ⟨g1, g2, w, s3, s4⟩ := back s1 s2
      have hne : a2 ≠ a := by rintro rfl; rw [g1] at z4; cases z4
      refine ⟨g2, hq2 _ v ⟨cut F' (· = a), a2, z1, s3, s4, ⟨nt.cut, tabs_upd tb g2 rfl⟩, by rw [cut_out (S := fun x => x = a) hne]; exact z4, ?_⟩⟩
      cases S with
      | dic q' => obtain ⟨k2, d2, y1, y2, y3⟩ := r; exact ⟨k2, d2, y1, by rw [upd_ne hne]; exact y2, RepsG.thaw w (nk2 q') y3⟩
      | dit q' => obtain ⟨k2, d2, y1, y2, y3⟩ := r; exact ⟨k2, d2, y1, by rw [upd_ne hne]; exact y2, RepsG.thaw w (nk2 q') y3⟩
      | tbl _ => exact r.elim
      | ins _ _ => exact r.elim
      | ldk _ => exact r.elim
      | ldt _ => exact r.elim
      | lkl _ => exact r.elim
      | odn _ => exact r.elim
      | prm _ => exact r.elim
  | nx ρ' =>
    intro F' O' σ' H' sFF R'
    obtain ⟨g1, g2, w, s3, s4⟩ := back R'.h0 R'.fh
    refine ⟨g2, hq (cut F' (· = a)) (fun j b => O' j b ∨ (j = i ∧ b = a)) σ' _ (fun b o e => ?_) ?_⟩
    · have hb : b ≠ a := ne_of_none e fa
      rw [cut_out (S := fun x => x = a) hb]
      exact sFF _ _ (by rw [upd_ne hb]; exact e)
    have nOa : ∀ j b, O' j b → b ≠ a := fun j b hb z => by
      have := (R'.on j b hb).1
      rw [z, g1] at this; cases this
    refine ⟨s3, s4, fun j b hj => ?_, fun j k b hj hk => ?_, by have := R'.ls; rw [List.length_set] at this; exact this, by have := R'.lr; rw [List.length_set] at this; exact this, fun j m hj => ?_, R'.nF.cut, tabs_upd R'.tb g2 rfl⟩
    · rcases hj with hj | ⟨_, rfl⟩
      · obtain ⟨z1, o, z2, z3⟩ := R'.on j b hj
        exact ⟨by rw [cut_out (S := fun x => x = a) (nOa j b hj)]; exact z1, o, by rw [upd_ne (nOa j b hj)]; exact z2, z3⟩
      · exact ⟨cut_in (S := fun x => x = b) rfl, _, upd_same, rfl⟩
    · rcases hj with hj | ⟨e1, z1⟩ <;> rcases hk with hk | ⟨e2, z2⟩
      · exact R'.od j k b hj hk
      · exact absurd z2 (nOa j b hj)
      · exact absurd z1 (nOa k b hk)
      · rw [e1, e2]
    · by_cases hji : j = i
      · subst hji
        rw [hmn] at hj
        cases hj
        obtain ⟨v, d, z1, z2, od', kvs', ds', z3, z4, z5, z6⟩ := R'.sl j _ (List.getElem?_set_self hin)
        have z5 : F' a = some (.frz od' (.dK kvs')) := z5
        rw [g1] at z5
        cases z5
        exact ⟨v, d, z1, z2, a, kvs, ds', z3, z4, upd_same, .inr ⟨rfl, rfl⟩, RepsG.thaw w (nk2 q) z6⟩
      · have hj2 : (Γn.set i (.os (.ldk q)))[j]? = some m := by rw [List.getElem?_set_ne (Ne.symm hji)]; exact hj
        exact (R'.sl j m hj2).conv (okG hon hji hj) (fun r => RepG.thaw w (nk2 _) r) (fun r => RepsG.thaw w (nk2 _) r) (fun b vs e => w.get e fun od u z => nomatch z) (fun b hb => upd_ne (nOa j b hb)) fun b hb => .inl hb
/-- the locked dict is read -/
theorem dd_lk (i : Nat) (hm : Γ[i]? = some (.os (.ldk q))) {x : Str} {pos : Pos} (h : PE X (.Name x pos) (tVar i)) : DD X T H0 Γ (.Name x pos) (eV i) q := PE.wk h fun σ H Q ⟨F, O, ρ, d, R, hf, hq⟩ => by
  obtain ⟨v, d', h1, h2, od, kvs, ds, e1, e2, h3, h5⟩ := R.sl i _ hm
  have : ρ[i]? = some d := hf
  rw [h2] at this; cases this
  subst e1; subst e2
  exact ⟨_, h1, hq F H _ R (.refl _) (.refl _) fun _ _ _ _ => ⟨_, rfl, .inl ⟨kvs, ds, rfl, .inr ⟨od, R.fh _ _ h3⟩, h5⟩⟩⟩
def kD : Key → D
  | .inl i => .int i
  | .inr s => .str s
theorem kD_rep {K : PySem.W.Frag} {N : Addr → Prop} {F : Hp} (k : Key) : RepG K T N F (kV k) (kD k) := by cases k with
  | inl i => exact .int i
  | inr s => exact .str s
/-- for k in d -/
def iKeysD (f : EF) : List D → Option (List D) := fun ρ => (f ρ).bind fun d => match d with
  | .dic ks _ => some (ks.map kD)
  | _ => none
/-- for k, x in d.items() -/
def iItemsD (f : EF) : List D → Option (List D) := fun ρ => (f ρ).bind fun d => match d with
  | .dic ks ds => some ((ks.zip ds).map fun p => .tup [kD p.1, p.2])
  | _ => none
theorem di_keys (i : Nat) (hm : Γ[i]? = some (.os (.ldk q))) {x : Str} {pos : Pos} {tg : Expr} {p : Q3} {c : Bool} (h : PE X (.Name x pos) (tVar i)) : DI X T H0 Γ tg (.Name x pos) (iKeysD (eV i)) p c := PI.wk (pi_keys h) fun σ H R0 ⟨F, O, ρ, items, R, hf, hq⟩ => by
  obtain ⟨v, d', h1, h2, od, kvs, ds, e1, e2, h3, h5⟩ := R.sl i _ hm
  unfold iKeysD eV at hf
  rw [h2] at hf
  subst e1; subst e2
  cases hf
  refine ⟨_, h1, H0.z, od, rfl, .inl ⟨kvs, R.fh _ _ h3, hq F H _ R (.refl _) (.refl _) fun j F2 H2 g1 g2 _ => ?_⟩⟩
  have hz : H2 H0.z = some (.frz od (.dK kvs)) := g2 _ _ (g1 _ _ h3)
  refine ⟨fun d hd => ?_, fun hl => ⟨hz, by simpa using hl⟩⟩
  rw [List.map_map, List.getElem?_map] at hd
  cases hk : kvs[j]? with
  | none => rw [hk] at hd; cases hd
  | some kv =>
    rw [hk] at hd
    cases hd
    refine ⟨⟨hz, (List.getElem?_eq_some_iff.mp hk).1⟩, fun x H3 ⟨e1, k, v, e2, e3⟩ => ?_⟩
    subst e1; subst e3
    rw [hk] at e2; cases e2
    exact ⟨.refl _, F2, .refl _, g2, ⟨fun b h _ => h, fun n => n⟩, kD_rep k⟩
theorem di_items (i : Nat) (hm : Γ[i]? = some (.os (.ldk q))) {x : Str} {pos apos cpos tpos : Pos} {elts : List Expr} {kk : Nat} {c : Bool} (h : PE X (.Name x pos) (tVar i)) (hbase : attributeBase (.Name x pos) "items" X.env (eval (.Name x pos) X.env) = eval (.Name x pos) X.env := by rfl) (hline : (apos.endLine == cpos.line) = true := by rfl) :
    DI X T H0 Γ (.Tuple elts kk tpos) (.Call (.Attribute (.Name x pos) "items" apos) [] [] cpos) (iItemsD (eV i)) q c := PI.wk (pi_items h hbase hline) fun σ H R0 ⟨F, O, ρ, items, R, hf, hq⟩ => by
  obtain ⟨v, d', h1, h2, od, kvs, ds, e1, e2, h3, h5⟩ := R.sl i _ hm
  unfold iItemsD eV at hf
  rw [h2] at hf
  subst e1; subst e2
  cases hf
  refine ⟨_, h1, H0.z, od, kvs, rfl, R.fh _ _ h3, hq F H _ R (.refl _) (.refl _) fun j F2 H2 g1 g2 _ => ?_⟩
  have hz : H2 H0.z = some (.frz od (.dK kvs)) := g2 _ _ (g1 _ _ h3)
  have hlen : kvs.length = ds.length := by have := h5.length; rwa [List.length_map] at this
  refine ⟨fun d hd => ?_, fun hl => ⟨hz, by simp [hlen] at hl; omega⟩⟩
  rw [List.getElem?_map] at hd
  cases hk : kvs[j]? with
  | none =>
    have : ((kvs.map (·.1)).zip ds)[j]? = none := List.getElem?_eq_none (by rw [List.length_zip, List.length_map, ← hlen]; have := List.getElem?_eq_none_iff.mp hk; omega)
    rw [this] at hd; cases hd
  | some kv =>
    have hj := (List.getElem?_eq_some_iff.mp hk).1
    have hdj : ds[j]? = some (ds[j]'(by omega)) := List.getElem?_eq_getElem _
    obtain ⟨w, hw, rw'⟩ := h5.get hdj
    rw [List.getElem?_map, hk] at hw
    cases hw
    have hzp : ((kvs.map (·.1)).zip ds)[j]? = some (kv.1, ds[j]'(by omega)) := by
      rw [List.getElem?_zip_eq_some]
      exact ⟨by rw [List.getElem?_map, hk]; rfl, hdj⟩
    rw [hzp] at hd
    cases hd
    refine ⟨⟨hz, hj⟩, fun x H3 ⟨T0, k, v, e2, e3, e4, e5⟩ => ?_⟩
    subst e3; subst e5
    rw [hk] at e2; cases e2
    have f2 : F2 T0 = none := by
      cases hz2 : F2 T0 with
      | none => rfl
      | some o => rw [g2 _ _ hz2] at e4; cases e4
    have sF : Same F2 (upd F2 T0 (.tup [kV k, v])) := fun b o e => by rw [upd_ne (ne_of_none e f2)]; exact e
    refine ⟨fun b o e => by rw [upd_ne (ne_of_none e e4)]; exact e, upd F2 T0 (.tup [kV k, v]), sF, fun b o e => ?_, ⟨fun b hb hb2 => ?_, fun n b o e => ?_⟩, .tup upd_same (.cons (kD_rep k) (.cons ((rw'.mono (g1.trans sF) fun _ n => n)) .nil))⟩
    · by_cases hb : b = T0
      · subst hb; rw [upd_same] at e ⊢; exact e
      · rw [upd_ne hb] at e ⊢; exact g2 _ _ e
    · rw [upd_ne (by rintro rfl; obtain ⟨o, z, _⟩ := hb2; rw [e4] at z; cases z)]; exact hb
    · by_cases hb : b = T0
      · subst hb; rw [upd_same] at e; cases e; rfl
      · rw [upd_ne hb] at e; exact n _ _ e
end
end DL

/-! d.clear() -/
namespace DL
open PySem PySem.Spec PyProof.Rows L2
section
variable {X : Cx} {T : Tb} {H0 : HZ} {Γ Γn : List Mode} {J : Jm} {e : Expr} {pos : Pos} {q : Q3}
def sClrD (i : Nat) : SF := fun ρ => match ρ[i]? with
  | some (.dic _ _) => some (.nx (ρ.set i (.dic [] [])))
  | _ => none
theorem ds_clearD (i : Nat) (hm : Γ[i]? = some (.os (.dic q))) (h : PE X e (tBM0 X.K "dict" rDClear (tVar i))) (hs : swapsWith e none pos.line X.env = pure false := by rfl) : DS X T H0 Γ (.Expr e pos) (sClrD i) Γ J :=
  PS.wk (ps_expr h hs) fun E σ H ⟨F, O, ρ, out, R, hf, hq⟩ => by
    obtain ⟨v, d, h1, h2, a, kvs, ds, e1, e2, h3, h4, h5⟩ := R.sl i _ hm
    subst e1; subst e2
    unfold sClrD at hf
    rw [h2] at hf
    cases hf
    refine ⟨.ref a, h1, .inr (.inr (.inl ⟨rfl, .inl ⟨kvs, h3⟩⟩)), a, kvs, rfl, rfl, h3, ?_⟩
    have R2 := R.ups (O' := O) (S' := .dic q) (u := .dK []) (d := .dic [] []) hm h4 rfl (fun j b h => .inl h) (fun j b h => h) ⟨_, h1, a, [], [], rfl, rfl, upd_same, h4, .nil⟩
    rw [set_same hm] at R2
    exact hq F O σ _ (.refl _) R2
end
end DL

/-! a call whose first argument may raise -/
namespace DL
open PySem PySem.Spec PyProof.Rows L2
inductive ResA where
  | ok (ds : List D) | ex (c : Nat) (es : List D)
def tDAX (K : PySem.W.Frag) (T : Tb) (H0 : HZ) (Γ : List Mode) (f : List D → Option ResA) (W : WX) : TA := fun σ H Q =>
  ∃ F O ρ r, Rl K T H0 Γ F O σ H ρ ∧ f ρ = some r ∧ (∀ ds, r = .ok ds → ∀ F' H' vs, Rl K T H0 Γ F' O σ H' ρ → Same F F' → Sm H H' → RUs K T H' vs ds → Q vs H') ∧
    ∀ c es, r = .ex c es → ∀ F' H' cls od, Rl K T H0 Γ F' O σ H' ρ → Same F F' → ExR K T F' cls od c es → W cls od σ H'
section
variable {X : Cx} {T : Tb} {H0 : HZ} {Γ : List Mode} {e : Expr} {es : List Expr} {f : XF} {k : Knd} {pos po : Pos} {fs : List D → Option (List D)} {fa : List D → Option ResA} {W : WX}
def xaCons (f : XF) (fs : List D → Option (List D)) : List D → Option ResA := fun ρ => (f ρ).bind fun r => match r with
  | .rt d => (fs ρ).map fun ds => .ok (d :: ds)
  | .ex c es => some (.ex c es)
theorem dax_cons (ha : DX X T H0 Γ e f k W) (hr : DA X T H0 Γ es fs) (hs : starEach (e :: es) X.env = (false, eval e X.env) :: starEach es X.env := by rfl) : PA X (e :: es) (tDAX X.K T H0 Γ (xaCons f fs) W) :=
  PA.wk (pa_cons ha hr hs) fun σ H Q ⟨F, O, ρ, r, R, hf, hq, hx⟩ => by
    unfold xaCons at hf
    cases h1 : f ρ with
    | none => rw [h1] at hf; cases hf
    | some r1 =>
      rw [h1] at hf
      simp only [Option.bind_some] at hf
      cases r1 with
      | rt x =>
        cases h2 : fs ρ with
        | none => rw [h2] at hf; cases hf
        | some xs =>
          rw [h2] at hf
          cases hf
          refine ⟨F, O, ρ, .rt x, R, h1, fun d hd F1 H1 v R1 s1 t1 r1 => ?_, fun c es e => nomatch e⟩
          cases hd
          exact ⟨F1, O, ρ, xs, R1, h2, fun F2 H2 vs R2 s2 t2 r2 => hq _ rfl F2 H2 _ R2 (s1.trans s2) (t1.trans t2) (.cons (t2.rU (R1.toB r1)) r2)⟩
      | ex c es =>
        cases hf
        exact ⟨F, O, ρ, .ex c es, R, h1, (fun d hd => nomatch hd), fun c' es' e => by cases e; exact hx c es rfl⟩
def xCallP (φ : List D → Option D) (fa : List D → Option ResA) : XF := fun ρ => (fa ρ).bind fun r => match r with
  | .ok ds => (φ ds).map .rt
  | .ex c es => some (.ex c es)
theorem dx_callP {j k : Nat} {x : Str} {ps : List Str} {φ : List D → Option D} {rk : RK} (h : OkF X.prog X.w X.K X.mg X.base T j x ps φ rk) (hr : Room k X.A) (hg : Gl X x) (ha : PA X (e :: es) (tDAX X.K T H0 Γ fa W)) (hn : ∀ ρ ds, fa ρ = some (.ok ds) → ds.length = ps.length) (hj : j ≤ k := by decide) (hk : rk.ok = true := by rfl)
    (hdb : (x == ("__debug__" : Str)) = false := by decide) (he : starEach (e :: es) X.env = (false, eval e X.env) :: starEach es X.env := by rfl) (hpl : (backTo pos (starEach es X.env)).any (·.1) = false := by rfl) :
    DX X T H0 Γ (.Call (.Name x po) (e :: es) [] pos) (xCallP φ fa) rk.knd W := by
  obtain ⟨f, fd, h1, h2, h3, h4⟩ := h.ex
  refine PE.wk (pe_call h4 (hr.mono hj) hg h1 h2 h3 .nil pass0 ha hdb he hpl) ?_
  rintro σ H Q ⟨F, O, ρ, r, R, hf, hq, hx⟩
  unfold xCallP at hf
  cases h5 : fa ρ with
  | none => rw [h5] at hf; cases hf
  | some r1 =>
    rw [h5] at hf
    simp only [Option.bind_some] at hf
    cases r1 with
    | ok ds =>
      have hf : Option.map Res.rt (φ ds) = some r := hf
      cases h6 : φ ds with
      | none => rw [h6] at hf; cases hf
      | some d =>
        rw [h6] at hf
        cases hf
        refine ⟨F, O, ρ, .ok ds, R, h5, fun ds' e F1 H1 vs R1 s1 t1 r1 => ?_, fun c es e => nomatch e⟩
        cases e
        show spD X.K T ps.length φ rk (vs ++ []) H1 Q _
        rw [List.append_nil]
        refine ⟨by rw [r1.length]; exact hn _ _ h5, ds, d, R1.tb, r1, h6, fun H' v r => ?_⟩
        obtain ⟨F2, R2, s2, t2, r2⟩ := ret_in R1 r hk
        exact hq d rfl F2 H' v R2 (s1.trans s2) (t1.trans t2) r2
    | ex c es =>
      cases hf
      exact ⟨F, O, ρ, .ex c es, R, h5, (fun ds e => nomatch e), fun c' es' e => by cases e; exact hx c es rfl⟩
def xCallQ (φ : List D → Option Res) (fa : List D → Option ResA) : XF := fun ρ => (fa ρ).bind fun r => match r with
  | .ok ds => φ ds
  | .ex c es => some (.ex c es)
theorem dx_callQ {j k : Nat} {x : Str} {ps : List Str} {φ : List D → Option Res} {rk : RK} (h : OkFX X.prog X.w X.K X.mg X.base T j x ps φ rk) (tk : Takes X W) (hr : Room k X.A) (hg : Gl X x) (ha : PA X (e :: es) (tDAX X.K T H0 Γ fa W)) (hn : ∀ ρ ds, fa ρ = some (.ok ds) → ds.length = ps.length) (hj : j ≤ k := by decide) (hk : rk.ok = true := by rfl)
    (hdb : (x == ("__debug__" : Str)) = false := by decide) (he : starEach (e :: es) X.env = (false, eval e X.env) :: starEach es X.env := by rfl) (hpl : (backTo pos (starEach es X.env)).any (·.1) = false := by rfl) :
    DX X T H0 Γ (.Call (.Name x po) (e :: es) [] pos) (xCallQ φ fa) rk.knd W := by
  obtain ⟨f, fd, h1, h2, h3, h4⟩ := h.ex
  refine PE.wk (pe_callS h4 (hr.mono hj) hg h1 h2 h3 (fun σ => passAt tk σ) ha hdb he hpl) ?_
  rintro σ H Q ⟨F, O, ρ, r, R, hf, hq, hx⟩
  unfold xCallQ at hf
  cases h5 : fa ρ with
  | none => rw [h5] at hf; cases hf
  | some r1 =>
    rw [h5] at hf
    simp only [Option.bind_some] at hf
    cases r1 with
    | ok ds =>
      have hf : φ ds = some r := hf
      refine ⟨F, O, ρ, .ok ds, R, h5, fun ds' e F1 H1 vs R1 s1 t1 r1 => ?_, fun c es e => nomatch e⟩
      cases e
      refine ⟨by rw [r1.length]; exact hn _ _ h5, ds, r, R1.tb, r1, hf, fun d hd H' v r => ?_, fun c es hd H' cls od r => ?_⟩
      · obtain ⟨F2, R2, s2, t2, r2⟩ := ret_in R1 r hk
        exact hq d hd F2 H' v R2 (s1.trans s2) (t1.trans t2) r2
      · obtain ⟨F2, R2, s2, r2⟩ := ex_in R1 r
        exact hx c es hd F2 H' cls od R2 (s1.trans s2) r2
    | ex c es =>
      cases hf
      exact ⟨F, O, ρ, .ex c es, R, h5, (fun ds e => nomatch e), fun c' es' e => by cases e; exact hx c es rfl⟩
theorem xaC_len {f : XF} {n : Nat} (h : ∀ ρ ds, fs ρ = some ds → ds.length = n) : ∀ ρ ds, xaCons f fs ρ = some (.ok ds) → ds.length = n + 1 := fun ρ ds e => by
  unfold xaCons at e
  cases h1 : f ρ with
  | none => rw [h1] at e; cases e
  | some r =>
    rw [h1] at e
    simp only [Option.bind_some] at e
    cases r with
    | rt d =>
      cases h2 : fs ρ with
      | none => rw [h2] at e; cases e
      | some xs => rw [h2] at e; cases e; rw [List.length_cons, h _ _ h2]
    | ex c es => cases e
end
end DL

/-! an owned list that a loop walks and that stays owned -/
namespace DL
open PySem PySem.Spec PyProof.Rows L2
section
variable {X : Cx} {T : Tb} {H0 : HZ} {Γ Γ1 Γn : List Mode} {J : Jm} {st : Stmt} {f : SF} {q p : Q3} {tg iter : Expr} {pos : Pos} {fi : List D → Option (List D)}
/-- the list at the slot i is lent to the statement -/
theorem ds_lockL (i : Nat) (hm : Γ[i]? = some (.ow q)) (hmn : Γn[i]? = some (.ow q)) (ho : (Γ.set i .no).all okM = true) (hon : (Γn.set i .no).all okM = true) (hb : NoB f)
    (h : ∀ H1 : HZ, DS X T H1 (Γ.set i (.os (.lkl q))) st f (Γn.set i (.os (.lkl q))) ⟨[], [], J.r, [], fun _ _ _ _ => True⟩) : DS X T H0 Γ st f Γn J := by
  refine ⟨fun pins s σ H E I ⟨F, O, ρ, out, R, hf, hq⟩ => ?_⟩
  obtain ⟨a, vs, ds, h1, h2, h3, h4, h5⟩ := R.sl i _ hm
  have hi : i < Γ.length := (List.getElem?_eq_some_iff.mp hm).1
  have hin : i < Γn.length := (List.getElem?_eq_some_iff.mp hmn).1
  have okG : ∀ {Γ : List Mode} {j : Nat} {m : Mode}, (Γ.set i .no).all okM = true → j ≠ i → Γ[j]? = some m → okM m = true := fun {Γ j m} hall hj hjm =>
    List.all_eq_true.mp hall m (List.mem_of_getElem? (i := j) (by rw [List.getElem?_set_ne (Ne.symm hj)]; exact hjm))
  have R1 : Rl X.K T ⟨H0.h, a, vs⟩ (Γ.set i (.os (.lkl q))) F O σ H ρ := by
    refine ⟨R.h0, R.fh, R.on, R.od, by rw [List.length_set]; exact R.ls, by rw [List.length_set]; exact R.lr, fun j m hj => ?_, R.nF, R.tb⟩
    by_cases hji : j = i
    · subst hji
      rw [List.getElem?_set_self hi] at hj
      cases hj
      exact ⟨.ref a, .lst ds, h1, h2, ds, rfl, rfl, h3, h4, h5⟩
    · rw [List.getElem?_set_ne (Ne.symm hji)] at hj
      exact SlotR.conv (H0 := H0) (H0' := ⟨H0.h, a, vs⟩) (h := R.sl j m hj) (okG ho hji hj) (fun r => r) (fun r => r) (fun _ _ e => e) (fun _ _ => rfl) fun _ h => h
  refine (h ⟨H0.h, a, vs⟩).run pins s σ H E I ⟨F, O, ρ, out, R1, hf, ?_⟩
  cases out with
  | bk ρ' => exact absurd rfl ((hb ρ _ hf).1 ρ')
  | ct ρ' => exact absurd rfl ((hb ρ _ hf).2 ρ')
  | ex c es ρ' => exact fun _ _ _ _ _ _ _ _ _ => trivial
  | rt d => exact hq
  | nx ρ' =>
    intro F' O' σ' H' s' R'
    refine hq F' O' σ' H' s' ⟨R'.h0, R'.fh, R'.on, R'.od, by have := R'.ls; rw [List.length_set] at this; exact this, by have := R'.lr; rw [List.length_set] at this; exact this, fun j m hj => ?_, R'.nF, R'.tb⟩
    by_cases hji : j = i
    · subst hji
      rw [hmn] at hj
      cases hj
      obtain ⟨v, d, z1, z2, ds', z3, z4, z5, z6, z7⟩ := R'.sl j _ (List.getElem?_set_self hin)
      subst z3; subst z4
      exact ⟨a, vs, ds', z1, z2, z5, z6, z7⟩
    · have hj2 : (Γn.set i (.os (.lkl q)))[j]? = some m := by rw [List.getElem?_set_ne (Ne.symm hji)]; exact hj
      exact SlotR.conv (H0 := ⟨H0.h, a, vs⟩) (H0' := H0) (h := R'.sl j m hj2) (okG hon hji hj) (fun r => r) (fun r => r) (fun _ _ e => e) (fun _ _ => rfl) fun _ h => h
/-- a loop whose iterator stands on what the slots own -/
theorem ds_forW {ti : TI} {gg : TG} {vs : List Nat} {tgd : D → List D → Option (List D)} {body : List Stmt} {cl : List Nat} (hp : PassesOwn (model X.prog X.w) X.A X.env X.xe) (hc : X.calm = true) (hi : PI X tg iter ti)
    (hti : ∀ F O σ H ρ items, Rl X.K T H0 Γ F O σ H ρ → fi ρ = some items → ∃ J1 : It, (∀ R' : It → Hp → Prop, R' J1 H → ti σ H R') ∧
      ∀ i F2 O2 σ2 H2 ρ2, Same F F2 → Rl X.K T H0 Γ F2 O2 σ2 H2 ρ2 →
        (∀ d, items[i]? = some d → J1.go i H2 ∧ ∀ x H3, J1.yld i H2 x H3 → Same H2 H3 ∧ ∃ F3, Same F2 F3 ∧ Same F3 H3 ∧ ((∀ b, F2 b = none → (∃ o, H2 b = some o ∧ isMut o = true) → F3 b = none) ∧ (NoT F2 → NoT F3)) ∧ Rq X.K T H0 q F3 x d) ∧ (items.length ≤ i → J1.stop i H2))
    (hg : PG X tg gg) (hs : TgS X.K T H0 Γ gg vs tgd q Γ1) (hb : DSs X T H0 Γ1 body f Γ ⟨Γ, Γ, J.r, J.x, J.w⟩)
    (hcl : cl.all (fun i => decide (Γ[i]? = some .no)) = true) (hfs : ∀ x, foldedSetIterable iter X.env x = pure x := by intro _; rfl) : DS X T H0 Γ (.For tg iter body [] pos) (sFor fi tgd f cl) Γ J :=
  PS.wk (ps_for hp hc hi hg hb hfs) fun E σ H ⟨F, O, ρ, out, R, hf, hq⟩ => by
    unfold sFor at hf
    cases h1 : fi ρ with
    | none => rw [h1] at hf; cases hf
    | some items =>
      rw [h1] at hf
      simp only [Option.bind_some] at hf
      obtain ⟨J1, hJ, ok⟩ := hti F O σ H ρ items R h1
      refine hJ _ ?_
      refine ⟨fun i m σ H => m = items.length - i ∧ i ≤ items.length ∧ ∃ F2 O2 ρ2 out2, Same F F2 ∧ Rl X.K T H0 Γ F2 O2 σ H ρ2 ∧ loopD tgd f cl (items.drop i) ρ2 = some out2 ∧ Fin X.K T H0 F2 Γ J E out2,
        ⟨items.length, by simp, Nat.zero_le _, F, O, clrs cl ρ, out, .refl _, R.clr hcl, by simpa using hf, hq⟩, ?_⟩
      rintro i m σ2 H2 ⟨rfl, hi, F2, O2, ρ2, out2, s2, R2, hl, hq2⟩
      obtain ⟨ok1, ok2⟩ := ok i F2 O2 σ2 H2 ρ2 s2 R2
      by_cases hlt : i < items.length
      · obtain ⟨hgo, hy⟩ := ok1 items[i] (List.getElem?_eq_getElem hlt)
        rw [List.drop_eq_getElem_cons hlt] at hl
        unfold loopD at hl
        cases h3 : tgd items[i] ρ2 with
        | none => rw [h3] at hl; cases hl
        | some ρ3 =>
          rw [h3] at hl
          simp only [Option.bind_some] at hl
          cases h4 : f ρ3 with
          | none => rw [h4] at hl; cases hl
          | some o4 =>
            rw [h4] at hl
            simp only [Option.bind_some] at hl
            refine .inr ⟨hgo, fun σ5 H5 => ∃ F5 O5 ρ5 out5, Same F F5 ∧ Rl X.K T H0 Γ F5 O5 σ5 H5 ρ5 ∧ loopD tgd f cl (items.drop (i + 1)) ρ5 = some out5 ∧ Fin X.K T H0 F5 Γ J E out5,
              fun σ5 H5 h5 => ⟨items.length - (i + 1), by omega, rfl, hlt, h5⟩, fun x H3 hx => ?_⟩
            obtain ⟨t3, F3, u3, v3, w3, r3⟩ := hy x H3 hx
            have R3 : Rl X.K T H0 Γ F3 O2 σ2 H3 ρ2 := (R2.growN t3).more u3 v3 (w3.2 R2.nF) fun j b hb => by
              obtain ⟨z1, o, z2, z3⟩ := R2.on j b hb
              exact w3.1 b z1 ⟨o, z2, z3⟩
            refine hs F3 O2 σ2 H3 ρ2 x _ ρ3 _ R3 r3 h3 fun σ4 R4 _ _ => ⟨F3, O2, ρ3, o4, R4, h4, ?_⟩
            cases o4 with
            | nx ρ' => exact fun F6 O6 σ6 H6 s6 R6 => ⟨F6, O6, _, out2, (s2.trans u3).trans s6, R6.clr hcl, hl, hq2.from (u3.trans s6)⟩
            | ct ρ' => exact fun F6 O6 σ6 H6 s6 R6 => ⟨F6, O6, _, out2, (s2.trans u3).trans s6, R6.clr hcl, hl, hq2.from (u3.trans s6)⟩
            | bk ρ' =>
              cases hl
              exact fun F6 O6 σ6 H6 s6 R6 => hq2 F6 O6 σ6 H6 (u3.trans s6) (R6.clr hcl)
            | rt d =>
              cases hl
              exact hq2
            | ex c es ρ' =>
              cases hl
              exact fun F6 O6 σ6 H6 cls od s6 R6 x6 => hq2 F6 O6 σ6 H6 cls od (u3.trans s6) R6 x6
      · have : i = items.length := by omega
        subst this
        rw [List.drop_length] at hl
        cases hl
        exact .inl ⟨ok2 (Nat.le_refl _), hq2 F2 O2 σ2 H2 (.refl _) R2⟩
theorem lk_at {K : PySem.W.Frag} {F H : Hp} {O : Own} {σ : L2.St} {ρ : List D} {i : Nat} (R : Rl K T H0 Γ F O σ H ρ) (hm : Γ[i]? = some (.os (.lkl q))) : σ[i]? = some (some (.ref H0.z)) ∧ H H0.z = some (.lst H0.l) ∧ ∃ ds, ρ[i]? = some (.lst ds) ∧ Rqs K T H0 q F H0.l ds := by
  obtain ⟨v, d, z1, z2, ds, z3, z4, z5, z6, z7⟩ := R.sl i _ hm
  subst z3; subst z4
  exact ⟨z1, z5, ds, z2, z7⟩
/-- for x in v, v lent -/
theorem ds_forL (i : Nat) (hm : Γ[i]? = some (.os (.lkl q))) {x : Str} {po : Pos} (h : PE X (.Name x po) (tVar i)) {gg : TG} {vs : List Nat} {tgd : D → List D → Option (List D)} {body : List Stmt} {cl : List Nat} (hp : PassesOwn (model X.prog X.w) X.A X.env X.xe) (hc : X.calm = true)
    (hg : PG X tg gg) (hs : TgS X.K T H0 Γ gg vs tgd q Γ1) (hb : DSs X T H0 Γ1 body f Γ ⟨Γ, Γ, J.r, J.x, J.w⟩)
    (hcl : cl.all (fun i => decide (Γ[i]? = some .no)) = true) (hfs : ∀ y, foldedSetIterable (.Name x po) X.env y = pure y := by intro _; rfl) : DS X T H0 Γ (.For tg (.Name x po) body [] pos) (sFor (iSeq (eV i)) tgd f cl) Γ J := by
  refine ds_forW (q := q) hp hc (pi_list h) (fun F O σ H ρ items R hf => ?_) hg hs hb hcl hfs
  obtain ⟨h1, h2, ds, h3, h4⟩ := lk_at R hm
  unfold iSeq eV at hf
  rw [h3] at hf
  cases hf
  refine ⟨Itl X.K H0.z, fun R' hR => ⟨_, h1, H0.z, rfl, ⟨H0.l, .inl (.inl h2)⟩, hR⟩, fun j F2 O2 σ2 H2 ρ2 s2 R2 => ?_⟩
  obtain ⟨_, g2, _⟩ := lk_at R2 hm
  have hs2 : SqL X.K H2 H0.z H0.l := .inl (.inl g2)
  refine ⟨fun d hd => ?_, fun hl => ⟨H0.l, hs2, by rw [h4.length]; exact hl⟩⟩
  obtain ⟨v, hv, rv⟩ := h4.get hd
  refine ⟨⟨H0.l, v, hs2, hv⟩, fun x H3 ⟨e1, e2⟩ => ?_⟩
  subst e1
  have := e2 _ hs2
  rw [hv] at this; cases this
  exact ⟨.refl _, F2, .refl _, R2.fh, ⟨fun b h _ => h, fun n => n⟩, s2.rq rv⟩
/-- for x in reversed(v), v lent -/
theorem ds_forLR (i : Nat) (hm : Γ[i]? = some (.os (.lkl q))) {x : Str} {po po2 pos2 : Pos} (hg1 : Gl X "reversed") (hm1 : X.mg "reversed" = none) (h : PE X (.Name x po) (tVar i)) {gg : TG} {vs : List Nat} {tgd : D → List D → Option (List D)} {body : List Stmt} {cl : List Nat} (hp : PassesOwn (model X.prog X.w) X.A X.env X.xe) (hc : X.calm = true)
    (hg : PG X tg gg) (hs : TgS X.K T H0 Γ gg vs tgd q Γ1) (hb : DSs X T H0 Γ1 body f Γ ⟨Γ, Γ, J.r, J.x, J.w⟩)
    (hcl : cl.all (fun i => decide (Γ[i]? = some .no)) = true) (hst : starEach [Expr.Name x po] X.env = (false, eval (.Name x po) X.env) :: starEach [] X.env := by rfl)
    (hfs : ∀ y, foldedSetIterable (.Call (.Name "reversed" po2) [.Name x po] [] pos2) X.env y = pure y := by intro _; rfl) : DS X T H0 Γ (.For tg (.Call (.Name "reversed" po2) [.Name x po] [] pos2) body [] pos) (sFor (iRv (eV i)) tgd f cl) Γ J := by
  refine ds_forW (q := q) hp hc (RT.pi_revA hg1 hm1 h hst) (fun F O σ H ρ items R hf => ?_) hg hs hb hcl hfs
  obtain ⟨h1, h2, ds, h3, h4⟩ := lk_at R hm
  unfold iRv eV at hf
  rw [h3] at hf
  cases hf
  refine ⟨Itv X.K H0.z H0.l.length, fun R' hR => ⟨_, h1, H0.z, H0.l, rfl, .inl ⟨.inl (.inl h2), hR⟩⟩, fun j F2 O2 σ2 H2 ρ2 s2 R2 => ?_⟩
  obtain ⟨_, g2, _⟩ := lk_at R2 hm
  have hs2 : SqL X.K H2 H0.z H0.l := .inl (.inl g2)
  have hlen := h4.length
  refine ⟨fun d hd => ?_, fun hl => by rw [List.length_reverse] at hl; show H0.l.length ≤ j; omega⟩
  have hj : j < ds.length := by have := (List.getElem?_eq_some_iff.mp hd).1; rwa [List.length_reverse] at this
  rw [List.getElem?_reverse hj] at hd
  obtain ⟨v, hv, rv⟩ := h4.get hd
  rw [← hlen] at hv
  refine ⟨⟨by omega, H0.l, v, hs2, hv⟩, fun x H3 ⟨e1, e2⟩ => ?_⟩
  subst e1
  have := e2 _ hs2
  rw [hv] at this; cases this
  exact ⟨.refl _, F2, .refl _, R2.fh, ⟨fun b h _ => h, fun n => n⟩, s2.rq rv⟩
end
end DL

/-! tuple(range(n)) -/
namespace DL
open PySem PySem.Spec PyProof.Rows L2
section
variable {X : Cx} {T : Tb} {H0 : HZ} {Γ : List Mode} {a : Expr} {fa : EF} {ka : Knd} {pos po p2 q2 : Pos} {q : Q3}
def gTrg1 (x : D) : Option D := i1 (fun j => if small 62 j ∧ j ≤ 1000000 then some (.tup (rangeD 0 j)) else none) x
theorem de_trg1 (hc : X.calm = true) (hg : Gl X "tuple") (hm : X.mg "tuple" = none) (hg2 : Gl X "range") (hm2 : X.mg "range" = none) (ha : DE X T H0 Γ a fa ka)
    (hs : starEach [a] X.env = (false, eval a X.env) :: starEach [] X.env := by rfl) (hs2 : starEach [Expr.Call (.Name "range" p2) [a] [] q2] X.env = (false, eval (Expr.Call (.Name "range" p2) [a] [] q2) X.env) :: starEach [] X.env := by rfl) :
    DE X T H0 Γ (.Call (.Name "tuple" po) [.Call (.Name "range" p2) [a] [] q2] [] pos) (e1 gTrg1 fa) (.q q) :=
  PE.wk (pe_tupRg hc hg hm (prg_1 hg2 hm2 ha hs) hs2) fun σ H Q ⟨F, O, ρ, d, R, hf, hq⟩ => by
    unfold e1 at hf
    cases h1 : fa ρ with
    | none => rw [h1] at hf; cases hf
    | some x =>
      rw [h1] at hf
      simp only [Option.bind_some] at hf
      refine ⟨F, O, ρ, x, R, h1, fun F1 H1 v R1 s1 t1 r1 => ?_⟩
      unfold gTrg1 i1 at hf
      split at hf
      · rename_i j
        dsimp only at hf
        split at hf
        · rename_i hj
          cases hf
          rw [r1.int]
          refine ⟨j, rfl, rgOk_of (by decide) hj.1 (by omega), fun u hu => ?_⟩
          obtain ⟨R2, s2, t2⟩ := R1.laid (o := .tup (rgV 0 j)) hu
          exact hq _ _ _ R2 (s1.trans s2) (t1.trans t2) (RepG.tup upd_same (s2.rqs (rg_reps 0 j)))
        · cases hf
      · cases hf
end
end DL

/-! sorted of a list of tuples of ints, any number of them -/
namespace DL
open PySem PySem.Spec PyProof.Rows L2
section
variable {prog : Program} {w : World} {A : Around} {E : Value → Shared → Prop} {s : Shared}
theorem kat_lexI {fin : Bool} {Q : Bool → Shared → Prop} : ∀ (xs ys : List Value) (ns ms : List Int) (i : Nat), IntsAre xs ns → IntsAre ys ms → fin = decide (xs.length < ys.length) → Q (HT.lexLt ns ms) s → PySem.W.KatLex prog w A true fin Q (xs.zip ys) i s := by
  intro xs
  induction xs with
  | nil =>
    intro ys ns ms i hx hy hf hq
    cases hx
    rw [List.zip_nil_left]
    refine PySem.W.kat_nil ?_
    cases hy with
    | nil => rw [hf]; exact hq
    | cons m u r' => rw [hf]; exact hq
  | cons x xs ih =>
    intro ys ns ms i hx hy hf hq
    cases hx with
    | cons n t r =>
      cases hy with
      | nil =>
        rw [List.zip_nil_right]
        refine PySem.W.kat_nil ?_
        have : fin = false := by rw [hf]; exact decide_eq_false (by simp)
        rw [this]
        exact hq
      | cons m u r' =>
        rw [List.zip_cons_cons]
        rw [HT.lexLt_cons] at hq
        refine PySem.W.kat_cons (SeqAt.EqAt.int_int n t m u prog w _ _ ?_)
        refine PySem.W.kat_go (fun e1 => ?_) (fun e1 => ?_)
        · have ex : n = m := by simpa using e1
          rw [if_pos ex] at hq
          refine PySem.W.kat_yes (ih _ _ _ (i + 1) r r' ?_ hq)
          rw [hf, List.length_cons, List.length_cons]
          simp
        · have ex : ¬ n = m := by simpa using e1
          rw [if_neg ex] at hq
          cases i with
          | zero => exact PySem.W.kat_no (oneLt_int hq)
          | succ i =>
            refine PySem.W.kat_no ?_
            have e : (true && (i + 1 == 0)) = false := by simp
            rw [e]
            exact PySem.W.kat_one _ _ (PyProof.Rows.lt_int hq)
theorem firsts_L {h : Heap} {k : Value → List Int} : ∀ vs : List Value, (∀ v ∈ vs, TS.TupInts h v (k v) ∧ k v ≠ []) → ∃ fs, PySem.W.KatTups h vs fs ∧ fs.length = vs.length ∧ ∀ f, f ∈ fs → ∃ n t, f = Value.int n t
  | [], _ => ⟨[], PySem.W.KatTups.nil, rfl, fun f hf => by simp at hf⟩
  | v :: vs, x => by
    obtain ⟨fs, kk, hl, hi⟩ := firsts_L vs fun u hu => x u (List.mem_cons_of_mem _ hu)
    obtain ⟨⟨a, xs, rfl, ⟨o, ho, hc, n, hdt⟩, i⟩, hn⟩ := x v (List.mem_cons_self ..)
    obtain ⟨y, ys, e⟩ : ∃ y ys, xs.toList = y :: ys := by
      cases q : xs.toList with
      | nil =>
        rw [q] at i
        cases hk : k (Value.ref a) with
        | nil => exact absurd hk hn
        | cons z zs => rw [hk] at i; cases i
      | cons y ys => exact ⟨y, ys, rfl⟩
    obtain ⟨m, t, hy⟩ := i.all y (by rw [e]; exact List.mem_cons_self ..)
    refine ⟨y :: fs, PySem.W.KatTups.cons ho hc hdt ?_ kk, by simp [hl], ?_⟩
    · have z := congrArg (fun l : List Value => l[0]?) e
      simpa using z
    · intro f hf
      rcases List.mem_cons.mp hf with rfl | hf
      · exact ⟨m, t, hy⟩
      · exact hi f hf
theorem tups_cmp {vs : List Value} {k : Value → List Int} (hv : ∀ v ∈ vs, TS.TupInts s.heap v (k v) ∧ k v ≠ []) : SrtO.Cmp prog w A s (tuples' true) (fun p => p.1 ∈ vs) (SrtO.lt2 fun v u => HT.lexLt (k v) (k u)) := by
  intro p q hm hm'
  obtain ⟨a, xs, e1, ⟨o, ho, hc, n, hdt⟩, i⟩ := (hv _ hm).1
  obtain ⟨a', ys, e2, ⟨o', ho', hc', n', hdt'⟩, i'⟩ := (hv _ hm').1
  show wpAny (model prog w) A (keyLt' (tuples' true) p.1 q.1) (fun r s' => s' = s ∧ r = HT.lexLt (k p.1) (k q.1)) (fun _ _ => False) s
  generalize k p.1 = kp at i
  generalize k q.1 = kq at i'
  rw [e1, e2]
  refine PySem.W.kat_lt ho hdt ho' hdt' (kat_lexI _ _ _ _ 0 i i' ?_ ⟨rfl, rfl⟩)
  rw [Array.length_toList, Array.length_toList]
theorem tups_sortable {a : Addr} {vs : List Value} {k : Value → List Int} (h2 : 2 ≤ vs.length) (hv : ∀ v ∈ vs, TS.TupInts s.heap v (k v) ∧ k v ≠ []) (ha : ∀ o, s.heap.get? a = some o → o.cls ≠ .type "tuple") : SrtO.SortableO prog w A s a vs fun v u => HT.lexLt (k v) (k u) := by
  intro h' keep
  have hv' : ∀ v ∈ vs, TS.TupInts h' v (k v) ∧ k v ≠ [] := fun v hm => ⟨(hv v hm).1.keeps fun b o e c => keep b o (fun z => by subst z; exact ha o e c) e, (hv v hm).2⟩
  obtain ⟨fs, h3, h4, h5⟩ := firsts_L vs hv'
  refine ⟨tuples' true, fun Q E hq => ?_, tups_cmp (s := { s with heap := h' }) hv'⟩
  refine PySem.W.kat_kind (T := .type "int") h3 (by omega) (fun f hm => ?_) (by rfl) ?_
  · obtain ⟨x, t, rfl⟩ := h5 f hm
    exact PySem.W.Looks.now
  · have e : (Value.type "int" != Value.type "tuple") = true := by first | decide +kernel | rfl | decide
    rw [e]
    exact hq
end
abbrev ltL (k : V → List Int) (x y : V) : Bool := HT.lexLt (k x) (k y)
/-- sorted(xs), xs a list of tuples of ints of any length -/
def rSortL (K : PySem.W.Frag) : List V → Hp → VK → Prop := fun vs H Q => ∃ (a : Addr) (xs : List V) (k : V → List Int), vs = [V.ref a] ∧ SqL K H a xs ∧ (∀ x ∈ xs, TupI K H x (k x) ∧ k x ≠ []) ∧
  ∀ ys p, SrtO.Srtd (ltL k) ys → SrtO.Stb (ltL k) ys xs → H p = none → Q (.ref p) (upd H p (.lst ys))
section
variable {X : Cx}
theorem cr_sortL : CallR X (.builtin "sorted") (rSortL X.K) := by
  intro pins s σ H vs us Q I r h
  obtain ⟨a, xs, k, rfl, hs, hx, q⟩ := h
  obtain ⟨its, rv, hl, hz⟩ := I.list hs
  rw [Vals.ref1 r]
  obtain ⟨e1, e2⟩ := bkV_refs rv fun x m => by
    obtain ⟨⟨t, e, _⟩, _⟩ := hx x m
    exact ⟨t, e⟩
  have hv : ∀ v ∈ its, TS.TupInts s.heap v (k (bkV v)) ∧ k (bkV v) ≠ [] := fun v hv => by
    obtain ⟨t, rfl⟩ := e2 v hv
    have hm : V.ref t ∈ xs := by
      rw [e1]
      exact List.mem_map.mpr ⟨_, hv, rfl⟩
    obtain ⟨⟨t', e, ht⟩, hb⟩ := hx _ hm
    cases e
    exact ⟨tupI_raw I ht, hb⟩
  refine SrtO.sorted_ord (NtL.swo_lexL fun v => k (bkV v)) hl.isList (by rw [← rv.length]; exact hz) (fun h2 h₁ a' ha' kk => ?_) fun out h1 h2 => ?_
  · refine tups_sortable (s := { s with heap := h₁ }) (by simpa using h2) (fun v hm => ⟨(hv v hm).1.keeps fun b o e _ => (kk b o e).2, (hv v hm).2⟩) fun o e => ?_
    have e' : some o = some (seqObj "list" its.toArray 0) := e.symm.trans ha'
    cases e'
    intro c
    exact absurd (Value.type.inj c) (by decide)
  · have h3 : ∀ u ∈ out, ∃ a, u = Value.ref a := fun u hu => e2 u (h2.perm.mem_iff.mp hu)
    obtain ⟨ep, he'⟩ := PyProof.Rows.sortedAll_at s.heap its out.toArray
    have hb : SrtO.Stb (ltL k) (out.map bkV) xs := by
      rw [e1]
      exact SrtO.Stb.map (NtL.swo_lexL k) bkV h2
    have hlen : (out.map bkV).length ≤ sizeLine := by
      rw [hb.len]
      exact hz
    refine ⟨.ref _, upd H (s.heap.objs.size + 1) (.lst (out.map bkV)), I.laid (t' := s.toks) (fun _ _ => PyProof.Rows.sortedAll_old) (Nat.le_succ _) ⟨hlen, out, ep, bkV_vals h3, he'⟩, rfl, q _ _ (SrtO.srtd_map h1) hb (I.hok.fresh (Nat.le_succ _))⟩
end
/-! the denotation -/
def tupI1 (d : D) : Option (List Int) := match d with
  | .tup es => (intsOf es).bind fun l => if l = [] then none else some l
  | _ => none
def tupsI : List D → Option (List (List Int))
  | [] => some []
  | d :: r => (tupI1 d).bind fun l => (tupsI r).bind fun ls => some (l :: ls)
def tIn (l : List Int) : D := .tup (l.map .int)
theorem tupsI_eq : ∀ {ds : List D} {ls : List (List Int)}, tupsI ds = some ls → ds = ls.map tIn ∧ ∀ l ∈ ls, l ≠ []
  | [], _, h => by
    cases h
    exact ⟨rfl, (fun _ h => nomatch h)⟩
  | d :: r, ls, h => by
    unfold tupsI tupI1 at h
    split at h
    · rename_i es
      cases h1 : intsOf es with
      | none => rw [h1] at h; cases h
      | some l =>
        rw [h1] at h
        simp only [Option.bind_some] at h
        by_cases hl : l = []
        · rw [if_pos hl] at h; cases h
        · rw [if_neg hl] at h
          simp only [Option.bind_some] at h
          cases h2 : tupsI r with
          | none => rw [h2] at h; cases h
          | some ls' =>
            rw [h2] at h
            cases h
            obtain ⟨q1, q2⟩ := tupsI_eq h2
            have e : es = l.map D.int := intsOf_eq h1
            refine ⟨by rw [q1, e]; rfl, fun x hx => ?_⟩
            rcases List.mem_cons.mp hx with rfl | hx
            · exact hl
            · exact q2 x hx
    · cases h
theorem tupsI_map : ∀ {ls : List (List Int)}, (∀ l ∈ ls, l ≠ []) → tupsI (ls.map tIn) = some ls
  | [], _ => rfl
  | l :: ls, h => by
    rw [List.map_cons]
    unfold tupsI tupI1 tIn
    dsimp only
    rw [intsOf_map, Option.bind_some, if_neg (h l List.mem_cons_self), Option.bind_some]
    have := tupsI_map (ls := ls) fun x hx => h x (List.mem_cons_of_mem _ hx)
    unfold tIn at this
    rw [this]; rfl
def leL (p q : List Int) : Bool := !HT.lexLt q p
theorem lex_asymm : ∀ p q : List Int, HT.lexLt p q = true → HT.lexLt q p = false
  | [], [], h => by cases h
  | [], _ :: _, _ => rfl
  | _ :: _, [], h => by cases h
  | x :: xs, y :: ys, h => by
    rw [HT.lexLt_cons] at h ⊢
    by_cases e : x = y
    · subst e
      rw [if_pos rfl] at h ⊢
      exact lex_asymm xs ys h
    · rw [if_neg e] at h
      rw [if_neg (fun z => e z.symm)]
      have := of_decide_eq_true h
      exact decide_eq_false (by omega)
theorem lex_anti : ∀ {p q : List Int}, HT.lexLt p q = false → HT.lexLt q p = false → p = q
  | [], [], _, _ => rfl
  | [], _ :: _, h, _ => by cases h
  | _ :: _, [], _, h => by cases h
  | x :: xs, y :: ys, h1, h2 => by
    rw [HT.lexLt_cons] at h1 h2
    by_cases e : x = y
    · subst e
      rw [if_pos rfl] at h1 h2
      rw [lex_anti h1 h2]
    · rw [if_neg e] at h1
      rw [if_neg (fun z => e z.symm)] at h2
      have := of_decide_eq_false h1
      have := of_decide_eq_false h2
      omega
def sortL (ps : List (List Int)) : List (List Int) := srtB leL ps
theorem sortL_perm (ps : List (List Int)) : (sortL ps).Perm ps := srtB_perm _ _
theorem leL_trans {a b c : List Int} (h1 : leL a b = true) (h2 : leL b c = true) : leL a c = true := by
  unfold leL at *
  rw [Bool.not_eq_true'] at *
  exact (NtL.swo_lexL (fun l : List Int => l)).tr a b c h1 h2
theorem sortL_pw (ps : List (List Int)) : (sortL ps).Pairwise fun a b => leL a b = true :=
  srtB_pw (le := leL) (fun a b c h1 h2 => leL_trans h1 h2) (fun a b => by
    unfold leL
    cases h : HT.lexLt b a with
    | false => rfl
    | true => rw [lex_asymm _ _ h]; rfl) ps
theorem sortL_uniq {ns ms : List (List Int)} (h1 : ms.Perm ns) (h2 : ms.Pairwise fun a b => leL a b = true) : ms = sortL ns :=
  (h1.trans (sortL_perm ns).symm).eq_of_pairwise (fun a b _ _ h3 h4 => by
    unfold leL at h3 h4
    rw [Bool.not_eq_true'] at h3 h4
    exact lex_anti h4 h3) h2 (sortL_pw ns)
def gSortL (x : D) : Option D := match x with
  | .lst ds => (tupsI ds).bind fun ps => some (.lst ((sortL ps).map tIn))
  | _ => none
section
variable {X : Cx} {T : Tb} {H0 : HZ} {Γ : List Mode} {a : Expr} {fa : EF} {ka : Knd} {pos po : Pos} {q : Q3}
def viN : V → Int
  | .int i => i
  | _ => 0
def kOfL (H : Hp) (v : V) : List Int := match v with
  | .ref t => match H t with
    | some (.tup vs) => vs.map viN
    | _ => []
  | _ => []
theorem kOfL_eq {H : Hp} {t : Addr} {l : List Int} (h : H t = some (.tup (l.map V.int))) : kOfL H (.ref t) = l := by
  unfold kOfL
  dsimp only
  rw [h]
  dsimp only
  rw [List.map_map]
  exact (List.map_congr_left fun _ _ => rfl).trans (List.map_id l)
theorem reps_ints {K : PySem.W.Frag} {N : Addr → Prop} {F : Hp} : ∀ {vs : List V} {l : List Int}, RepsG K T N F vs (l.map D.int) → vs = l.map V.int
  | [], [], _ => rfl
  | _ :: _, [], h => by cases h
  | [], _ :: _, h => by cases h
  | v :: vs, i :: l, h => by
    cases h with
    | cons r rs =>
      cases r
      rw [reps_ints rs]; rfl
theorem tD_inj : ∀ {a b : List Int}, tIn a = tIn b → a = b := fun {a b} e => by
  unfold tIn at e
  injection e with e
  have := congrArg (List.map fun d => match d with | D.int i => i | _ => 0) e
  rw [List.map_map, List.map_map] at this
  have g : ((fun d => match d with | D.int i => i | _ => 0) ∘ D.int) = (id : Int → Int) := rfl
  rw [g, List.map_id, List.map_id] at this
  exact this
theorem de_sortL (hg : Gl X "sorted") (hm : X.mg "sorted" = none) (ha : DE X T H0 Γ a fa ka) (hk : ka.its = some q := by rfl) (hs : starEach [a] X.env = (false, eval a X.env) :: starEach [] X.env := by rfl) : DE X T H0 Γ (.Call (.Name "sorted" po) [a] [] pos) (e1 gSortL fa) (.ol q) :=
  PE.wk (pe_callB cr_sortL hg hm (by decide +kernel) (pa_cons ha pa_nil hs) (he := hs)) (callB_semK fun F O σ H ρ v x d Q R rv hg hq => by
    unfold gSortL at hg
    split at hg
    · rename_i ds
      cases h1 : tupsI ds with
      | none => rw [h1] at hg; cases hg
      | some ps =>
        rw [h1] at hg
        simp only [Option.bind_some] at hg
        cases hg
        obtain ⟨e, hne⟩ := tupsI_eq h1
        subst e
        obtain ⟨a1, vs, rfl, h2, h3⟩ := Rp.lst R rv hk
        have tupOf : ∀ {v : V} {p : List Int}, Rq X.K T H0 q F v (tIn p) → ∃ t, v = .ref t ∧ H t = some (.tup (p.map V.int)) := fun {v p} r => by
          cases r with
          | @tup a us ds h4 h5 =>
            refine ⟨a, rfl, ?_⟩
            rw [← reps_ints h5]
            exact R.fh _ _ h4
        refine ⟨a1, vs, kOfL H, rfl, SqL.of h2, fun x hx => ?_, fun ys p hw hp hn => ?_⟩
        · obtain ⟨d, hd, rd⟩ := h3.mem hx
          obtain ⟨p, hp, rfl⟩ := List.mem_map.mp hd
          obtain ⟨t, rfl, ht⟩ := tupOf rd
          rw [kOfL_eq ht]
          exact ⟨⟨t, rfl, .inl (.inl ht)⟩, hne p hp⟩
        · obtain ⟨es, h4, h5⟩ := RepsG.perm hp.perm h3
          obtain ⟨qs, h6, rfl⟩ := perm_map (f := tIn) (fun a b e => tD_inj e) h4
          have hs : qs.Pairwise fun a b => leL a b = true := by
            clear hp h4 h6 hq hn h3
            induction qs generalizing ys with
            | nil => exact .nil
            | cons p qs ih =>
              cases h5 with
              | @cons v vs _ _ r rs =>
                have hw := List.pairwise_cons.mp hw
                rw [List.pairwise_cons]
                refine ⟨fun b hb => ?_, ih _ hw.2 rs⟩
                obtain ⟨i, hi⟩ := List.mem_iff_getElem?.mp hb
                obtain ⟨w, h8, h9⟩ := rs.get (i := i) (d := tIn b) (by rw [List.getElem?_map, hi]; rfl)
                obtain ⟨t, rfl, ht⟩ := tupOf r
                obtain ⟨t2, rfl, ht2⟩ := tupOf h9
                have h10 : ltL (kOfL H) (.ref t2) (.ref t) = false := hw.1 _ (List.mem_of_getElem? h8)
                have h10 : HT.lexLt (kOfL H (.ref t2)) (kOfL H (.ref t)) = false := h10
                rw [kOfL_eq ht, kOfL_eq ht2] at h10
                unfold leL
                rw [h10]; rfl
          rw [sortL_uniq h6 hs] at h5
          exact new_lst R h5 hq p hn
    · cases hg)
end
end DL

/-! what one slot owns goes to another -/
namespace DL
open PySem PySem.Spec PyProof.Rows L2
section
variable {X : Cx} {T : Tb} {H0 : HZ} {Γ : List Mode} {J : Jm} {pos po pos' : Pos}
theorem Rl.move {K : PySem.W.Frag} {F H : Hp} {O : Own} {σ : L2.St} {ρ : List D} (R : Rl K T H0 Γ F O σ H ρ) {i j : Nat} {m : Mode} {v : V} {d : D} (hij : i ≠ j) (hi : i < Γ.length) (hm : Γ[j]? = some m) (hv : σ[j]? = some (some v)) (hd : ρ[j]? = some d) :
    Rl K T H0 ((Γ.set j .no).set i m) F (fun k a => if k = i then O j a else if k = j then False else O k a) (σ.set i (some v)) H (ρ.set i d) := by
  refine ⟨R.h0, R.fh, fun k a hk => ?_, fun k l a hk hl => ?_, by rw [List.length_set, List.length_set, List.length_set]; exact R.ls, by rw [List.length_set, List.length_set, List.length_set]; exact R.lr, fun k mk hk => ?_, R.nF, R.tb⟩
  · try dsimp only at hk
    split at hk
    · exact R.on j a hk
    · split at hk
      · exact hk.elim
      · exact R.on k a hk
  · try dsimp only at hk hl
    split at hk
    · split at hl
      · omega
      · split at hl
        · exact hl.elim
        · have := R.od j l a hk hl
          omega
    · split at hk
      · exact hk.elim
      · split at hl
        · have := R.od k j a hk hl
          omega
        · split at hl
          · exact hl.elim
          · exact R.od k l a hk hl
  · by_cases hki : k = i
    · subst hki
      rw [List.getElem?_set_self (by rw [List.length_set]; exact hi)] at hk
      cases hk
      rw [List.getElem?_set_self (by rw [R.ls]; exact hi), List.getElem?_set_self (by rw [R.lr]; exact hi)]
      have := R.sl j m hm
      rw [hv, hd] at this
      have e : (fun a => if k = k then O j a else if k = j then False else O k a) = O j := by
        funext a
        rw [if_pos rfl]
      show SlotR K T H0 F H (fun a => if k = k then O j a else if k = j then False else O k a) _ _ m
      rw [e]
      exact this
    · rw [List.getElem?_set_ne (Ne.symm hki)] at hk
      rw [List.getElem?_set_ne (Ne.symm hki), List.getElem?_set_ne (Ne.symm hki)]
      by_cases hkj : k = j
      · subst hkj
        have hjl : k < Γ.length := (List.getElem?_eq_some_iff.mp hm).1
        rw [List.getElem?_set_self hjl] at hk
        cases hk
        trivial
      · rw [List.getElem?_set_ne (Ne.symm hkj)] at hk
        have := R.sl k mk hk
        have e : (fun a => if k = i then O j a else if k = j then False else O k a) = O k := by
          funext a
          rw [if_neg hki, if_neg hkj]
        show SlotR K T H0 F H (fun a => if k = i then O j a else if k = j then False else O k a) _ _ mk
        rw [e]
        exact this
def mvM : Mode → Bool
  | .ow _ => true
  | .os _ => true
  | _ => false
theorem slot_some {K : PySem.W.Frag} {F H : Hp} {o : Addr → Prop} {sv : Option (Option V)} {dv : Option D} {m : Mode} (h : SlotR K T H0 F H o sv dv m) (hm : mvM m = true) : ∃ v d, sv = some (some v) ∧ dv = some d := by
  cases m with
  | ow q => obtain ⟨a, vs, ds, h1, h2, _⟩ := h; exact ⟨_, _, h1, h2⟩
  | os S => obtain ⟨v, d, h1, h2, _⟩ := h; exact ⟨_, _, h1, h2⟩
  | _ => cases hm
/-- x = y, y's own thing is x's from now on -/
theorem ds_mv (i j : Nat) {m : Mode} {x y : Str} (hN : X.N.Nodup) (hi : X.N[i]? = some x) (hx : Loc X.env.scope x) (hm : Γ[j]? = some m) (ho : mvM m = true) (h : PE X (.Name y po) (tVar j)) (hij : i ≠ j := by decide) (hl : i < Γ.length := by decide) (hs : swapsWith (.Name y po) (some (.Name x pos')) pos.line X.env = pure false := by rfl)
    (hf : X.fn x = true ∨ X.env.scope.names.lookup x = some .local := by first | exact .inl rfl | exact .inr rfl | assumption) : DS X T H0 Γ (.Assign [.Name x pos'] (.Name y po) pos) (sSet i (eV j)) ((Γ.set j .no).set i m) J := PS.wk (ps_set hN hi hx h hs hf) fun E σ H ⟨F, O, ρ, out, R, hf, hq⟩ => by
  obtain ⟨v, d, h1, h2⟩ := slot_some (R.sl j m hm) ho
  unfold sSet eV at hf
  rw [h2] at hf
  cases hf
  exact ⟨v, h1, hq F _ _ H (.refl _) (R.move hij hl hm h1 h2)⟩
end
end DL

/-! exceptions made as values -/
namespace DL
open PySem PySem.Spec PyProof.Rows L2
section
variable {X : Cx} {T : Tb} {H0 : HZ} {Γ : List Mode} {e : Expr} {es : List Expr} {t : L2.St → Hp → XK → Prop} {fs : List D → Option (List D)} {fe : EF} {k : Knd} {cl : Nat} {x g g1 g2 : Str} {po pos : Pos}
theorem pe_made (hex : X.ex = []) (he : PMk X e t) : PE X e (fun σ H Q => t σ H fun cls od H' => ∃ C, cls = .ref C ∧ ∀ a, H' a = none → Q (.ref a) (upd H' a (ExC a C od))) := by
  refine ⟨fun pins s σ H Q I h => ?_⟩
  refine wpAny_mono (he pins s σ H _ I h) (fun u s1 hu => ?_) fun _ _ x => x
  obtain ⟨a, oe, vs, sI, H', cls, od, rfl, J, kk, hne, ha, hz, hd, h1, na, os, ag, r, C, rfl, q⟩ := hu
  have J1 := J.call (ch := []) (h' := s1.heap) (g' := s1.gens) (t' := s1.toks) (d' := s1.drawn) (H' := H') (Un.kept kk) (J.hok.kept kk) ag (fun _ z => nomatch z)
  have e1 : { sI with heap := s1.heap, gens := s1.gens, drawn := s1.drawn, toks := s1.toks } = s1 := by
    cases s1
    cases sI
    cases os
    rfl
  rw [e1] at J1
  have n0 : X.s_0.heap.get? a = none := by
    cases e : X.s_0.heap.get? a with
    | none => rfl
    | some o =>
      obtain ⟨o', e2⟩ := J.base.there a o e (by rw [hex]; exact fun z => nomatch z)
      rw [hne] at e2; cases e2
  have nL : a ≠ X.env.locals := fun z => by
    obtain ⟨m, ⟨o, es, ep, ho, _⟩, _⟩ := J.loc
    rw [← z, hne] at ho; cases ho
  have np : ∀ p ∈ X.pn ++ pins, p.1 ≠ a := fun p hp z => by
    obtain ⟨h1, _⟩ := J.pin p hp
    rw [z, hne] at h1; cases h1
  exact ⟨.ref a, upd H' a (ExC a C od), inv_track J1 ha hz hd na n0 nL np, rfl, q a na⟩
def eExn (c : Nat) (fs : List D → Option (List D)) : EF := fun ρ => (fs ρ).bind fun ds => some (.exn c ds.reverse)
theorem de_mke1 (hex : X.ex = []) (C : OkE X.prog X.w X.K X.mg X.base T cl x [g]) (hr : Room 2 X.A) (hg : Gl X x) (ha : DQ X T H0 Γ (e :: es) fs .A) (hn : ∀ ρ ds, fs ρ = some ds → ds.length = 1)
    (hdb : (x == ("__debug__" : Str)) = false := by decide) (he : starEach (e :: es) X.env = (false, eval e X.env) :: starEach es X.env := by rfl) (hpl : (backTo pos (starEach es X.env)).any (·.1) = false := by rfl) :
    DE X T H0 Γ (.Call (.Name x po) (e :: es) [] pos) (eExn cl fs) (.q .A) := by
  obtain ⟨hf, fI, fd, ps, h1, h2, h3, h4⟩ := C.ex
  refine PE.wk (pe_made hex (pmk_oex C.cl h1 h2 h4 hr h3 .nil passE0 hg C.mgx ha hdb he hpl)) fun σ H Q ⟨F, O, ρ, out, R, hfr, hq⟩ => ?_
  unfold eExn at hfr
  cases h5 : fs ρ with
  | none => rw [h5] at hfr; cases hfr
  | some ds =>
    rw [h5] at hfr
    cases hfr
    refine ⟨F, O, ρ, ds, R, h5, fun F1 H1 vs R1 s1 t1 r1 => ?_⟩
    have hl : ds.length = 1 := hn _ _ h5
    match ds, hl, r1 with
    | [d], _, .cons (v := v) rv .nil =>
      refine ⟨by simp, fun a ha => ?_⟩
      refine ⟨a, _, v, rfl, C.cl, hf, upd_same, fun dx h7 h8 => ⟨rfl, dx, [(g, v)], upd_same, by rw [upd_ne h8, upd_same], ?_, ?_⟩⟩
      · rw [upd_ne h8] at h7; exact h7
      · rw [upd_ne h8] at h7
        rw [del_up1 ha h8]
        obtain ⟨R2, s2, t2⟩ := R1.laid (o := .xd [(g, v)]) h7
        refine ⟨_, rfl, fun a2 h9 => ?_⟩
        obtain ⟨R3, s3, t3⟩ := R2.laid (o := ExC a2 (T cl).1 (some dx)) h9
        exact hq _ _ _ R3 (s1.trans (s2.trans s3)) (t1.trans (t2.trans t3)) (.exn (fs := [(g, v)]) upd_same (.inr ⟨dx, rfl, s3 _ _ upd_same⟩) (by rw [C.nm]; rfl) (.cons ((s2.trans s3).rq rv) .nil))
theorem de_mke2 (hex : X.ex = []) (C : OkE X.prog X.w X.K X.mg X.base T cl x [g2, g1]) (hr : Room 2 X.A) (hg : Gl X x) (ha : DQ X T H0 Γ (e :: es) fs .A) (hn : ∀ ρ ds, fs ρ = some ds → ds.length = 2)
    (hdb : (x == ("__debug__" : Str)) = false := by decide) (he : starEach (e :: es) X.env = (false, eval e X.env) :: starEach es X.env := by rfl) (hpl : (backTo pos (starEach es X.env)).any (·.1) = false := by rfl) :
    DE X T H0 Γ (.Call (.Name x po) (e :: es) [] pos) (eExn cl fs) (.q .A) := by
  obtain ⟨⟨hf1, hf2⟩, fI, fd, ps, h1, h2, h3, h4⟩ := C.ex
  refine PE.wk (pe_made hex (pmk_oex C.cl h1 h2 h4 hr h3 .nil passE0 hg C.mgx ha hdb he hpl)) fun σ H Q ⟨F, O, ρ, out, R, hfr, hq⟩ => ?_
  unfold eExn at hfr
  cases h5 : fs ρ with
  | none => rw [h5] at hfr; cases hfr
  | some ds =>
    rw [h5] at hfr
    cases hfr
    refine ⟨F, O, ρ, ds, R, h5, fun F1 H1 vs R1 s1 t1 r1 => ?_⟩
    have hl : ds.length = 2 := hn _ _ h5
    match ds, hl, r1 with
    | [d, d2], _, .cons (v := v) rv (.cons (v := u) ru .nil) =>
      refine ⟨by simp, fun a ha => ?_⟩
      refine ⟨a, _, v, u, rfl, C.cl, hf1, hf2, upd_same, fun dx h7 h8 => ⟨rfl, dx, [(g2, u), (g1, v)], ?_, upd_same, ?_, ?_⟩⟩
      · rw [upd_ne (Ne.symm h8), upd_same]
      · rw [upd_ne h8] at h7; exact h7
      · rw [upd_ne h8] at h7
        rw [del_up2 ha h8]
        obtain ⟨R2, s2, t2⟩ := R1.laid (o := .xd [(g2, u), (g1, v)]) h7
        refine ⟨_, rfl, fun a2 h9 => ?_⟩
        obtain ⟨R3, s3, t3⟩ := R2.laid (o := ExC a2 (T cl).1 (some dx)) h9
        exact hq _ _ _ R3 (s1.trans (s2.trans s3)) (t1.trans (t2.trans t3)) (.exn (fs := [(g2, u), (g1, v)]) upd_same (.inr ⟨dx, rfl, s3 _ _ upd_same⟩) (by rw [C.nm]; rfl) (.cons ((s2.trans s3).rq ru) (.cons ((s2.trans s3).rq rv) .nil)))
theorem de_mke0 (hex : X.ex = []) (C : OkE0 X.K X.mg T cl x) (hg : Gl X x) (ha : DE X T H0 Γ e fe k)
    (hs : starEach [e] X.env = (false, eval e X.env) :: starEach [] X.env := by rfl) (hdb : (x == ("__debug__" : Str)) = false := by decide) :
    DE X T H0 Γ (.Call (.Name x po) [e] [] pos) (e1 (fun _ => some (.exn cl [])) fe) (.q .A) := by
  obtain ⟨bm, h1, B, i, h2⟩ := C.ex
  refine PE.wk (pe_made hex (SkE.pmk_own1 h2 h1 C.mgx C.kp (raises_own C.sb C.ty) hg ha hs hdb)) fun σ H Q ⟨F, O, ρ, out, R, hfr, hq⟩ => ?_
  unfold e1 at hfr
  cases h5 : fe ρ with
  | none => rw [h5] at hfr; cases hfr
  | some d =>
    rw [h5] at hfr
    cases hfr
    refine ⟨F, O, ρ, d, R, h5, fun F1 H1 v R1 s1 t1 r1 => ⟨_, rfl, fun a2 h9 => ?_⟩⟩
    obtain ⟨R3, s3, t3⟩ := R1.laid (o := ExC a2 (T cl).1 none) h9
    exact hq _ _ _ R3 (s1.trans s3) (t1.trans t3) (.exn (fs := []) upd_same (.inl ⟨rfl, rfl⟩) (by rw [C.nm]; rfl) .nil)
end
end DL

/-! a dict of tuple keys that is locked while a statement walks it -/
namespace DL
open PySem PySem.Spec PyProof.Rows L2
section
variable {X : Cx} {T : Tb} {H0 : HZ} {Γ Γn : List Mode} {J : Jm} {st : Stmt} {f : SF} {q : Q3}
/-- the dict at the slot i is locked while the statement runs -/
theorem ds_lockT (i : Nat) (hm : Γ[i]? = some (.os (.dit q))) (hmn : Γn[i]? = some (.os (.dit q))) (ho : (Γ.set i .no).all okM = true) (hon : (Γn.set i .no).all okM = true) (hb : NoB f)
    (h : ∀ H1 : HZ, DS X T H1 (Γ.set i (.os (.ldt q))) st f (Γn.set i (.os (.ldt q))) ⟨[], [], J.r, [], fun _ _ _ _ => True⟩) : DS X T H0 Γ st f Γn J := by
  refine ps_lockG fun E σ H ⟨F, O, ρ, out, R, hf, hq⟩ => ?_
  obtain ⟨v, d0, h1, h2, a, kvs, ds, e1, e2, h3, h4, h5⟩ := R.sl i _ hm
  subst e1; subst e2
  have fa : F a = none := (R.on i a h4).1
  have h0a : H0.h a = none := by
    cases hz : H0.h a with
    | none => rfl
    | some o => rw [R.h0 _ _ hz] at fa; cases fa
  refine ⟨a, _, h3, trivial, fun od => ⟨_, h ⟨upd H0.h a (.frz od (.dT kvs)), a, []⟩, ?_⟩⟩
  have hi : i < Γ.length := (List.getElem?_eq_some_iff.mp hm).1
  have hin : i < Γn.length := (List.getElem?_eq_some_iff.mp hmn).1
  have okG : ∀ {Γ : List Mode} {j : Nat} {m : Mode}, (Γ.set i .no).all okM = true → j ≠ i → Γ[j]? = some m → okM m = true := fun {Γ j m} hall hj hjm =>
    List.all_eq_true.mp hall m (List.mem_of_getElem? (i := j) (by rw [List.getElem?_set_ne (Ne.symm hj)]; exact hjm))
  have sF : Same F (upd F a (.frz od (.dT kvs))) := fun b o e => by rw [upd_ne (ne_of_none e fa)]; exact e
  have nk1 : ∀ (q : Q3) (b : Addr) (o : HO), F b = some o → NK H0 q b → NK (upd H0.h a (.frz od (.dT kvs))) q b := fun q b o e n => by
    cases q with
    | A => exact n
    | L => show upd H0.h a _ b = none; rw [upd_ne (ne_of_none e fa)]; exact n
    | U => trivial
  have R1 : Rl X.K T ⟨upd H0.h a (.frz od (.dT kvs)), a, []⟩ (Γ.set i (.os (.ldt q))) (upd F a (.frz od (.dT kvs))) (fun j b => O j b ∧ b ≠ a) σ (upd H a (.frz od (.dT kvs))) ρ := by
    refine ⟨fun b o e => ?_, fun b o e => ?_, fun j b hj => ?_, fun j k b hj hk => R.od j k b hj.1 hk.1, by rw [List.length_set]; exact R.ls, by rw [List.length_set]; exact R.lr, fun j m hj => ?_, fun b o e => ?_, tabs_upd R.tb h3 rfl⟩
    · have e : upd H0.h a (.frz od (.dT kvs)) b = some o := e
      by_cases hb : b = a
      · subst hb; rw [upd_same] at e ⊢; exact e
      · rw [upd_ne hb] at e ⊢; exact R.h0 _ _ e
    · by_cases hb : b = a
      · subst hb; rw [upd_same] at e ⊢; exact e
      · rw [upd_ne hb] at e ⊢; exact R.fh _ _ e
    · obtain ⟨g1, o, g2, g3⟩ := R.on j b hj.1
      exact ⟨by rw [upd_ne hj.2]; exact g1, o, by rw [upd_ne hj.2]; exact g2, g3⟩
    · by_cases hji : j = i
      · subst hji
        rw [List.getElem?_set_self hi] at hj
        cases hj
        exact ⟨.ref a, _, h1, h2, od, kvs, ds, rfl, rfl, upd_same, h5.monoN sF (nk1 q)⟩
      · rw [List.getElem?_set_ne (Ne.symm hji)] at hj
        have hne : ∀ b, O j b → b ≠ a := fun b hb z => hji (R.od j i b hb (z ▸ h4))
        exact (R.sl j m hj).conv (okG ho hji hj) (fun r => r.monoN sF (nk1 _)) (fun r => r.monoN sF (nk1 _)) (fun b vs e => sF _ _ e) (fun b hb => upd_ne (hne b hb)) fun b hb => ⟨hb, hne b hb⟩
    · by_cases hb : b = a
      · subst hb; rw [upd_same] at e; cases e; rfl
      · rw [upd_ne hb] at e; exact R.nF _ _ e
  refine ⟨_, _, ρ, out, R1, hf, ?_⟩
  have back : ∀ {F' H' : Hp}, Same (upd H0.h a (.frz od (.dT kvs))) F' → Same F' H' → F' a = some (.frz od (.dT kvs)) ∧ H' a = some (.frz od (.dT kvs)) ∧ Thaw F' (cut F' (· = a)) a ∧ Same H0 (cut F' (· = a)) ∧ Same (cut F' (· = a)) (upd H' a (.dT kvs)) := fun {F' H'} s1 s2 => by
    have g : F' a = some (.frz od (.dT kvs)) := s1 _ _ upd_same
    refine ⟨g, s2 _ _ g, ⟨⟨od, _, g, (fun _ e => nomatch e), (fun _ e => nomatch e)⟩, fun b hb => cut_out (S := fun x => x = a) hb⟩, fun b o e => ?_, fun b o e => ?_⟩
    · have hb : b ≠ a := ne_of_none e h0a
      rw [cut_out (S := fun x => x = a) hb]
      exact s1 _ _ (by rw [upd_ne hb]; exact e)
    · by_cases hb : b = a
      · subst hb; rw [cut_in (S := fun x => x = b) rfl] at e; cases e
      · rw [cut_out (S := fun x => x = a) hb] at e
        rw [upd_ne hb]; exact s2 _ _ e
  have nk2 : ∀ (q : Q3) (b : Addr), b ≠ a → NK (upd H0.h a (.frz od (.dT kvs))) q b → NK H0 q b := fun q b hb n => by
    cases q with
    | A => exact n
    | L =>
      have n : upd H0.h a _ b = none := n
      rw [upd_ne hb] at n; exact n
    | U => trivial
  cases out with
  | bk ρ' => exact absurd rfl ((hb ρ _ hf).1 ρ')
  | ct ρ' => exact absurd rfl ((hb ρ _ hf).2 ρ')
  | ex c es ρ' => exact fun _ _ _ _ _ _ _ _ _ => trivial
  | rt d =>
    intro H' v hr
    have hr : RetOk X.K T (upd H0.h a (.frz od (.dT kvs))) H' J.r v d := hr
    have hq2 : ∀ H'' v, RetOk X.K T H0.h H'' J.r v d → E.rt v H'' := hq
    generalize J.r = rk at hr hq2
    cases rk with
    | q q' =>
      obtain ⟨F', s1, s2, ⟨nt, tb⟩, r⟩ := hr
      obtain ⟨g1, g2, w, s3, s4⟩ := back s1 s2
      exact ⟨g2, hq2 _ v ⟨cut F' (· = a), s3, s4, ⟨nt.cut, tabs_upd tb g2 rfl⟩, RepG.thaw w (nk2 q') r⟩⟩
    | ol q' =>
      obtain ⟨F', a2, vs, es, z1, z2, s1, s2, ⟨nt, tb⟩, z3, z4, r⟩ := hr
      obtain ⟨g1, g2, w, s3, s4⟩ := back s1 s2
      have hne : a2 ≠ a := by rintro rfl; rw [g1] at z4; cases z4
      exact ⟨g2, hq2 _ v ⟨cut F' (· = a), a2, vs, es, z1, z2, s3, s4, ⟨nt.cut, tabs_upd tb g2 rfl⟩, by rw [upd_ne hne]; exact z3, by rw [cut_out (S := fun x => x = a) hne]; exact z4, RepsG.thaw w (nk2 q') r⟩⟩
    | pl z =>
      obtain ⟨F', a2, vs, es, z1, z2, s1, s2, ⟨nt, tb⟩, z3, z4, r⟩ := hr
      obtain ⟨g1, g2, w, s3, s4⟩ := back s1 s2
      have hne : a2 ≠ a := by rintro rfl; rw [s2 _ _ g1] at z3; cases z3
      exact ⟨g2, hq2 _ v ⟨cut F' (· = a), a2, vs, es, z1, z2, s3, s4, ⟨nt.cut, tabs_upd tb g2 rfl⟩, by rw [upd_ne hne]; exact z3, z4.imp (fun z => by rw [cut_out (S := fun x => x = a) hne]; exact z) id, RepsG.thaw w (nk2 .A) r⟩⟩
    | od S =>
      obtain ⟨F', a2, z1, s1, s2, ⟨nt, tb⟩, z4, r⟩ := hr
      obtain ⟨g1, g2, w, s3, s4⟩ := back s1 s2
      have hne : a2 ≠ a := by rintro rfl; rw [g1] at z4; cases z4
      refine ⟨g2, hq2 _ v ⟨cut F' (· = a), a2, z1, s3, s4, ⟨nt.cut, tabs_upd tb g2 rfl⟩, by rw [cut_out (S := fun x => x = a) hne]; exact z4, ?_⟩⟩
      cases S with
      | dic q' => obtain ⟨k2, d2, y1, y2, y3⟩ := r; exact ⟨k2, d2, y1, by rw [upd_ne hne]; exact y2, RepsG.thaw w (nk2 q') y3⟩
      | dit q' => obtain ⟨k2, d2, y1, y2, y3⟩ := r; exact ⟨k2, d2, y1, by rw [upd_ne hne]; exact y2, RepsG.thaw w (nk2 q') y3⟩
      | tbl _ => exact r.elim
      | ins _ _ => exact r.elim
      | ldk _ => exact r.elim
      | ldt _ => exact r.elim
      | lkl _ => exact r.elim
      | odn _ => exact r.elim
      | prm _ => exact r.elim
  | nx ρ' =>
    intro F' O' σ' H' sFF R'
    obtain ⟨g1, g2, w, s3, s4⟩ := back R'.h0 R'.fh
    refine ⟨g2, hq (cut F' (· = a)) (fun j b => O' j b ∨ (j = i ∧ b = a)) σ' _ (fun b o e => ?_) ?_⟩
    · have hb : b ≠ a := ne_of_none e fa
      rw [cut_out (S := fun x => x = a) hb]
      exact sFF _ _ (by rw [upd_ne hb]; exact e)
    have nOa : ∀ j b, O' j b → b ≠ a := fun j b hb z => by
      have := (R'.on j b hb).1
      rw [z, g1] at this; cases this
    refine ⟨s3, s4, fun j b hj => ?_, fun j k b hj hk => ?_, by have := R'.ls; rw [List.length_set] at this; exact this, by have := R'.lr; rw [List.length_set] at this; exact this, fun j m hj => ?_, R'.nF.cut, tabs_upd R'.tb g2 rfl⟩
    · rcases hj with hj | ⟨_, rfl⟩
      · obtain ⟨z1, o, z2, z3⟩ := R'.on j b hj
        exact ⟨by rw [cut_out (S := fun x => x = a) (nOa j b hj)]; exact z1, o, by rw [upd_ne (nOa j b hj)]; exact z2, z3⟩
      · exact ⟨cut_in (S := fun x => x = b) rfl, _, upd_same, rfl⟩
    · rcases hj with hj | ⟨e1, z1⟩ <;> rcases hk with hk | ⟨e2, z2⟩
      · exact R'.od j k b hj hk
      · exact absurd z2 (nOa j b hj)
      · exact absurd z1 (nOa k b hk)
      · rw [e1, e2]
    · by_cases hji : j = i
      · subst hji
        rw [hmn] at hj
        cases hj
        obtain ⟨v, d, z1, z2, od', kvs', ds', z3, z4, z5, z6⟩ := R'.sl j _ (List.getElem?_set_self hin)
        have z5 : F' a = some (.frz od' (.dT kvs')) := z5
        rw [g1] at z5
        cases z5
        exact ⟨v, d, z1, z2, a, kvs, ds', z3, z4, upd_same, .inr ⟨rfl, rfl⟩, RepsG.thaw w (nk2 q) z6⟩
      · have hj2 : (Γn.set i (.os (.ldt q)))[j]? = some m := by rw [List.getElem?_set_ne (Ne.symm hji)]; exact hj
        exact (R'.sl j m hj2).conv (okG hon hji hj) (fun r => RepG.thaw w (nk2 _) r) (fun r => RepsG.thaw w (nk2 _) r) (fun b vs e => w.get e fun od u z => nomatch z) (fun b hb => upd_ne (nOa j b hb)) fun b hb => .inl hb
/-- the locked dict is read -/
theorem dd_lkt (i : Nat) (hm : Γ[i]? = some (.os (.ldt q))) {x : Str} {pos : Pos} (h : PE X (.Name x pos) (tVar i)) : DD X T H0 Γ (.Name x pos) (eV i) q := PE.wk h fun σ H Q ⟨F, O, ρ, d, R, hf, hq⟩ => by
  obtain ⟨v, d', h1, h2, od, kvs, ds, e1, e2, h3, h5⟩ := R.sl i _ hm
  have : ρ[i]? = some d := hf
  rw [h2] at this; cases this
  subst e1; subst e2
  exact ⟨_, h1, hq F H _ R (.refl _) (.refl _) fun _ _ _ _ => ⟨_, rfl, .inr ⟨kvs, ds, rfl, .inr ⟨od, R.fh _ _ h3⟩, h5⟩⟩⟩
def kTD (k : List Key) : D := .tup (k.map kD)
theorem kDs_rep {K : PySem.W.Frag} {N : Addr → Prop} {F : Hp} : ∀ k : List Key, RepsG K T N F (k.map kV) (k.map kD)
  | [] => .nil
  | k :: ks => .cons (kD_rep k) (kDs_rep ks)
/-- for k in d, the keys tuples -/
def iKeysT (f : EF) : List D → Option (List D) := fun ρ => (f ρ).bind fun d => match d with
  | .dit ks _ => some (ks.map kTD)
  | _ => none
theorem di_keysT (i : Nat) (hm : Γ[i]? = some (.os (.ldt q))) {x : Str} {pos : Pos} {tg : Expr} {p : Q3} {c : Bool} (h : PE X (.Name x pos) (tVar i)) : DI X T H0 Γ tg (.Name x pos) (iKeysT (eV i)) p c := PI.wk (pi_keys h) fun σ H R0 ⟨F, O, ρ, items, R, hf, hq⟩ => by
  obtain ⟨v, d', h1, h2, od, kvs, ds, e1, e2, h3, h5⟩ := R.sl i _ hm
  unfold iKeysT eV at hf
  rw [h2] at hf
  subst e1; subst e2
  cases hf
  refine ⟨_, h1, H0.z, od, rfl, .inr ⟨kvs, R.fh _ _ h3, hq F H _ R (.refl _) (.refl _) fun j F2 H2 g1 g2 _ => ?_⟩⟩
  have hz : H2 H0.z = some (.frz od (.dT kvs)) := g2 _ _ (g1 _ _ h3)
  refine ⟨fun d hd => ?_, fun hl => ⟨hz, by simpa using hl⟩⟩
  rw [List.map_map, List.getElem?_map] at hd
  cases hk : kvs[j]? with
  | none => rw [hk] at hd; cases hd
  | some kv =>
    rw [hk] at hd
    cases hd
    refine ⟨⟨hz, (List.getElem?_eq_some_iff.mp hk).1⟩, fun x H3 ⟨e1, k, v, a, e2, e3, e4⟩ => ?_⟩
    subst e1; subst e3
    rw [hk] at e2; cases e2
    cases hfa : F2 a with
    | some o =>
      have := g2 _ _ hfa
      rw [e4] at this; cases this
      exact ⟨.refl _, F2, .refl _, g2, ⟨fun b h _ => h, fun n => n⟩, .tup hfa (kDs_rep k)⟩
    | none =>
      have sF : Same F2 (upd F2 a (.tup (k.map kV))) := fun b o e => by rw [upd_ne (ne_of_none e hfa)]; exact e
      refine ⟨.refl _, upd F2 a (.tup (k.map kV)), sF, fun b o e => ?_, ⟨fun b hb hb2 => ?_, fun n b o e => ?_⟩, .tup upd_same (kDs_rep k)⟩
      · by_cases hb : b = a
        · subst hb; rw [upd_same] at e; cases e; exact e4
        · rw [upd_ne hb] at e; exact g2 _ _ e
      · rw [upd_ne (by rintro rfl; obtain ⟨o, z1, z2⟩ := hb2; rw [e4] at z1; cases z1; cases z2)]; exact hb
      · by_cases hb : b = a
        · subst hb; rw [upd_same] at e; cases e; rfl
        · rw [upd_ne hb] at e; exact n _ _ e
/-- {k: v}, k a tuple -/
theorem pe_disp1T {k v : Expr} {tk tv : TE} {pos : Pos} (hu : X.A.units < cLine) (hk : PE X k tk) (hv : PE X v tv) : PE X (.Dict [some k] [v] pos) (fun σ H Q => ∀ p, H p = none → tk σ (upd H p (.dT [])) fun x H1 => tv σ H1 fun y H2 =>
    ∃ (b : Addr) (ks : List Key), x = .ref b ∧ H2 b = some (.tup (ks.map kV)) ∧ H2 p = some (.dT []) ∧ Q (.ref p) (upd H2 p (.dT [(ks, y)]))) := by
  refine ⟨fun pins s σ H Q I q => ?_⟩
  have hn := I.hok.fresh (Nat.le_refl s.heap.objs.size)
  have I1 := I.laid (a := s.heap.objs.size) (o := .dT []) (h' := s.heap.push { cls := .type "dict", data := .dict #[] }) (t' := s.toks) (fun _ _ q => Heap.get?_push_of_some _ q) (Nat.le_refl _) (dt_empty s.heap I.big)
  have hl := pairTrees_length [some k] [v] X.env pos rfl rfl
  rw [arm_eval_Dict, zip_pairTrees [some k] [v] X.env pos rfl rfl, dictDisplay_pairs (pairTrees [some k] [v] X.env pos) (fun z => by rw [z] at hl; cases hl) (by rw [hl]; show 1 < 17; decide)]
  refine wpAny_bind (wpAny_standAt (wpAny_bind (wpAny_subDictH (knd := tupleKind (mixKind X.prog X.w)) (Q := fun d s' => wpAny (model X.prog X.w) X.A (pure (Value.ref d)) _ _ s') hu (by rw [hl]; show 1 ≤ 15; decide) ?_)))
  refine pairTrees_cons_walk (thn (hk.run pins _ σ _ _ I1 (q _ hn)) fun u s1 ⟨x, H1, I2, rx, q1⟩ => thn (hv.run pins s1 σ H1 _ I2 q1) fun w2 s2 ⟨y, H2, I3, ry, b, ks, ex, hb, hp, q2⟩ => pairTrees_nil_walk ?_)
  subst ex
  cases (show u = Value.ref b from rx)
  obtain ⟨z, hd, xs, rel, dd⟩ := dt_of I3.hok hp
  cases rel
  refine ⟨[(ks, b, w2)], ⟨rfl, rfl, key_of I3.hok hb, trivial⟩, dd, fun h' tk dd' hs => wpAny_pure ?_⟩
  obtain ⟨o, es, ep, hq, h2, h3, h4, _, h5⟩ := dd'
  refine ⟨.ref s.heap.objs.size, _, d_write (ob := .dT [(ks, y)]) I3 (by rw [hp]; exact True.intro) hs ⟨o, hq⟩ ⟨by rw [sizeLine_eq]; show 1 ≤ 16777216; decide, hd, [(ks, b, w2)], .cons ⟨rfl, ?_, ry⟩ .nil, o, es, ep, hq, h2, h3, h4, h5⟩, rfl, q2⟩
  rw [upd_ne (ne_of hb hp (fun z => nomatch z))]
  exact hb
theorem upd_comm {H : Hp} {a b : Addr} {o u : HO} (h : a ≠ b) : upd (upd H a o) b u = upd (upd H b u) a o := by
  funext c
  by_cases hb : c = b
  · subst hb; rw [upd_same, upd_ne (Ne.symm h), upd_same]
  · by_cases ha : c = a
    · subst ha; rw [upd_ne hb, upd_same, upd_same]
    · rw [upd_ne hb, upd_ne ha, upd_ne ha, upd_ne hb]
theorem upd_twice {H : Hp} {a : Addr} {o u : HO} : upd (upd H a o) a u = upd H a u := by
  funext c
  by_cases ha : c = a
  · subst ha; rw [upd_same, upd_same]
  · rw [upd_ne ha, upd_ne ha, upd_ne ha]
variable {x : Str} {pos' po p2 p3 : Pos}
/-- x = {(): n} -/
theorem ds_disp1 {i j jj : Nat} {n : Int} {kk : Nat} (hN : X.N.Nodup) (hi : X.N[i]? = some x) (hx : Loc X.env.scope x) (hr : Room j X.A) (hl : i < Γ.length := by decide) (hs : swapsWith (.Dict [some (.Tuple [] kk p2)] [.Constant (.int n) jj p3] po) (some (.Name x pos')) pos.line X.env = pure false := by rfl)
    (hf : X.fn x = true ∨ X.env.scope.names.lookup x = some .local := by first | exact .inl rfl | exact .inr rfl | assumption) : DS X T H0 Γ (.Assign [.Name x pos'] (.Dict [some (.Tuple [] kk p2)] [.Constant (.int n) jj p3] po) pos) (sSet i (eK (.dit [[]] [.int n]))) (Γ.set i (.os (.dit q))) J :=
  PS.wk (ps_set hN hi hx (pe_disp1T (by have := hu_of hr; omega) (pe_tup pa_nil) pe_int) hs hf) fun E σ H ⟨F, O, ρ, out, R, hf, hq⟩ => by
    cases hf
    intro p hp
    refine ⟨by decide, fun b hb => ?_⟩
    have hpb : p ≠ b := fun z => by rw [z, upd_same] at hb; cases hb
    have hb0 : H b = none := by rw [upd_ne (Ne.symm hpb)] at hb; exact hb
    refine ⟨b, [], rfl, upd_same, by rw [upd_ne hpb, upd_same], ?_⟩
    have R1 := (R.junk (o := .tup []) hb0).1
    have hp1 : upd H b (.tup []) p = none := by rw [upd_ne hpb]; exact hp
    have R2 := (R1.junk (o := .dT [([], .int n)]) hp1).1
    have e : upd (upd (upd H p (.dT [])) b (.tup [])) p (.dT [([], .int n)]) = upd (upd H b (.tup [])) p (.dT [([], .int n)]) := by
      rw [upd_comm hpb, upd_twice]
    rw [e]
    exact hq F _ _ _ (.refl _) (R2.setOs hl upd_same rfl (R1.fh.free hp1) (R1.notOwn hp1) ⟨p, [([], .int n)], [.int n], rfl, rfl, upd_same, rfl, .cons (.int n) .nil⟩)
end
end DL

/-! list(reversed(the script)): it is a script again -/
namespace DL
open PySem PySem.Spec PyProof.Rows L2
def tListRevS (K : PySem.W.Frag) (te : TE) : TE := fun σ H Q => te σ H fun v H1 => ∃ (a : Addr) (xs : List V), v = .ref a ∧ SqL K H1 a xs ∧ ∀ q o, H1 q = none → Q (.ref q) (upd H1 q (.frz o (.lst xs.reverse)))
theorem pe_listRevS {X : Cx} {e : Expr} {te : TE} {p p2 pos pos2 : Pos} (hc : X.calm = true) (hg : Gl X "list") (hm : X.mg "list" = none) (hg2 : Gl X "reversed") (hm2 : X.mg "reversed" = none) (he : PE X e te)
    (hs : starEach [e] X.env = (false, eval e X.env) :: starEach [] X.env := by rfl)
    (hs2 : starEach [.Call (.Name "reversed" p2) [e] [] pos2] X.env = (false, eval (.Call (.Name "reversed" p2) [e] [] pos2) X.env) :: starEach [] X.env := by rfl) :
    PE X (.Call (.Name "list" p) [.Call (.Name "reversed" p2) [e] [] pos2] [] pos) (tListRevS X.K te) := by
  refine ⟨fun pins s σ H Q I h => ?_⟩
  refine Call_ (ld_blt I hg hm boot_list (PyProof.Rows.callWith_type1 (args_cons (Call_ (ld_blt I hg2 hm2 PyProof.Rows.boot_reversed (PyProof.Rows.callWith_type1 (args_cons (thn (he.run pins s σ H _ I h) fun u s1 ⟨v, H1, I1, r1, q1⟩ => args_nil ?_) hs) hs rfl))) hs2) hs2 rfl))
  obtain ⟨a, xs, ev, hq, q⟩ := q1
  subst ev
  obtain rfl : u = Value.ref a := r1
  obtain ⟨its, rv, p', hz⟩ := I1.list hq
  refine call_reversed_list p'.isList (args_nil ?_)
  have k0 : ∀ b o, s1.heap.get? b = some o → (s1.heap.push (revObj a ((its.toArray.size : Int) - 1))).get? b = some o := fun b o e => Heap.get?_push_of_some _ e
  have I2 : Inv X pins σ H1 { s1 with heap := s1.heap.push (revObj a ((its.toArray.size : Int) - 1)) } := I1.kept (t' := s1.toks) k0
  obtain ⟨f0, f1, f2, f3, f4, f5⟩ := I1.fpOk (H' := H1) (b := s1.heap.objs.size) (Nat.le_refl _) (I1.hok.fresh (Nat.le_refl _))
  have hl := p'.isList
  obtain ⟨ol, hol, _⟩ := id hl
  have hne : a ≠ s1.heap.objs.size := Nat.ne_of_lt (Heap.lt_size hol)
  have hn : its.toArray.size ≤ sizeLine := by rw [List.size_toArray, ← rv.length]; exact hz
  have hz2 : (s1.heap.push (revObj a ((its.toArray.size : Int) - 1))).objs.size = s1.heap.objs.size + 1 := Heap.size_push ..
  refine call_list_rev (s := { s1 with heap := s1.heap.push (revObj a ((its.toArray.size : Int) - 1)) }) (I1.ok.hd hc) ⟨_, Heap.get?_push_size _ rfl, rfl, rfl⟩ (hl.push _) hne hn fun h' tk acc c' hk hS hi => ?_
  have hle : s1.heap.objs.size ≤ (s1.heap.push (revObj a ((its.toArray.size : Int) - 1))).objs.size := by rw [hz2]; exact Nat.le_succ _
  have hS' : h'.get? (s1.heap.push (revObj a ((its.toArray.size : Int) - 1))).objs.size = some { cls := .type "list", dict := none, data := .seq acc.toList.toArray c', slots := #[] } := by rw [Array.toArray_toList]; exact hS
  exact ⟨.ref _, upd H1 _ (.frz _ (.lst xs.reverse)), I1.turnedNew (t' := tk) (ch := [s1.heap.objs.size]) (fun b o hb e => hk b o (fun z => hb (by simp [z])) (k0 b o e))
    (fun b hb => by rw [List.mem_singleton.mp hb]; exact I1.fpOk (Nat.le_refl _) (I1.hok.fresh (Nat.le_refl _))) hle
    (show ObjOk X.prog X.w _ h' _ (.frz _ (.lst xs.reverse)) from ⟨hS', by rw [List.length_reverse]; exact hz, acc.toList, c', RT.vals_rev rv hi, hS'⟩), rfl, q _ _ (I1.hok.fresh hle)⟩
section
variable {X : Cx} {T : Tb} {H0 : HZ} {Γ : List Mode} {a : Expr} {fa : EF} {ka : Knd} {pos po p2 pos2 : Pos} {q : Q3}
def gScrR : D → Option D
  | .scr ds => some (.scr ds.reverse)
  | _ => none
theorem de_scrRev (hc : X.calm = true) (hg : Gl X "list") (hm : X.mg "list" = none) (hg2 : Gl X "reversed") (hm2 : X.mg "reversed" = none) (ha : DE X T H0 Γ a fa (.q p))
    (hs : starEach [a] X.env = (false, eval a X.env) :: starEach [] X.env := by rfl)
    (hs2 : starEach [.Call (.Name "reversed" p2) [a] [] pos2] X.env = (false, eval (.Call (.Name "reversed" p2) [a] [] pos2) X.env) :: starEach [] X.env := by rfl) :
    DE X T H0 Γ (.Call (.Name "list" po) [.Call (.Name "reversed" p2) [a] [] pos2] [] pos) (e1 gScrR fa) (.q p) :=
  PE.wk (pe_listRevS hc hg hm hg2 hm2 ha hs hs2) fun σ H Q ⟨F, O, ρ, d, R, hf, hq⟩ => by
    unfold e1 at hf
    cases h1 : fa ρ with
    | none => rw [h1] at hf; cases hf
    | some x =>
      rw [h1] at hf
      simp only [Option.bind_some] at hf
      refine ⟨F, O, ρ, x, R, h1, fun F1 H1 v R1 s1 t1 r1 => ?_⟩
      unfold gScrR at hf
      split at hf
      · cases hf
        cases r1 with
        | @scr a1 vs ds h2 h3 =>
          refine ⟨a1, vs, rfl, (same_sqS R1.fh h2).seq, fun p o hp => ?_⟩
          obtain ⟨R2, s2, t2⟩ := R1.laid (o := .frz o (.lst vs.reverse)) hp rfl
          exact hq _ _ _ R2 (s1.trans s2) (t1.trans t2) (RepG.scr (.inl ⟨o, upd_same⟩) (s2.rqs h3).reverse)
      · cases hf
end
end DL

/-! a def that hands back one of its parameters, a list, or a new list -/
namespace DL
open PySem PySem.Spec PyProof.Rows L2
def spPl (K : PySem.W.Frag) (T : Tb) (n j : Nat) (φ : List D → Option D) : Sp := fun vs H Q _ => vs.length = n ∧ ∃ a ds d, vs[j]? = some (.ref a) ∧ LamX.Tabs T.t H ∧ RUs K T H vs ds ∧ φ ds = some d ∧ ∀ H' v, RetOk K T (ntb H) H' (.pl a) v d → Q v H'
structure OkFP (P : Program) (w : World) (K : PySem.W.Frag) (mg : Str → Option Value) (base : Heap) (T : Tb) (k : Nat) (x : Str) (ps : List Str) (j : Nat) (φ : List D → Option D) : Prop where
  ex : ∃ f fd, mg x = some (.ref f) ∧ PySem.W.keepIn K (.ref f) = true ∧ Binds K fd ps [] ∧ FnOk P w K mg base CX0 k f fd ps (spPl K T ps.length j φ)
theorem ms0_ok {pks : List PKn} {m i : Nat} {md : Mode} (h : (ms0 pks m)[i]? = some md) : okM md = true := by
  have := List.mem_of_getElem? h
  unfold ms0 at this
  rcases List.mem_append.mp this with h | h
  · obtain ⟨p, _, rfl⟩ := List.mem_map.mp h
    cases p <;> rfl
  · rw [List.mem_replicate] at h
    rw [h.2]; rfl
theorem rl_startP {K : PySem.W.Frag} {T : Tb} {H : Hp} {pks : List PKn} {m j : Nat} {N : List Str} {vs : List V} {ds : List D} {a : Addr} (hN : N.length = pks.length + m) (hr : RUs K T H vs ds) (hc : chks pks ds = true) (ht : LamX.Tabs T.t H) (hj : pks[j]? = some .fA) (hv : vs[j]? = some (.ref a)) :
    Rl K T ⟨ntb H, a, []⟩ ((ms0 pks m).set j (.os (.prm .A))) (ntb H) (fun _ _ => False) (L2.start N vs) H (ds ++ List.replicate m .non) := by
  have R := rl_start (m := m) hN hr hc ht
  have hjl : j < pks.length := (List.getElem?_eq_some_iff.mp hj).1
  have hjm : j < (ms0 pks m).length := by unfold ms0; rw [List.length_append, List.length_map]; omega
  refine ⟨R.h0, R.fh, R.on, R.od, by rw [List.length_set]; exact R.ls, by rw [List.length_set]; exact R.lr, fun i md hm => ?_, R.nF, R.tb⟩
  by_cases e : j = i
  · subst e
    rw [List.getElem?_set_self hjm] at hm
    cases hm
    have h0 : (ms0 pks m)[j]? = some (.fl .A) := by
      unfold ms0
      rw [List.getElem?_append_left (by simpa using hjl), List.getElem?_map, hj]; rfl
    obtain ⟨b, us, es, h1, h2, h3, h4⟩ := R.sl j _ h0
    have h5 : (L2.start N vs)[j]? = some (some (.ref a)) := by
      unfold L2.start
      have hl := (List.getElem?_eq_some_iff.mp hv).1
      rw [List.getElem?_append_left (by rw [List.length_map]; exact hl), List.getElem?_map, hv]; rfl
    rw [h5] at h1
    cases h1
    exact ⟨.ref a, .lst es, h5, h2, us, es, rfl, rfl, h3, h4⟩
  · rw [List.getElem?_set_ne e] at hm
    exact SlotR.conv (H0 := ⟨ntb H, 0, []⟩) (H0' := ⟨ntb H, a, []⟩) (h := R.sl i md hm) (ms0_ok hm) (fun r => r) (fun r => r) (fun _ _ e => e) (fun _ _ => rfl) fun _ h => h
section
variable {P : Program} {w : World} {K : PySem.W.Frag} {mg : Str → Option Value} {base : Heap} {T : Tb}
theorem mk_okfp {x : Str} {st : Stmt} {N ps : List Str} {pks : List PKn} {m k j : Nat} {body : SF} {Γn : List Mode} (F : FtF K mg x x st ps) (S : FnScope N ps (defScope st)) (hN : N.length = pks.length + m) (hp : ps.length = pks.length) (hj : pks[j]? = some .fA)
    (hb : ∀ (f : Addr) (cdv : Value) (A : Around) (outer : List Env) (s : Shared) (H : Hp) (E : XK) (a : Addr), Room k (bodyX P w K mg base N x st f cdv A outer s H E).A → DSs (bodyX P w K mg base N x st f cdv A outer s H E) T ⟨ntb H, a, []⟩ ((ms0 pks m).set j (.os (.prm .A))) (defBody st) body Γn (jm (.pl a))) :
    OkFP P w K mg base T (k + 1) x ps j (fnD pks m false body) := by
  obtain ⟨f, fd, h1, h2, h3⟩ := F.ex
  refine ⟨f, fd, h3, h1.kp, h2, h1.ok S (fun vs H Q E h => h.1) fun cdv A outer s H vs Q E hr h => ?_⟩
  obtain ⟨hl, a, ds, d, hv, ht, r, hf, hq⟩ := h
  refine ⟨_, hb f cdv A outer s H E a hr, ?_⟩
  unfold fnD at hf
  split at hf
  · rename_i hc
    cases h1 : body (ds ++ List.replicate m .non) with
    | none => rw [h1] at hf; cases hf
    | some o =>
      rw [h1] at hf
      simp only [Option.bind_some] at hf
      refine ⟨ntb H, _, _, o, rl_startP hN r hc ht hj hv, h1, ?_⟩
      split at hf
      · cases hf
        exact fun H' v hv => hq H' v hv
      · cases hf
      · cases hf
  · cases hf
end
section
variable {X : Cx} {T : Tb} {H0 : HZ} {Γ Γ1 Γn Γm : List Mode} {J : Jm} {e a b tg iter : Expr} {es : List Expr} {st : Stmt} {sts : List Stmt} {f g : SF} {fe fa fb : EF} {k ka kb : Knd} {pos po pos' : Pos} {q p : Q3} {fs : List D → Option (List D)} {x : Str}
theorem de_vprm (i : Nat) (hm : Γ[i]? = some (.os (.prm q))) (h : PE X (.Name x pos) (tVar i)) : DE X T H0 Γ (.Name x pos) (eV i) (.fl q) := PE.wk h fun σ H Q ⟨F, O, ρ, d, R, hf, hq⟩ => by
  obtain ⟨v, d', h1, h2, vs, ds, e1, e2, h3, h4⟩ := R.sl i _ hm
  have e : d' = d := by
    unfold eV at hf
    rw [h2] at hf
    exact Option.some.inj hf
  subst e
  exact ⟨v, h1, hq F H v R (.refl _) (.refl _) ⟨_, vs, ds, e1, e2, h3, h4⟩⟩
theorem ds_retPm (i : Nat) (hm : Γ[i]? = some (.os (.prm .A))) (h : PE X (.Name x pos') (tVar i)) (hr : J.r = .pl H0.z := by rfl) : DS X T H0 Γ (.Return (some (.Name x pos')) pos) (sRet (eV i)) Γn J :=
  PS.wk (ps_ret h) fun E σ H ⟨F, O, ρ, out, R, hf, hq⟩ => by
    obtain ⟨v, d, h1, h2, vs, ds, e1, e2, h3, h4⟩ := R.sl i _ hm
    have e : sRet (eV i) ρ = some (.rt d) := by unfold sRet eV; rw [h2]; rfl
    rw [e] at hf
    cases hf
    refine ⟨v, h1, hq H _ ?_⟩
    rw [hr]
    exact ⟨F, H0.z, vs, ds, e1, e2, R.h0, R.fh, ⟨R.nF, R.tb⟩, R.fh _ _ h3, .inr rfl, h4⟩
theorem ds_retPn (he : DE X T H0 Γ e fe (.ol .A)) (hr : J.r = .pl H0.z := by rfl) : DS X T H0 Γ (.Return (some e) pos) (sRet fe) Γn J :=
  PS.wk (ps_ret he) fun E σ H ⟨F, O, ρ, out, R, hf, hq⟩ => by
    unfold sRet at hf
    cases h1 : fe ρ with
    | none => rw [h1] at hf; cases hf
    | some d =>
      rw [h1] at hf
      cases hf
      refine ⟨F, O, ρ, d, R, h1, fun F' H' v R' s' t' ⟨a, vs, ds, e1, e2, h2, h3, h4, h5⟩ => hq H' _ ?_⟩
      rw [hr]
      exact ⟨F', a, vs, ds, e1, e2, R'.h0, R'.fh, ⟨R'.nF, R'.tb⟩, h2, .inl h3, h5⟩
/-- a frozen list of leaves -/
theorem de_qfl (h : DE X T H0 Γ e fe (.q q)) : DE X T H0 Γ e (eLf fe) (.fl .A) := PE.wk h fun σ H Q ⟨F, O, ρ, d, R, hf, hq⟩ => by
  unfold eLf at hf
  cases h1 : fe ρ with
  | none => rw [h1] at hf; cases hf
  | some y =>
    rw [h1] at hf
    simp only [Option.bind_some] at hf
    split at hf
    · split at hf
      · rename_i hl
        cases hf
        refine ⟨F, O, ρ, _, R, h1, fun F' H' v R' s' t' r => hq F' H' v R' s' t' ?_⟩
        cases r with
        | @lst a vs ds h5 h6 h7 => exact ⟨a, vs, _, rfl, rfl, h5, RepsG.ats h7 hl⟩
      · cases hf
    · cases hf
/-- arguments, the j-th a frozen list of leaves -/
def tDAP (K : PySem.W.Frag) (T : Tb) (H0 : HZ) (Γ : List Mode) (j : Nat) (f : List D → Option (List D)) : TA := fun σ H Q =>
  ∃ F O ρ ds, Rl K T H0 Γ F O σ H ρ ∧ f ρ = some ds ∧ ∀ F' H' vs, Rl K T H0 Γ F' O σ H' ρ → Same F F' → Sm H H' → RUs K T H' vs ds → (∃ a l, vs[j]? = some (.ref a) ∧ F' a = some (.lst l)) → Q vs H'
theorem dap_here (ha : DE X T H0 Γ e fe (.fl .A)) (hr : DA X T H0 Γ es fs) (hs : starEach (e :: es) X.env = (false, eval e X.env) :: starEach es X.env := by rfl) : PA X (e :: es) (tDAP X.K T H0 Γ 0 (aCons fe fs)) :=
  PA.wk (pa_cons ha hr hs) fun σ H Q ⟨F, O, ρ, ds, R, hf, hq⟩ => by
    unfold aCons at hf
    cases h1 : fe ρ with
    | none => rw [h1] at hf; cases hf
    | some x =>
      rw [h1] at hf
      simp only [Option.bind_some] at hf
      cases h2 : fs ρ with
      | none => rw [h2] at hf; cases hf
      | some xs =>
        rw [h2] at hf
        cases hf
        refine ⟨F, O, ρ, x, R, h1, fun F1 H1 v R1 s1 t1 r1 => ⟨F1, O, ρ, xs, R1, h2, fun F2 H2 vs R2 s2 t2 r2 => ?_⟩⟩
        have r1' := r1
        obtain ⟨a, l, dl, e1, e2, h3, h4⟩ := r1
        exact hq F2 H2 _ R2 (s1.trans s2) (t1.trans t2) (.cons (t2.rU (R1.toB r1')) r2) ⟨a, l, by rw [e1]; rfl, s2 _ _ h3⟩
theorem dap_next {j : Nat} (ha : DE X T H0 Γ e fe k) (hr : PA X es (tDAP X.K T H0 Γ j fs)) (hs : starEach (e :: es) X.env = (false, eval e X.env) :: starEach es X.env := by rfl) : PA X (e :: es) (tDAP X.K T H0 Γ (j + 1) (aCons fe fs)) :=
  PA.wk (pa_cons ha hr hs) fun σ H Q ⟨F, O, ρ, ds, R, hf, hq⟩ => by
    unfold aCons at hf
    cases h1 : fe ρ with
    | none => rw [h1] at hf; cases hf
    | some x =>
      rw [h1] at hf
      simp only [Option.bind_some] at hf
      cases h2 : fs ρ with
      | none => rw [h2] at hf; cases hf
      | some xs =>
        rw [h2] at hf
        cases hf
        refine ⟨F, O, ρ, x, R, h1, fun F1 H1 v R1 s1 t1 r1 => ⟨F1, O, ρ, xs, R1, h2, fun F2 H2 vs R2 s2 t2 r2 ⟨a, l, g1, g2⟩ => ?_⟩⟩
        exact hq F2 H2 _ R2 (s1.trans s2) (t1.trans t2) (.cons (t2.rU (R1.toB r1)) r2) ⟨a, l, g1, g2⟩
theorem ret_pl {K : PySem.W.Frag} {F H1 H' : Hp} {O : Own} {σ : L2.St} {ρ : List D} {a : Addr} {l : List V} {v : V} {d : D} (R : Rl K T H0 Γ F O σ H1 ρ) (ha : F a = some (.lst l)) (h : RetOk K T (ntb H1) H' (.pl a) v d) : ∃ F', Rl K T H0 Γ F' O σ H' ρ ∧ Same F F' ∧ Sm H1 H' ∧ Rp K T H0 F' H' O (.fl .A) v d := by
  obtain ⟨Fc, a2, vs, ds, e1, e2, s1, s2, ⟨n1, tb⟩, h1, h2, r⟩ := h
  have fh : Same F (ntb H1) := fun b o e => ntb_some (R.fh _ _ e) (R.nF _ _ e)
  have hO2 : ∀ i, ¬ O i a2 := fun i hi => by
    obtain ⟨g1, u, g2, g3⟩ := R.on i a2 hi
    rcases h2 with h2 | h2
    · rw [s1 _ _ (ntb_some g2 (isT_mut g3))] at h2; cases h2
    · subst h2; rw [g1] at ha; cases ha
  have sF0 : Same F (cut Fc fun b => ∃ i, O i b) := fun b o e => by
    rw [cut_out]
    · exact s1 _ _ (fh _ _ e)
    · rintro ⟨i, hi⟩
      rw [(R.on i b hi).1] at e; cases e
  have sm : Sm H1 H' := ⟨fun b o e n => s2 _ _ (s1 _ _ (ntb_some e n))⟩
  have hT : ∀ a o, Fc a = some o → isMut o = false → ¬ ∃ i, O i a := by
    rintro b o e hm ⟨i, hi⟩
    obtain ⟨_, u, g2, g3⟩ := R.on i b hi
    have := s1 _ _ (ntb_some g2 (isT_mut g3))
    rw [e] at this; cases this
    rw [hm] at g3; cases g3
  have r' : Rqs K T H0 .A (cut Fc fun b => ∃ i, O i b) vs ds := (r.cut (fun _ z => z.elim) hT).mono (.refl _) fun _ z => z.elim
  have sF1 : Same (cut Fc fun b => ∃ i, O i b) (upd (cut Fc fun b => ∃ i, O i b) a2 (.lst vs)) := fun b o e => by
    by_cases hb : b = a2
    · subst hb
      rw [upd_same]
      have : Fc b = some o := by
        unfold cut at e
        split at e
        · cases e
        · exact e
      rw [s2 _ _ this] at h1
      exact h1.symm
    · rw [upd_ne hb]; exact e
  refine ⟨upd (cut Fc fun b => ∃ i, O i b) a2 (.lst vs), (R.grow sm tb).more (sF0.trans sF1) (fun b o e => ?_) (n1.cut.upd rfl) (fun i b hi => ?_), sF0.trans sF1, sm, a2, vs, ds, e1, e2, upd_same, sF1.rqs r'⟩
  · by_cases hb : b = a2
    · subst hb; rw [upd_same] at e; cases e; exact h1
    · rw [upd_ne hb] at e
      unfold cut at e
      split at e
      · cases e
      · exact s2 _ _ e
  · have hb : b ≠ a2 := by rintro rfl; exact hO2 i hi
    rw [upd_ne hb]
    exact cut_in ⟨i, hi⟩
theorem de_callPl {i n k : Nat} {ps : List Str} {φ : List D → Option D} (h : OkFP X.prog X.w X.K X.mg X.base T i x ps n φ) (hr : Room k X.A) (hg : Gl X x) (ha : PA X (e :: es) (tDAP X.K T H0 Γ n fs)) (hn : ∀ ρ ds, fs ρ = some ds → ds.length = ps.length) (hj : i ≤ k := by decide)
    (hdb : (x == ("__debug__" : Str)) = false := by decide) (he : starEach (e :: es) X.env = (false, eval e X.env) :: starEach es X.env := by rfl) (hpl : (backTo pos (starEach es X.env)).any (·.1) = false := by rfl) :
    DE X T H0 Γ (.Call (.Name x po) (e :: es) [] pos) (eCall φ fs) (.fl .A) := by
  obtain ⟨f, fd, h1, h2, h3, h4⟩ := h.ex
  refine PE.wk (pe_call h4 (hr.mono hj) hg h1 h2 h3 .nil pass0 ha hdb he hpl) ?_
  rintro σ H Q ⟨F, O, ρ, d, R, hf, hq⟩
  unfold eCall at hf
  cases h1 : fs ρ with
  | none => rw [h1] at hf; cases hf
  | some ds =>
    rw [h1] at hf
    simp only [Option.bind_some] at hf
    refine ⟨F, O, ρ, ds, R, h1, fun F1 H1 vs R1 s1 t1 r1 ⟨a, l, g1, g2⟩ => ?_⟩
    show spPl X.K T ps.length n φ (vs ++ []) H1 Q _
    rw [List.append_nil]
    refine ⟨by rw [r1.length]; exact hn _ _ h1, a, ds, d, g1, R1.tb, r1, hf, fun H' v r => ?_⟩
    obtain ⟨F2, R2, s2, t2, r2⟩ := ret_pl R1 g2 r
    exact hq F2 H' v R2 (s1.trans s2) (t1.trans t2) r2
end
end DL

/-! texts: join, split, a sign of a text, a sign in a text, int(a text), len, slices, startswith -/
namespace DL
open PySem PySem.Spec PyProof.Rows L2
def strsOf : List D → Option (List Str)
  | [] => some []
  | .str s :: r => (strsOf r).map (s :: ·)
  | _ :: _ => none
theorem strs_vals {K : PySem.W.Frag} {T : Tb} {N : Addr → Prop} {F : Hp} : ∀ {vs : List V} {ds : List D} {ys : List Str}, RepsG K T N F vs ds → strsOf ds = some ys → vs = ys.map V.str
  | _, [], _, r, h => by cases h; cases r; rfl
  | _, d :: ds, ys, .cons r rs, h => by
    cases d <;> first | (cases h; done) | skip
    rename_i s
    unfold strsOf at h
    cases h1 : strsOf ds with
    | none => rw [h1] at h; cases h
    | some zs =>
      rw [h1] at h
      cases h
      cases r
      rw [strs_vals rs h1]; rfl
theorem strs_reps {K : PySem.W.Frag} {T : Tb} {N : Addr → Prop} {F : Hp} : ∀ ys : List Str, RepsG K T N F (ys.map V.str) (ys.map D.str)
  | [] => .nil
  | y :: ys => .cons (.str y) (strs_reps ys)
def gJoin (x y : D) : Option D := match x, y with
  | .str a, .lst ds => (strsOf ds).bind fun ys => if (ys.map (·.length)).sum + ys.length * a.length ≤ 16777216 then some (.str (Txt.join a ys)) else none
  | _, _ => none
def gSplit (x y : D) : Option D := match x, y with
  | .str a, .str b => if (b.length == 0) = false ∧ a.length + 2 ≤ 1000000 then some (.lst ((Txt.split a b).map .str)) else none
  | _, _ => none
def gStart (x y : D) : Option D := match x, y with
  | .str a, .str b => some (.bl (Txt.startswith a b))
  | _, _ => none
def gIxS (x y : D) : Option D := match x, y with
  | .str z, .int i => if z.length ≤ 1000000 then (atI z.cps.toList i).map fun c => .str ⟨#[c]⟩ else none
  | _, _ => none
def gInS (x y : D) : Option D := match x, y with
  | .str ⟨⟨[c]⟩⟩, .str z => some (.bl (decide (c ∈ z.cps.toList)))
  | _, _ => none
def gIntS (x : D) : Option D := match x with
  | .str a => (PySem.intText? a).bind fun n => if a.length ≤ 640 then some (.int n) else none
  | _ => none
def gLenS (x : D) : Option D := match x with
  | .str z => if z.length ≤ 1000000 then some (.int z.length) else none
  | _ => none
def gSlS (x : D) (l h : Option Int) : Option D := match x with
  | .str z => if z.length ≤ 1000000 then some (.str (L2.cutS z l h)) else none
  | _ => none
def rSign : R2 := fun x y H Q => ∃ (c : Nat) (z : Str), x = .str ⟨#[c]⟩ ∧ y = .str z ∧ Q (.bl (decide (c ∈ z.cps.toList))) H
theorem op_sign {X : Cx} : OpR X (compareOp .In) rSign := op_in_sign
theorem mill : (1000000 : Nat) ≤ sizeLine := by rw [sizeLine_eq]; omega
section
variable {X : Cx} {T : Tb} {H0 : HZ} {Γ : List Mode} {a b o e : Expr} {fa fb : EF} {k ka kb : Knd} {pos po apos p2 : Pos} {q : Q3} {lo hi : Option Expr} {fl fh : List D → Option (Option Int)}
theorem m1_sem {K : PySem.W.Frag} {r : V → List V → Hp → VK → Prop} {g : D → D → Option D} (hs : ∀ x y d, g x y = some d → ∃ a, x = .str a)
    (hr : ∀ F O σ H ρ a u y d Q, Rl K T H0 Γ F O σ H ρ → Rp K T H0 F H O kb u y → g (.str a) y = some d → (∀ F' H' w, Rl K T H0 Γ F' O σ H' ρ → Same F F' → Sm H H' → Rp K T H0 F' H' O k w d → Q w H') → r (.str a) [u] H Q) :
    ∀ σ H Q, tD K T H0 Γ (e2 g fa fb) k σ H Q → tM1 r (tD K T H0 Γ fa ka) (tD K T H0 Γ fb kb) σ H Q := by
  rintro σ H Q ⟨F, O, ρ, d, R, hf, hq⟩
  unfold e2 at hf
  cases h1 : fa ρ with
  | none => rw [h1] at hf; cases hf
  | some x =>
    rw [h1] at hf
    simp only [Option.bind_some] at hf
    cases h2 : fb ρ with
    | none => rw [h2] at hf; cases hf
    | some y =>
      rw [h2] at hf
      simp only [Option.bind_some] at hf
      obtain ⟨s, rfl⟩ := hs _ _ _ hf
      refine ⟨F, O, ρ, _, R, h1, fun F1 H1 v R1 s1 t1 r1 => ?_⟩
      have hv : v = .str s := r1.str
      subst hv
      exact ⟨⟨s, rfl⟩, F1, O, ρ, y, R1, h2, fun F2 H2 u R2 s2 t2 r2 => hr F2 O σ H2 ρ s u y d Q R2 r2 hf fun F' H' w R' s' t' rw => hq F' H' w R' ((s1.trans s2).trans s') ((t1.trans t2).trans t') rw⟩
theorem de_join (ho : DE X T H0 Γ o fa ka) (he : DE X T H0 Γ e fb kb) (hk : kb.its = some q) (hs : starEach [e] X.env = [(false, eval e X.env)] := by rfl) (hbase : attributeBase o "join" X.env (eval o X.env) = eval o X.env := by rfl) (hline : (apos.endLine == pos.line) = true := by rfl) :
    DE X T H0 Γ (.Call (.Attribute o "join" apos) [e] [] pos) (e2 gJoin fa fb) (.q .A) :=
  PE.wk (pe_join ho he hs hbase hline) (m1_sem (fun x y d h => by unfold gJoin at h; split at h <;> first | exact ⟨_, rfl⟩ | cases h) fun F O σ H ρ a u y d Q R ru hg hq => by
    cases y <;> first | (cases hg; done) | skip
    rename_i ds
    have hg : ((strsOf ds).bind fun ys => if (ys.map (·.length)).sum + ys.length * a.length ≤ 16777216 then some (.str (Txt.join a ys)) else none) = some d := hg
    cases h1 : strsOf ds with
    | none => rw [h1] at hg; cases hg
    | some ys =>
      rw [h1] at hg
      simp only [Option.bind_some] at hg
      split at hg
      · rename_i hl
        cases hg
        obtain ⟨p, vs, rfl, h2, h3⟩ := Rp.lst R ru hk
        rw [strs_vals h3 h1] at h2
        exact ⟨_, p, ys, rfl, rfl, .inl (SqL.of h2), hl, hq F H _ R (.refl _) (.refl _) (RepG.str _)⟩
      · cases hg)
theorem de_split (ho : DE X T H0 Γ o fa ka) (he : DE X T H0 Γ e fb kb) (hs : starEach [e] X.env = [(false, eval e X.env)] := by rfl) (hbase : attributeBase o "split" X.env (eval o X.env) = eval o X.env := by rfl) (hline : (apos.endLine == pos.line) = true := by rfl) :
    DE X T H0 Γ (.Call (.Attribute o "split" apos) [e] [] pos) (e2 gSplit fa fb) (.ol .A) :=
  PE.wk (pe_split ho he hs hbase hline) (m1_sem (fun x y d h => by unfold gSplit at h; split at h <;> first | exact ⟨_, rfl⟩ | cases h) fun F O σ H ρ a u y d Q R ru hg hq => by
    cases y <;> first | (cases hg; done) | skip
    rename_i b'
    have hg : (if (b'.length == 0) = false ∧ a.length + 2 ≤ 1000000 then some (D.lst ((Txt.split a b').map .str)) else none) = some d := hg
    split at hg
    · rename_i hl
      cases hg
      have hu : u = .str b' := ru.str
      subst hu
      have := mill
      exact ⟨_, b', rfl, rfl, hl.1, by omega, fun p hp => new_lst R (strs_reps _) hq p hp⟩
    · cases hg)
theorem de_start (ho : DE X T H0 Γ o fa ka) (he : DE X T H0 Γ e fb kb) (hs : starEach [e] X.env = [(false, eval e X.env)] := by rfl) (hbase : attributeBase o "startswith" X.env (eval o X.env) = eval o X.env := by rfl) (hline : (apos.endLine == pos.line) = true := by rfl) :
    DE X T H0 Γ (.Call (.Attribute o "startswith" apos) [e] [] pos) (e2 gStart fa fb) (.q q) :=
  PE.wk (pe_m1 F.slot_str_startswith F.type_str_startswith mt_startswith ho he hs hbase hline) (m1_sem (fun x y d h => by unfold gStart at h; split at h <;> first | exact ⟨_, rfl⟩ | cases h) fun F O σ H ρ a u y d Q R ru hg hq => by
    cases y <;> first | (cases hg; done) | skip
    rename_i b'
    cases hg
    have hu : u = .str b' := ru.str
    subst hu
    exact ⟨_, b', rfl, rfl, hq F H _ R (.refl _) (.refl _) (RepG.bl _)⟩)
theorem de_ixs (ha : DE X T H0 Γ a fa ka) (hb : DE X T H0 Γ b fb kb) (hp : ka.pers = true := by rfl) (hs : PlainIx b := by exact fun _ _ => rfl) : DE X T H0 Γ (.Subscript a b pos) (e2 gIxS fa fb) (.q q) :=
  PE.wk (pe_ix ix_str ha hb hs) (bin_sem hp fun F O σ H ρ v u x y d Q R rv ru hg hq => by
    unfold gIxS at hg
    split at hg
    · rename_i z i
      split at hg
      · rename_i hl
        cases h1 : atI z.cps.toList i with
        | none => rw [h1] at hg; cases hg
        | some c =>
          rw [h1] at hg
          cases hg
          have := mill
          exact ⟨z, i, c, rv.str, ru.int, by omega, h1, hq F H _ R (.refl _) (.refl _) (RepG.str _)⟩
      · cases hg
    · cases hg)
theorem cs_inS {K : PySem.W.Frag} (hp : ka.pers = true) : ∀ σ H Q, tD K T H0 Γ (e2 gInS fa fb) (.q q) σ H Q → tOp rSign (tD K T H0 Γ fa ka) (tD K T H0 Γ fb kb) σ H Q := bin_sem hp fun F O σ H ρ v u x y d Q R rv ru hg hq => by
  unfold gInS at hg
  split at hg
  · rename_i c z
    cases hg
    exact ⟨c, z, rv.str, ru.str, hq F H _ R (.refl _) (.refl _) (RepG.bl _)⟩
  · cases hg
theorem de_intS (hg : Gl X "int") (hm : X.mg "int" = none) (ha : DE X T H0 Γ a fa ka) (hs : starEach [a] X.env = (false, eval a X.env) :: starEach [] X.env := by rfl) : DE X T H0 Γ (.Call (.Name "int" po) [a] [] pos) (e1 gIntS fa) (.q q) :=
  PE.wk (pe_callTy call_int_str hg hm (by decide +kernel) (pa_cons ha pa_nil hs) (he := hs)) (callB_semK fun F O σ H ρ v x d Q R rv hg hq => by
    unfold gIntS at hg
    split at hg
    · rename_i z
      cases h1 : PySem.intText? z with
      | none => rw [h1] at hg; cases hg
      | some n =>
        rw [h1] at hg
        simp only [Option.bind_some] at hg
        split at hg
        · rename_i hl
          cases hg
          have hv : v = .str z := rv.str
          subst hv
          exact ⟨z, n, rfl, h1, hl, hq F H _ R (.refl _) (.refl _) (RepG.int _)⟩
        · cases hg
    · cases hg)
theorem de_lenS (hg : Gl X "len") (hm : X.mg "len" = none) (ha : DE X T H0 Γ a fa ka) (hs : starEach [a] X.env = (false, eval a X.env) :: starEach [] X.env := by rfl) : DE X T H0 Γ (.Call (.Name "len" po) [a] [] pos) (e1 gLenS fa) (.q q) :=
  PE.wk (pe_callB call_len_str hg hm (by decide +kernel) (pa_cons ha pa_nil hs) (he := hs)) (callB_semK fun F O σ H ρ v x d Q R rv hg hq => by
    unfold gLenS at hg
    split at hg
    · rename_i z
      split at hg
      · rename_i hl
        cases hg
        have hv : v = .str z := rv.str
        subst hv
        have := mill
        exact ⟨z, rfl, by omega, hq F H _ R (.refl _) (.refl _) (RepG.int _)⟩
      · cases hg
    · cases hg)
theorem de_slS (ha : DE X T H0 Γ a fa ka) (hl : DO X T H0 Γ lo fl) (hh : DO X T H0 Γ hi fh) (hp : ka.pers = true := by rfl) : DE X T H0 Γ (.Subscript a (.Slice lo hi none p2) pos) (eSl gSlS fa fl fh) (.q q) :=
  PE.wk (pe_slice sl_str ha hl hh) (sl_sem hp fun F O σ H ρ v x l h d Q R rv hg hq => by
    unfold gSlS at hg
    split at hg
    · rename_i z
      split at hg
      · rename_i hz
        cases hg
        have hv : v = .str z := rv.str
        subst hv
        have := mill
        exact ⟨z, rfl, by omega, hq F H _ R (.refl _) (.refl _) (RepG.str _)⟩
      · cases hg
    · cases hg)
end
end DL

/-! xs.pop(): given to a name; as the argument of a method whose list a loop walks -/
namespace DL
open PySem PySem.Spec PyProof.Rows L2
def sPop (i j : Nat) : SF := fun ρ => match ρ[i]? with
  | some (.lst ds) => (ds[ds.length - 1]?).bind fun d => some (.nx ((ρ.set i (.lst ds.dropLast)).set j d))
  | _ => none
def sForPop (i : Nat) (fi : List D → D → Option (List D)) (tgd : D → List D → Option (List D)) (f : SF) (cl : List Nat) : SF := fun ρ => match ρ[i]? with
  | some (.lst ds) => (ds[ds.length - 1]?).bind fun d => (fi ρ d).bind fun items => loopD tgd f cl items (clrs cl (ρ.set i (.lst ds.dropLast)))
  | _ => none
/-- the list that a method tells of an object and of one thing more -/
def iMethP (c : Nat) (φ : List D → Option D) (fo : EF) : List D → D → Option (List D) := fun ρ d => (fo ρ).bind fun ob => match ob with
  | .ins c' os => if c' = c then (φ [.ins c os, d]).bind fun r => (match r with
    | .lst items => some items
    | _ => none) else none
  | _ => none
theorem RepsG.dropLast {K : PySem.W.Frag} {T : Tb} {N : Addr → Prop} {F : Hp} {vs : List V} {ds : List D} (r : RepsG K T N F vs ds) : RepsG K T N F vs.dropLast ds.dropLast := by
  rw [List.dropLast_eq_take, List.dropLast_eq_take, r.length]
  exact r.take _
section
variable {X : Cx} {T : Tb} {H0 : HZ} {Γ Γ1 Γn Γm : List Mode} {J : Jm} {e a b o tg iter : Expr} {es : List Expr} {st : Stmt} {sts : List Stmt} {f g : SF} {fe fa fb fo : EF} {k ka kb : Knd} {pos po pos' apos : Pos} {q p k3 : Q3} {fs : List D → Option (List D)} {x : Str} {cl : Nat}
theorem last_at {K : PySem.W.Frag} {N : Addr → Prop} {F : Hp} {vs : List V} {ds : List D} {d : D} (r : RepsG K T N F vs ds) (h : ds[ds.length - 1]? = some d) : ∃ v, vs[vs.length - 1]? = some v ∧ RepG K T N F v d := by
  obtain ⟨v, h1, h2⟩ := r.get h
  exact ⟨v, by rw [r.length]; exact h1, h2⟩
/-- y = xs.pop() -/
theorem ds_popTo (i : Nat) {j : Nat} {y : Str} (hm : Γ[i]? = some (.ow q)) (hN : X.N.Nodup) (hi : X.N[j]? = some y) (hx : Loc X.env.scope y) (h : PE X e (tBM0 X.K "list" rPop (tVar i))) (hl : j < Γ.length := by decide) (hs : swapsWith e (some (.Name y pos')) pos.line X.env = pure false := by rfl)
    (hf : X.fn y = true ∨ X.env.scope.names.lookup y = some .local := by first | exact .inl rfl | exact .inr rfl | assumption) :
    DS X T H0 Γ (.Assign [.Name y pos'] e pos) (sPop i j) (Γ.set j (.fz q)) J :=
  PS.wk (ps_set hN hi hx h hs hf) fun E σ H ⟨F, O, ρ, out, R, hf, hq⟩ => by
    obtain ⟨a, vs, ds, h1, h2, h3, h4, h5⟩ := R.sl i _ hm
    unfold sPop at hf
    rw [h2] at hf
    have hf : ((ds[ds.length - 1]?).bind fun d => some (Out.nx ((ρ.set i (.lst ds.dropLast)).set j d))) = some out := hf
    cases h6 : ds[ds.length - 1]? with
    | none => rw [h6] at hf; cases hf
    | some d =>
      rw [h6] at hf
      cases hf
      obtain ⟨v, h7, h8⟩ := last_at h5 h6
      refine ⟨.ref a, h1, .inl ⟨rfl, vs, SqL.of h3⟩, a, vs, v, rfl, rfl, h3, h7, ?_⟩
      have R2 := R.upo (us := vs.dropLast) (ds := ds.dropLast) (q := q) hm h1 h3 h4 h5.dropLast
      rw [set_same hm] at R2
      exact hq F O _ _ (.refl _) (R2.setq hl h8)
/-- the turns of a loop -/
theorem for_tail {gg : TG} {vs : List Nat} {tgd : D → List D → Option (List D)} {cl : List Nat} {E : Ends} {items : List D} {J1 : It} {F1 H1 : Hp} {O1 : Own} {σ1 : L2.St} {ρ1 : List D} {out : Out}
    (hs : TgS X.K T H0 Γ gg vs tgd q Γ1) (hcl : cl.all (fun i => decide (Γ[i]? = some .no)) = true)
    (ok : ItOk X.K T H0 J1 items q false F1 H1) (R1 : Rl X.K T H0 Γ F1 O1 σ1 H1 ρ1) (hf : loopD tgd f cl items (clrs cl ρ1) = some out) (hq : Fin X.K T H0 F1 Γ J E out) :
    ∃ W : Nat → Nat → L2.St → Hp → Prop, (∃ m, W 0 m σ1 H1) ∧ ∀ i m σ H, W i m σ H → (J1.stop i H ∧ E.nx σ H) ∨ (J1.go i H ∧ ∃ N : L2.St → Hp → Prop, (∀ σ' H', N σ' H' → ∃ m', m' < m ∧ W (i + 1) m' σ' H') ∧ ∀ x H', J1.yld i H x H' → gg x σ H' fun σ2 H2 => tDS X.K T H0 Γ1 f Γ ⟨Γ, Γ, J.r, J.x, J.w⟩ { E with nx := N, ct := N, bk := E.nx } σ2 H2) := by
  refine ⟨fun i m σ H => m = items.length - i ∧ i ≤ items.length ∧ ∃ F2 O2 ρ2 out2, Same F1 F2 ∧ Rl X.K T H0 Γ F2 O2 σ H ρ2 ∧ loopD tgd f cl (items.drop i) ρ2 = some out2 ∧ Fin X.K T H0 F2 Γ J E out2,
    ⟨items.length, by simp, Nat.zero_le _, F1, O1, clrs cl ρ1, out, .refl _, R1.clr hcl, by simpa using hf, hq⟩, ?_⟩
  rintro i m σ2 H2 ⟨rfl, hi, F2, O2, ρ2, out2, s2, R2, hl, hq2⟩
  obtain ⟨ok1, ok2⟩ := ok i F2 H2 s2 R2.fh (fun z => nomatch z)
  by_cases hlt : i < items.length
  · obtain ⟨hgo, hy⟩ := ok1 items[i] (List.getElem?_eq_getElem hlt)
    rw [List.drop_eq_getElem_cons hlt] at hl
    unfold loopD at hl
    cases h3 : tgd items[i] ρ2 with
    | none => rw [h3] at hl; cases hl
    | some ρ3 =>
      rw [h3] at hl
      simp only [Option.bind_some] at hl
      cases h4 : f ρ3 with
      | none => rw [h4] at hl; cases hl
      | some o4 =>
        rw [h4] at hl
        simp only [Option.bind_some] at hl
        refine .inr ⟨hgo, fun σ5 H5 => ∃ F5 O5 ρ5 out5, Same F1 F5 ∧ Rl X.K T H0 Γ F5 O5 σ5 H5 ρ5 ∧ loopD tgd f cl (items.drop (i + 1)) ρ5 = some out5 ∧ Fin X.K T H0 F5 Γ J E out5,
          fun σ5 H5 h5 => ⟨items.length - (i + 1), by omega, rfl, hlt, h5⟩, fun x H3 hx => ?_⟩
        obtain ⟨t3, F3, u3, v3, w3, r3⟩ := hy x H3 hx
        have R3 : Rl X.K T H0 Γ F3 O2 σ2 H3 ρ2 := (R2.growN t3).more u3 v3 (w3.2 R2.nF) fun j b hb => by
          obtain ⟨z1, o, z2, z3⟩ := R2.on j b hb
          exact w3.1 b z1 ⟨o, z2, z3⟩
        refine hs F3 O2 σ2 H3 ρ2 x _ ρ3 _ R3 r3 h3 fun σ4 R4 _ _ => ⟨F3, O2, ρ3, o4, R4, h4, ?_⟩
        cases o4 with
        | nx ρ' => exact fun F6 O6 σ6 H6 s6 R6 => ⟨F6, O6, _, out2, (s2.trans u3).trans s6, R6.clr hcl, hl, hq2.from (u3.trans s6)⟩
        | ct ρ' => exact fun F6 O6 σ6 H6 s6 R6 => ⟨F6, O6, _, out2, (s2.trans u3).trans s6, R6.clr hcl, hl, hq2.from (u3.trans s6)⟩
        | bk ρ' =>
          cases hl
          exact fun F6 O6 σ6 H6 s6 R6 => hq2 F6 O6 σ6 H6 (u3.trans s6) (R6.clr hcl)
        | rt d =>
          cases hl
          exact hq2
        | ex c es ρ' =>
          cases hl
          exact fun F6 O6 σ6 H6 cls od s6 R6 x6 => hq2 F6 O6 σ6 H6 cls od (u3.trans s6) R6 x6
  · have : i = items.length := by omega
    subst this
    rw [List.drop_length] at hl
    cases hl
    exact .inl ⟨ok2 (Nat.le_refl _), hq2 F2 O2 σ2 H2 (.refl _) R2⟩
theorem ds_forPop (i : Nat) {j r : Nat} {m : Str} {ps : List Str} {φ : List D → Option D} {pl : Sem Bool} {gg : TG} {vs : List Nat} {tgd : D → List D → Option (List D)} {body : List Stmt} {cs : List Nat} {cpos : Pos} (hm : Γ[i]? = some (.ow p)) (hcm : X.calm = true) (hp : PassesOwn (model X.prog X.w) X.A X.env X.xe)
    (h : OkM X.prog X.w X.K X.mg X.base T j cl m ps φ (.ol q)) (hr : Room r X.A) (ho : DE X T H0 Γ o fo (.q k3)) (he : PE X e (tBM0 X.K "list" rPop (tVar i))) (hn : ps.length = 2) (hg : PG X tg gg) (hs : TgS X.K T H0 Γ gg vs tgd q Γ1) (hb : DSs X T H0 Γ1 body f Γ ⟨Γ, Γ, J.r, J.x, J.w⟩)
    (hcl : cs.all (fun i => decide (Γ[i]? = some .no)) = true) (hj : j ≤ r := by decide) (hk : (RK.ol q).ok = true := by rfl)
    (hst : starEach [e] X.env = (false, eval e X.env) :: starEach [] X.env := by rfl) (hpl : (backTo cpos (starEach [] X.env)).any (·.1) = false := by rfl)
    (ht : eval (.Call (.Attribute o m apos) [e] [] cpos) X.env = (do
      let ov ← eval o X.env
      standAt apos.atName
      let (f, first) ← holding [ov] (getMethod ov m pl)
      callWith cpos f first (backTo cpos (starEach [e] X.env)) (backToKw cpos (keywordEach [] X.env))) := by rfl)
    (hfs : ∀ x, foldedSetIterable (.Call (.Attribute o m apos) [e] [] cpos) X.env x = pure x := by intro _; rfl) :
    DS X T H0 Γ (.For tg (.Call (.Attribute o m apos) [e] [] cpos) body [] pos) (sForPop i (iMethP cl φ fo) tgd f cs) Γ J := by
  obtain ⟨fa, fd, h1, h2, h3⟩ := h.ex
  refine PS.wk (ps_for hp hcm (pi_list (pe_meth (E := fun _ _ _ => False) ho h.cl h1 h3 (hr.mono hj) h2 .nil pass0 (pa_cons he pa_nil hst) hst hpl ht)) hg hb hfs) fun E σ H ⟨F, O, ρ, out, R, hf, hq⟩ => ?_
  obtain ⟨a, vs, ds, g1, g2, g3, g4, g5⟩ := R.sl i _ hm
  unfold sForPop at hf
  rw [g2] at hf
  clear g1 g3 g4 g5
  have hf2 : ((ds[ds.length - 1]?).bind fun d => (iMethP cl φ fo ρ d).bind fun items => loopD tgd f cs items (clrs cs (ρ.set i (.lst ds.dropLast)))) = some out := hf
  clear hf
  cases h6 : ds[ds.length - 1]? with
  | none => rw [h6] at hf2; cases hf2
  | some d =>
    rw [h6] at hf2
    simp only [Option.bind_some] at hf2
    cases h7 : iMethP cl φ fo ρ d with
    | none => rw [h7] at hf2; cases hf2
    | some items =>
      rw [h7] at hf2
      simp only [Option.bind_some] at hf2
      unfold iMethP at h7
      cases h8 : fo ρ with
      | none => rw [h8] at h7; cases h7
      | some ob =>
        rw [h8] at h7
        simp only [Option.bind_some] at h7
        split at h7
        · rename_i c' os
          split at h7
          · rename_i hc
            subst hc
            cases h9 : φ [.ins c' os, d] with
            | none => rw [h9] at h7; cases h7
            | some rr =>
              rw [h9] at h7
              simp only [Option.bind_some] at h7
              split at h7
              · cases h7
                refine ⟨F, O, ρ, _, R, h8, fun F1 H1 v R1 s1 t1 r1 => ?_⟩
                obtain ⟨a1, dx, fs', e1, h3', h4', _⟩ := Rp.ins R1 r1
                refine ⟨a1, dx, fs', e1, h3', lookup_no (by rw [h4']; exact h.no), ?_⟩
                obtain ⟨b1, vs1, ds1, k1, k2, k3', k4, k5⟩ := R1.sl i _ hm
                rw [g2] at k2
                cases k2
                obtain ⟨w, l1, l2⟩ := last_at k5 h6
                refine ⟨.ref b1, k1, .inl ⟨rfl, vs1, SqL.of k3'⟩, b1, vs1, w, rfl, rfl, k3', l1, ?_⟩
                have R2 := R1.upo (us := vs1.dropLast) (ds := ds.dropLast) (q := p) hm k1 k3' k4 k5.dropLast
                rw [set_same hm] at R2
                show spD X.K T ps.length φ (.ol q) [v, w] (upd H1 b1 (.lst vs1.dropLast)) _ (fun _ _ _ => False)
                refine ⟨by rw [hn]; rfl, [.ins c' os, d], _, R2.tb, .cons (R2.U_of r1) (.cons (R2.U_of l2) .nil), h9, fun H' u ret => ?_⟩
                obtain ⟨F3, R3, s3, t3, r3⟩ := ret_in R2 ret hk
                obtain ⟨a4, vs4, ds4, e4, e5, n1, n2, n3, n4⟩ := r3
                cases e5
                obtain ⟨R5, s5⟩ := fz_new R3 n1 n2 n3
                subst e4
                refine ⟨a4, rfl, ⟨vs4, SqL.of n1⟩, ?_⟩
                exact for_tail hs hcl (itl_ok (.inl (.inl upd_same)) (s5.rqs n4)) R5 hf2 (hq.from ((s1.trans s3).trans s5))
              · cases h7
          · cases h7
        · cases h7
end
end DL

/-! xs.remove(y), y of any depth; dicts compared that are the same; a dict that a def may hand back or not; narrowing -/
namespace PySem.SeqAt
open AutoSeq1 (wpAny_loadPart')
open MeetsSeq MeetsSeq2 MeetsSeq3 SeqRoads2
theorem remove_loopAt (l : Addr) (items : Array Value) (n : Nat) (x : Value) (e : Value → Bool) (j : Nat) (hj : j < items.size) (hit : e items[j] = true) (k : Nat) (hs1 : items.size ≤ sizeLine) :
    ∀ i : Nat, j - i = k → i ≤ j → (∀ m (hm : m < items.size), i ≤ m → m < j → e items[m] = false) → Meets (Builtin.«list.remove.loop» ⟨[.ref l, x, rawInt i], []⟩)
      (fun A R s => s.heap.get? l = some { cls := .type "list", dict := none, data := .seq items n, slots := #[] } ∧ (∀ y, y ∈ items → EqAt A.in1 s y x (e y)) ∧ R (.ok (.ret .none)) { s with heap := s.heap.update l (Obj.mapSeq fun xs => xs.eraseIdxIfInBounds j) }) := by
  induction k with
  | zero =>
    intro i hk hij hno prog w A R s h
    obtain ⟨hp, g, d, tk, os⟩ := s; obtain ⟨hl, he, h⟩ := h
    have hij' : i = j := by omega
    subst hij'
    wp_walk using wpAny_loadPart' hl
    have hi : items[((i : Nat) : Int).toNat]? = some items[i] := by simp [hj]
    rw [hi]
    refine wpAny_bind (he _ (Array.getElem_mem hj) prog w _ _ ?_)
    rw [hit]
    have hz' : (items.eraseIdxIfInBounds i).size ≤ sizeLine + 1 := Nat.le_trans (size_erased items _) (Nat.le_succ_of_le hs1)
    wp_walk using (wpAny_updateSeq hl rfl (hz := hs1) (_hz' := hz')), wpAny_loadPart' hl
    simpa using h
  | succ k ih =>
    intro i hk hij hno prog w A R s h
    obtain ⟨hp, g, d, tk, os⟩ := s; obtain ⟨hl, he, h⟩ := h
    have hlt : i < items.size := by omega
    wp_walk using wpAny_loadPart' hl
    have hi : items[((i : Nat) : Int).toNat]? = some items[i] := by simp [hlt]
    have hc : ((i : Int) + 1) = ((i + 1 : Nat) : Int) := by push_cast; rfl
    rw [hi]
    refine wpAny_bind (he _ (Array.getElem_mem hlt) prog w _ _ ?_)
    rw [hno i hlt (Nat.le_refl _) (by omega)]
    wp_walk
    rw [hc]
    exact ⟨plainId_quiet plain_remove_loop _, codeAny_builtin entry_remove_loop (by
      rw [Around.under_plainId plain_remove_loop _]
      exact ih (i + 1) (by omega) (by omega) (fun m hm h1 h2 => hno m hm (by omega) h2) prog w A R _ ⟨hl, he, h⟩)⟩
theorem list_removeAt (l : Addr) (items : Array Value) (n : Nat) (x : Value) (e : Value → Bool) (j : Nat) (hj : j < items.size)
    (hit : e items[j] = true) (hno : ∀ m (hm : m < items.size), m < j → e items[m] = false) (hs1 : items.size ≤ sizeLine) :
    Meets (Builtin.«list.remove» ⟨[.ref l, x], []⟩)
      (fun A R s => s.heap.get? l = some { cls := .type "list", dict := none, data := .seq items n, slots := #[] } ∧ (∀ y, y ∈ items → EqAt A.in1 s y x (e y)) ∧ R (.ok (.ret .none)) { s with heap := s.heap.update l (Obj.mapSeq fun xs => xs.eraseIdxIfInBounds j) }) := by
  intro prog w A R s h
  obtain ⟨hp, g, d, tk, os⟩ := s; obtain ⟨hl, he, h⟩ := h
  wp_walk using wpAny_loadPart' hl
  exact ⟨plainId_quiet plain_remove_loop _, codeAny_builtin entry_remove_loop (by
    rw [Around.under_plainId plain_remove_loop _]
    exact remove_loopAt l items n x e j hj hit _ hs1 0 rfl (Nat.zero_le _) (fun m hm _ h2 => hno m hm h2) prog w A R _ ⟨hl, he, h⟩)⟩
end PySem.SeqAt
namespace DL
open PySem PySem.Spec PyProof.Rows L2
section
variable {X : Cx}
def rRemD (K : PySem.W.Frag) : V → List V → Hp → VK → Prop := fun x xs H Q => ∃ (a : Addr) (vs : List V) (y : V) (d : PyData) (ds : List PyData) (j : Nat) (z : PyData), x = V.ref a ∧ xs = [y] ∧ H a = some (.lst vs) ∧ DpAll K H vs ds ∧ Dp K H y d ∧
  SeqAt.shaped (.list ds) = true ∧ SeqAt.shaped d = true ∧ ds[j]? = some z ∧ PyData.eqv z d = true ∧ (∀ (m : Nat) (z' : PyData), m < j → ds[m]? = some z' → PyData.eqv z' d = false) ∧ Q .non (upd H a (.lst (vs.eraseIdx j)))
theorem mt_removeD (hu : X.A.units + 65 < cLine) : MtR X "list.remove" (rRemD X.K) := by
  intro pins s σ H x xs v us Q I rx rxs h
  obtain ⟨a, vs, y, d, ds, j, z, rfl, rfl, hH, ha, hy, sl, sd, hz, hzj, hno, q⟩ := h
  cases rx
  obtain ⟨uy, rfl, ry⟩ := rxs.one
  obtain ⟨bs, r1⟩ := Dp.reads I d y uy hy ry
  have hxs : PyData.canLayAll0 ds = true := SeqAt.canLay_of_shaped sl
  have hroom : X.A.units + 1 + min (PyData.depthAll ds) d.depth < cLine := room_in_shaped sd hu
  obtain ⟨z1, its, n, r, hl, e⟩ := I.lstM hH
  obtain ⟨as, h4⟩ := Dp.readsAll I ds _ its ha r
  have hn : its.length = ds.length := SeqAt.ReadsAll.length ds its as h4
  have hmap : its.map (SeqAt.readOf s.heap) = ds := SeqAt.readsAll_map ds its as hxs h4
  obtain ⟨hjd, _⟩ := List.getElem?_eq_some_iff.mp hz
  have hjl : j < its.length := by omega
  have hj : j < its.toArray.size := by simpa using hjl
  have at_ : ∀ (m : Nat) (hm : m < its.toArray.size) (z' : PyData), ds[m]? = some z' → SeqAt.readOf s.heap its.toArray[m] = z' := by
    intro m hm z' hz'
    have hml : m < its.length := by simpa using hm
    rw [← hmap, List.getElem?_map, List.getElem?_eq_getElem hml] at hz'
    have e1 : SeqAt.readOf s.heap its[m] = z' := Option.some.inj (show some (SeqAt.readOf s.heap its[m]) = some z' from hz')
    simpa using e1
  refine call_meets PySem.F.slot_list_remove ⟨_, e, rfl⟩ PySem.F.entry_list_remove (PySem.F.args_list_remove_2 _ _)
    (SeqAt.list_removeAt a its.toArray n uy (fun u => PyData.eqv (SeqAt.readOf s.heap u) d) j hj ?_ ?_ (by rw [List.size_toArray]; omega)) ⟨e, SeqAt.items_eqAt (vs := its.toArray) (show ReadsAll s.heap its.toArray.toList ds as from h4) r1 hxs (SeqAt.canLay_of_shaped sd) hroom, ?_⟩
  · show PyData.eqv (SeqAt.readOf s.heap its.toArray[j]) d = true
    rw [at_ j hj z hz]
    exact hzj
  · intro m hm hmj
    have hmd : m < ds.length := by omega
    have hz' : ds[m]? = some ds[m] := List.getElem?_eq_getElem hmd
    show PyData.eqv (SeqAt.readOf s.heap its.toArray[m]) d = false
    rw [at_ m hm _ hz']
    exact hno m _ hmj hz'
  · refine ⟨.non, _, I.lset (its' := its.eraseIdx j) (t' := s.toks) hH e ?_ (r.eraseIdx j) ?_, rfl, q⟩
    · show its.toArray.eraseIdxIfInBounds j = (its.eraseIdx j).toArray
      rw [List.eraseIdxIfInBounds_toArray]
    · have z2 := len_erase vs j
      omega
end
def sRem (i : Nat) (fe : EF) : SF := fun ρ => match ρ[i]? with
  | some (.lst ds) => (fe ρ).bind fun y => if dok 6 y = true ∧ (ds.all (dok 6)) = true then (firstD (fun z => PyData.eqv (conv 6 z) (conv 6 y)) 0 ds).map fun j => .nx (ρ.set i (.lst (ds.eraseIdx j))) else none
  | _ => none
def sNarw (i : Nat) (f : SF) : SF := fun ρ => match ρ[i]? with
  | some (.dic _ _) => f ρ
  | _ => none
def sameI (ks : List Key) (ds : List D) (ls : List Key) (es : List D) : Bool := decide (ks.length = ls.length) && (ks.zip ds).all fun p => match p.2, dFind ls es p.1 with
  | .int i, some (.int j) => decide (i = j)
  | _, _ => false
def gEqDI (x y : D) : Option D := match x, y with
  | .dic ks ds, .dic ls es => if sameI ks ds ls es = true then some (.bl true) else none
  | _, _ => none
def gNeDI (x y : D) : Option D := match x, y with
  | .dic ks ds, .dic ls es => if sameI ks ds ls es = true then some (.bl false) else none
  | _, _ => none
theorem RepsG.eraseIdx {K : PySem.W.Frag} {T : Tb} {N : Addr → Prop} {F : Hp} : ∀ {vs : List V} {ds : List D} (j : Nat), RepsG K T N F vs ds → RepsG K T N F (vs.eraseIdx j) (ds.eraseIdx j)
  | _, _, _, .nil => .nil
  | _, _, 0, .cons _ r => r
  | _, _, j + 1, .cons h r => .cons h (RepsG.eraseIdx j r)
theorem rep_int {K : PySem.W.Frag} {T : Tb} {N : Addr → Prop} {F : Hp} {v : V} {i : Int} (h : RepG K T N F v (.int i)) : v = .int i := by cases h; rfl
theorem dpAll_of {K : PySem.W.Frag} {T : Tb} {N : Addr → Prop} {H : Hp} (n : Nat) : ∀ {vs : List V} {ds : List D}, ds.all (dok n) = true → RepsG K T N H vs ds → DpAll K H vs (ds.map (conv n))
  | _, _, _, .nil => .nil
  | _, _, h, .cons r rs => by
    rw [List.all_cons, Bool.and_eq_true] at h
    exact .cons (dp_of n _ _ h.1 r) (dpAll_of n h.2 rs)
theorem same_all {K : PySem.W.Frag} {T : Tb} {N M : Addr → Prop} {F : Hp} {lvs : List (Key × V)} {es : List D} (r2 : RepsG K T M F (lvs.map (·.2)) es) : ∀ {kvs : List (Key × V)} {ds : List D}, RepsG K T N F (kvs.map (·.2)) ds →
    (((kvs.map (·.1)).zip ds).all fun p => match p.2, dFind (lvs.map (·.1)) es p.1 with
      | .int i, some (.int j) => decide (i = j)
      | _, _ => false) = true → ∀ p ∈ kvs, valV lvs p.1 = some p.2 ∧ flatB p.2 = true
  | [], _, _, _ => fun p hp => by cases hp
  | p0 :: kvs, _, r, h => by
    rw [List.map_cons] at r
    cases r with
    | @cons v vs d ds h1 h2 =>
      rw [List.map_cons, List.zip_cons_cons, List.all_cons, Bool.and_eq_true] at h
      have ih := same_all r2 h2 h.2
      intro p hp
      rcases List.mem_cons.mp hp with e | e
      · subst e
        have h3 := h.1
        have h4 := find_val (k := p.1) r2
        dsimp only at h3
        split at h3
        · rename_i _ i j e2
          rw [e2] at h4
          obtain ⟨w, g1, g2⟩ := h4
          have : i = j := of_decide_eq_true h3
          subst this
          rw [rep_int h1]
          rw [rep_int g2] at g1
          exact ⟨g1, rfl⟩
        · cases h3
      · exact ih p e
section
variable {X : Cx} {T : Tb} {H0 : HZ} {Γ Γ1 Γn Γm : List Mode} {J : Jm} {e a b o tg iter : Expr} {es : List Expr} {st : Stmt} {sts : List Stmt} {f g : SF} {fe fa fb fo : EF} {k ka kb : Knd} {pos po pos' apos : Pos} {q p k3 : Q3} {fs : List D → Option (List D)} {x : Str} {cl : Nat}
theorem ds_remove (i : Nat) (hm : Γ[i]? = some (.ow q)) (h : PE X e (tBM X.K "list" (rRemD X.K) (tVar i) (tCons (tD X.K T H0 Γ fe k) tNil))) (hs : swapsWith e none pos.line X.env = pure false := by rfl) : DS X T H0 Γ (.Expr e pos) (sRem i fe) Γ J :=
  PS.wk (ps_expr h hs) fun E σ H ⟨F, O, ρ, out, R, hf, hq⟩ => by
    obtain ⟨a, vs, ds, h1, h2, h3, h4, h5⟩ := R.sl i _ hm
    unfold sRem at hf
    rw [h2] at hf
    simp only at hf
    cases h6 : fe ρ with
    | none => rw [h6] at hf; cases hf
    | some y =>
      rw [h6] at hf
      simp only [Option.bind_some] at hf
      split at hf
      · rename_i hd
        cases h8 : firstD (fun z => PyData.eqv (conv 6 z) (conv 6 y)) 0 ds with
        | none => rw [h8] at hf; cases hf
        | some j =>
          rw [h8] at hf
          cases hf
          refine ⟨.ref a, h1, .inl ⟨rfl, vs, SqL.of h3⟩, F, O, ρ, y, R, h6, fun F1 H1 v R1 s1 t1 r1 => ?_⟩
          have h7 := t1 _ _ h3
          have rb : RU X.K T H1 (.ref a) (.lst ds) := .lst h7 trivial (R1.Us_of (s1.rqs h5))
          have h9 : dok 7 (.lst ds) = true := by simpa [dok] using hd.2
          obtain ⟨_, d0, g1, g2, g3⟩ := firstD_spec h8
          have hall : DpAll X.K H1 vs (ds.map (conv 6)) := dpAll_of 6 hd.2 (R1.Us_of (s1.rqs h5))
          refine ⟨a, vs, v, conv 6 y, ds.map (conv 6), j, conv 6 d0, rfl, rfl, h7, hall, dp_of 6 y v hd.1 (R1.toB r1), shaped_of (n := 7) h9 (by omega), shaped_of hd.1 (by omega), ?_, g2, fun m z hm' hz => ?_, ?_⟩
          · rw [List.getElem?_map]
            have : ds[j]? = some d0 := by simpa using g1
            rw [this]; rfl
          · rw [List.getElem?_map] at hz
            cases hm2 : ds[m]? with
            | none => rw [hm2] at hz; cases hz
            | some d' =>
              rw [hm2] at hz
              cases hz
              exact g3 m d' (by omega) hm2
          · have R2 := R1.upo (us := vs.eraseIdx j) (ds := ds.eraseIdx j) (q := q) hm h1 h7 h4 ((s1.rqs h5).eraseIdx j)
            rw [set_same hm] at R2
            exact hq F1 O σ _ s1 R2
      · cases hf
theorem op_eqDI (hu : X.A.units + 64 < cLine) : OpR X (compareOp .Eq) rEqDA := op_eq_dictA (by omega)
theorem op_neDI (hu : X.A.units + 64 < cLine) : OpR X (compareOp .NotEq) rNeDA := op_ne_dictA (by omega)
theorem cs_eqDI {K : PySem.W.Frag} (hp : ka.pers = true) : ∀ σ H Q, tD K T H0 Γ (e2 gEqDI fa fb) (.q q) σ H Q → tOp rEqDA (tD K T H0 Γ fa ka) (tD K T H0 Γ fb kb) σ H Q := bin_sem hp fun F O σ H ρ v u x y d Q R rv ru hg hq => by
  unfold gEqDI at hg
  split at hg
  · split at hg
    · rename_i hs
      cases hg
      have rv := R.toB rv
      have ru := R.toB ru
      cases rv with
      | @dic a kvs ds h1 _ h2 =>
        cases ru with
        | @dic b lvs es h3 _ h4 =>
          unfold sameI at hs
          rw [Bool.and_eq_true] at hs
          exact (⟨a, b, kvs, lvs, rfl, rfl, h1, h3, by simpa using hs.1, same_all h4 h2 hs.2, hq F H _ R (.refl _) (.refl _) (RepG.bl _)⟩)
    · cases hg
  · cases hg
theorem cs_neDI {K : PySem.W.Frag} (hp : ka.pers = true) : ∀ σ H Q, tD K T H0 Γ (e2 gNeDI fa fb) (.q q) σ H Q → tOp rNeDA (tD K T H0 Γ fa ka) (tD K T H0 Γ fb kb) σ H Q := bin_sem hp fun F O σ H ρ v u x y d Q R rv ru hg hq => by
  unfold gNeDI at hg
  split at hg
  · split at hg
    · rename_i hs
      cases hg
      have rv := R.toB rv
      have ru := R.toB ru
      cases rv with
      | @dic a kvs ds h1 _ h2 =>
        cases ru with
        | @dic b lvs es h3 _ h4 =>
          unfold sameI at hs
          rw [Bool.and_eq_true] at hs
          exact (⟨a, b, kvs, lvs, rfl, rfl, h1, h3, by simpa using hs.1, same_all h4 h2 hs.2, hq F H _ R (.refl _) (.refl _) (RepG.bl _)⟩)
    · cases hg
  · cases hg
/-- one slot's mode, read otherwise -/
theorem Rl.remode {K : PySem.W.Frag} {F H : Hp} {O : Own} {σ : L2.St} {ρ : List D} {i : Nat} {m' : Mode} (R : Rl K T H0 Γ F O σ H ρ) (h : SlotR K T H0 F H (O i) σ[i]? ρ[i]? m') : Rl K T H0 (Γ.set i m') F O σ H ρ :=
  ⟨R.h0, R.fh, R.on, R.od, by simp [R.ls], by simp [R.lr], fun j mj hj => by
    by_cases hji : j = i
    · subst hji
      by_cases hl : j < Γ.length
      · rw [List.getElem?_set_self hl] at hj
        cases hj
        exact h
      · rw [List.getElem?_eq_none (by simpa using hl)] at hj; cases hj
    · rw [List.getElem?_set_ne (Ne.symm hji)] at hj
      exact R.sl j mj hj, R.nF, R.tb⟩
/-- a name that will get a dict: None -/
theorem ds_setNd {i : Nat} (hN : X.N.Nodup) (hi : X.N[i]? = some x) (hx : Loc X.env.scope x) (he : DE X T H0 Γ e (eK .non) (.q .A)) (hl : i < Γ.length := by decide) (hs : swapsWith e (some (.Name x pos')) pos.line X.env = pure false := by rfl)
    (hf : X.fn x = true ∨ X.env.scope.names.lookup x = some .local := by first | exact .inl rfl | exact .inr rfl | assumption) :
    DS X T H0 Γ (.Assign [.Name x pos'] e pos) (sSet i (eK .non)) (Γ.set i (.os (.odn q))) J := PS.wk (ps_set hN hi hx he hs hf) fun E σ H ⟨F, O, ρ, out, R, hf, hq⟩ => by
  cases hf
  refine ⟨F, O, ρ, .non, R, rfl, fun F' H' v R' s s' rv => ?_⟩
  have R2 := R'.setq hl rv
  have R3 := R2.remode (i := i) (m' := .os (.odn q)) ⟨v, .non, by rw [List.getElem?_set_self (by rw [R'.ls]; exact hl)], by rw [List.getElem?_set_self (by rw [R'.lr]; exact hl)], .inl ⟨by cases rv; rfl, rfl⟩⟩
  rw [List.set_set] at R3
  exact hq F' O _ H' s R3
/-- it is a dict, here -/
theorem dss_narw {i : Nat} (hm : Γ[i]? = some (.os (.odn q))) (h : DSs X T H0 (Γ.set i (.os (.dic q))) sts f Γn J) : DSs X T H0 Γ sts (sNarw i f) Γn J := PSs.wk h fun E σ H ⟨F, O, ρ, out, R, hf, hq⟩ => by
  obtain ⟨v, d, h1, h2, h3⟩ := R.sl i _ hm
  unfold sNarw at hf
  rw [h2] at hf
  split at hf
  · rename_i ks ds e
    cases e
    refine ⟨F, O, ρ, out, R.remode ⟨v, _, h1, h2, ?_⟩, hf, hq⟩
    rcases h3 with ⟨_, h3⟩ | h3
    · cases h3
    · exact h3
  · cases hf
/-- name = f(..), f handing back a dict of its own, or raising -/
theorem ds_callodX {po' : Pos} {i j k : Nat} {y : Str} {ps : List Str} {φ : List D → Option Res} {S : Shp} (hN : X.N.Nodup) (hi : X.N[i]? = some y) (hx : Loc X.env.scope y) (h : OkFX X.prog X.w X.K X.mg X.base T j x ps φ (.od S)) (tk : Takes X J.w) (hr : Room k X.A) (hg : Gl X x) (ha : DA X T H0 Γ (e :: es) fs) (hn : ∀ ρ ds, fs ρ = some ds → ds.length = ps.length) (hw : wkAll Γ J.x = true) (hj : j ≤ k := by decide) (hk : (RK.od S).okd = true := by rfl) (hl : i < Γ.length := by decide)
    (hdb : (x == ("__debug__" : Str)) = false := by decide) (he : starEach (e :: es) X.env = (false, eval e X.env) :: starEach es X.env := by rfl) (hpl : (backTo po (starEach es X.env)).any (·.1) = false := by rfl)
    (hs : ∀ p, swapsWith (.Call (.Name x p) (e :: es) [] po) (some (.Name y pos')) pos.line X.env = pure false := by intro _; rfl)
    (hf : X.fn y = true ∨ X.env.scope.names.lookup y = some .local := by first | exact .inl rfl | exact .inr rfl | assumption) :
    DS X T H0 Γ (.Assign [.Name y pos'] (.Call (.Name x po') (e :: es) [] po) pos) (xSet i (xCall φ fs)) (Γ.set i (.os S)) J := by
  obtain ⟨f, fd, h1, h2, h3, h4⟩ := h.ex
  refine PS.wk (ps_set hN hi hx (pe_callS h4 (hr.mono hj) hg h1 h2 h3 (fun σ => passAt tk σ) ha hdb he hpl) (hs _) hf) fun E σ H ⟨F, O, ρ, out, R, hf, hq⟩ => ?_
  unfold xSet xCall at hf
  cases h1 : fs ρ with
  | none => rw [h1] at hf; cases hf
  | some ds =>
    rw [h1] at hf
    simp only [Option.bind_some] at hf
    cases h5 : φ ds with
    | none => rw [h5] at hf; cases hf
    | some r =>
      rw [h5] at hf
      simp only [Option.bind_some] at hf
      refine ⟨F, O, ρ, ds, R, h1, fun F1 H1 vs R1 s1 t1 r1 => ?_⟩
      refine ⟨by rw [r1.length]; exact hn _ _ h1, ds, r, R1.tb, r1, h5, fun d hd H' v r => ?_, fun c es hd H' cls od r => ?_⟩
      · subst hd
        cases hf
        obtain ⟨F2, a, e, R2, s2, t2, fa, nO, ⟨o, ho, hm⟩, ow⟩ := ret_od R1 r hk
        subst e
        exact hq F2 _ _ H' (s1.trans s2) (R2.setOs hl ho hm fa nO ow)
      · subst hd
        cases hf
        obtain ⟨F2, R2, s2, r2⟩ := ex_in R1 r
        obtain ⟨F3, O3, s3, R3⟩ := wk_of hw F2 O σ H' ρ R2
        exact hq F3 O3 σ H' cls od ((s1.trans s2).trans s3) R3 (r2.mono s3)
end
end DL

/-! pure lemmas over the denotations -/
namespace DL
open PySem PySem.Spec PyProof.Rows L2
theorem seq_nx {f g : SF} {ρ ρ' : List D} (h : f ρ = some (.nx ρ')) : sSeq f g ρ = g ρ' := by unfold sSeq; rw [h]; rfl
theorem seq_rt {f g : SF} {ρ : List D} {d : D} (h : f ρ = some (.rt d)) : sSeq f g ρ = some (.rt d) := by unfold sSeq; rw [h]; rfl
theorem if_t {t : List D → Option Bool} {f g : SF} {ρ : List D} (h : t ρ = some true) : sIf t f g ρ = f ρ := by unfold sIf; rw [h]; rfl
theorem if_f {t : List D → Option Bool} {f g : SF} {ρ : List D} (h : t ρ = some false) : sIf t f g ρ = g ρ := by unfold sIf; rw [h]; rfl
theorem fnD_rt {pks : List PKn} {m : Nat} {nx : Bool} {b : SF} {args : List D} {d : D} (hc : chks pks args = true) (h : b (args ++ List.replicate m .non) = some (.rt d)) : fnD pks m nx b args = some d := by unfold fnD; rw [if_pos hc, h]; rfl
theorem for_eq {fi : List D → Option (List D)} {tg : D → List D → Option (List D)} {b : SF} {cl : List Nat} {ρ : List D} {items : List D} (h : fi ρ = some items) : sFor fi tg b cl ρ = loopD tg b cl items (clrs cl ρ) := by unfold sFor; rw [h]; rfl
/-- a loop as a fold: enc is the frame at a turn's start -/
theorem loop_fold {S α : Type} {tg : D → List D → Option (List D)} {b : SF} {cl : List Nat} (enc : S → List D) (f : α → D) (step : S → α → S) (Pv : S → Prop) :
    ∀ (xs : List α) (s : S), Pv s → (∀ s x, x ∈ xs → Pv s → Pv (step s x) ∧ ∃ ρ1 ρ2, tg (f x) (enc s) = some ρ1 ∧ (b ρ1 = some (.nx ρ2) ∨ b ρ1 = some (.ct ρ2)) ∧ clrs cl ρ2 = enc (step s x)) →
      loopD tg b cl (xs.map f) (enc s) = some (.nx (enc (xs.foldl step s))) ∧ Pv (xs.foldl step s)
  | [], s, hs, _ => ⟨rfl, hs⟩
  | x :: xs, s, hs, h => by
    obtain ⟨h1, ρ1, ρ2, h2, h3, h4⟩ := h s x List.mem_cons_self hs
    have ih := loop_fold enc f step Pv xs (step s x) h1 fun s y hy => h s y (List.mem_cons_of_mem _ hy)
    refine ⟨?_, ih.2⟩
    rw [List.map_cons]
    unfold loopD
    rw [h2, Option.bind_some]
    rcases h3 with h3 | h3 <;> (rw [h3, Option.bind_some]; show loopD tg b cl (xs.map f) (clrs cl ρ2) = _; rw [h4]; exact ih.1)
/-- a loop by its turn: ρ i is the frame at turn i -/
theorem loop_inv {tg : D → List D → Option (List D)} {b : SF} {cl : List Nat} (ρ : Nat → List D) (n : Nat) {items r0 : List D} (hn : items.length = n) (h0 : r0 = ρ 0) (h : ∀ i (hi : i < n) x, items[i]? = some x → ∃ ρ1 ρ2, tg x (ρ i) = some ρ1 ∧ (b ρ1 = some (.nx ρ2) ∨ b ρ1 = some (.ct ρ2)) ∧ clrs cl ρ2 = ρ (i + 1)) :
    loopD tg b cl items r0 = some (.nx (ρ n)) := by
  subst h0
  have key : ∀ k i, i + k = n → loopD tg b cl (items.drop i) (ρ i) = some (.nx (ρ n)) := by
    intro k
    induction k with
    | zero =>
      intro i hi
      rw [List.drop_of_length_le (by omega)]
      have : i = n := by omega
      subst this; rfl
    | succ k ih =>
      intro i hi
      have hlt : i < items.length := by omega
      rw [List.drop_eq_getElem_cons hlt]
      obtain ⟨ρ1, ρ2, h2, h3, h4⟩ := h i (by omega) _ (List.getElem?_eq_getElem hlt)
      unfold loopD
      rw [h2, Option.bind_some]
      rcases h3 with h3 | h3 <;> (rw [h3, Option.bind_some]; show loopD tg b cl (items.drop (i + 1)) (clrs cl ρ2) = _; rw [h4]; exact ih (i + 1) (by omega))
  simpa using key n 0 (by omega)
/-- a comprehension without a test -/
theorem comp_map {α : Type} {tg : D → List D → Option (List D)} {tt : List D → Option Bool} {fe : EF} {ρ : List D} (f : α → D) (g : α → D) : ∀ (xs : List α), (∀ x ∈ xs, ∃ ρ1, tg (f x) ρ = some ρ1 ∧ tt ρ1 = some true ∧ fe ρ1 = some (g x)) →
    compGo tg tt fe ρ (xs.map f) = some (xs.map g)
  | [], _ => rfl
  | x :: xs, h => by
    obtain ⟨ρ1, h1, h2, h3⟩ := h x List.mem_cons_self
    rw [List.map_cons, List.map_cons]
    unfold compGo
    rw [h1, Option.bind_some, h2, Option.bind_some, if_pos rfl, h3, Option.bind_some, comp_map f g xs fun y hy => h y (List.mem_cons_of_mem _ hy)]
    rfl
/-- a comprehension with a test -/
theorem comp_filter {α : Type} {tg : D → List D → Option (List D)} {tt : List D → Option Bool} {fe : EF} {ρ : List D} (f : α → D) (p : α → Bool) (g : α → D) : ∀ (xs : List α), (∀ x ∈ xs, ∃ ρ1, tg (f x) ρ = some ρ1 ∧ tt ρ1 = some (p x) ∧ (p x = true → fe ρ1 = some (g x))) →
    compGo tg tt fe ρ (xs.map f) = some ((xs.filter p).map g)
  | [], _ => rfl
  | x :: xs, h => by
    obtain ⟨ρ1, h1, h2, h3⟩ := h x List.mem_cons_self
    have ih := comp_filter f p g xs fun y hy => h y (List.mem_cons_of_mem _ hy)
    rw [List.map_cons]
    unfold compGo
    rw [h1, Option.bind_some, h2, Option.bind_some]
    cases hp : p x with
    | true => rw [if_pos rfl, h3 hp, Option.bind_some, ih, List.filter_cons_of_pos hp]; rfl
    | false => rw [if_neg Bool.false_ne_true, ih, List.filter_cons_of_neg (by rw [hp]; exact Bool.false_ne_true)]
theorem comp_eq {fi : List D → Option (List D)} {tg : D → List D → Option (List D)} {tt : List D → Option Bool} {fe : EF} {ρ items ds : List D} (h : fi ρ = some items) (h2 : compGo tg tt fe ρ items = some ds) (hl : ds.length ≤ 1000000) : eComp fi tg tt fe ρ = some (.lst ds) := by
  unfold eComp; rw [h, Option.bind_some, h2, Option.bind_some, if_pos hl]
/-- the ints 0, 1, .. below n -/
theorem rangeD_nat (n : Nat) : rangeD 0 (n : Int) = (List.range n).map fun (i : Nat) => D.int (i : Int) := by
  unfold rangeD
  have : ((n : Int) - 0).toNat = n := by omega
  rw [this]
  apply List.map_congr_left
  intro i _
  rw [Int.zero_add]
theorem rangeD_two (a b : Nat) : rangeD (a : Int) (b : Int) = (List.range (b - a)).map fun (i : Nat) => D.int ((a + i : Nat) : Int) := by
  unfold rangeD
  have : ((b : Int) - (a : Int)).toNat = b - a := by omega
  rw [this]
  apply List.map_congr_left
  intro i _
  rw [Int.natCast_add]
theorem atI_zero {α : Type} (x : α) (xs : List α) : atI (x :: xs) 0 = some x := atI_nat (j := 0) rfl
theorem atI_map {α : Type} {f : α → D} {xs : List α} {i : Int} {x : α} (h : atI xs i = some x) : atI (xs.map f) i = some (f x) := by
  unfold atI at h ⊢
  rw [List.length_map]
  cases h1 : ixN xs.length i with
  | none => rw [h1] at h; cases h
  | some j =>
    rw [h1] at h
    simp only [Option.bind_some] at h ⊢
    rw [List.getElem?_map, h]; rfl
theorem atI_mapN {α : Type} {f : α → D} {xs : List α} {i : Nat} {x : α} (h : xs[i]? = some x) : atI (xs.map f) (i : Int) = some (f x) := atI_map (atI_nat h)
theorem atI_ex {α : Type} {xs : List α} {i : Int} (h0 : 0 ≤ i) (h1 : i < xs.length) : ∃ x, atI xs i = some x := by
  obtain ⟨k, rfl⟩ : ∃ k : Nat, i = k := ⟨i.toNat, by omega⟩
  exact ⟨xs[k]'(by omega), atI_nat (List.getElem?_eq_getElem (by omega))⟩
theorem atI_ints {ns : List Int} {i : Int} (h0 : 0 ≤ i) (h1 : i < ns.length) : ∃ c, atI (ns.map D.int) i = some (.int c) := by
  obtain ⟨x, h⟩ := atI_ex h0 h1
  exact ⟨x, atI_map h⟩
theorem small_b {n : Nat} {i : Int} (h1 : -1000000000 ≤ i) (h2 : i ≤ 1000000000) (hn : 30 ≤ n := by decide) : small n i := by
  have h : i.natAbs < 2 ^ 30 := by omega
  have := PySem.Flt.log2_lt_of (k := 30) (by decide) h
  unfold small
  omega
theorem mulOk_r {i j : Int} (h1 : -1000000000 ≤ j) (h2 : j ≤ 1000000000) : mulOk i j := .inr (.inl (small_b h1 h2))
theorem mulOk_l {i j : Int} (h1 : -1000000000 ≤ i) (h2 : i ≤ 1000000000) : mulOk i j := .inl (small_b h1 h2)
theorem divOk {j : Int} (h : 0 < j) (h2 : j ≤ 1000000000) : 0 < j ∧ small 9000 j := ⟨h, small_b (by omega) h2⟩
end DL
namespace DL
theorem st_nx {f g : SF} {ρ ρ' : List D} {R : Option Out} (h : f ρ = some (.nx ρ')) (k : g ρ' = R) : sSeq f g ρ = R := (seq_nx h).trans k
end DL

namespace DL
open PySem PySem.Spec PyProof.Rows L2
/-! ### bits -/
theorem bitOr_nat (a b : Nat) : Builtin.bitOr (a : Int) (b : Int) = ((a ||| b : Nat) : Int) := by
  unfold Builtin.bitOr Builtin.bitAnd Builtin.bitNot
  have h1 : decide (0 ≤ (-(a : Int) - 1)) = false := decide_eq_false (by omega)
  have h2 : decide (0 ≤ (-(b : Int) - 1)) = false := decide_eq_false (by omega)
  rw [h1, h2]
  show -(-(((((-(-(a : Int) - 1) - 1)).toNat ||| ((-(-(b : Int) - 1) - 1)).toNat) : Nat) : Int) - 1) - 1 = _
  have e1 : (-(-(a : Int) - 1) - 1).toNat = a := by omega
  have e2 : (-(-(b : Int) - 1) - 1).toNat = b := by omega
  rw [e1, e2]
  omega
theorem bitAnd_nat (a b : Nat) : Builtin.bitAnd (a : Int) (b : Int) = ((a &&& b : Nat) : Int) := by
  unfold Builtin.bitAnd
  have h1 : decide (0 ≤ (a : Int)) = true := decide_eq_true (by omega)
  have h2 : decide (0 ≤ (b : Int)) = true := decide_eq_true (by omega)
  rw [h1, h2]
  rfl
theorem test_div (b t : Nat) : (decide (b / 2 ^ t % 2 = 1)) = b.testBit t := by rw [Nat.testBit_eq_decide_div_mod_eq]
theorem and_pow (b t : Nat) : decide (0 < b &&& 2 ^ t) = b.testBit t := by
  cases h : b.testBit t with
  | true =>
    refine decide_eq_true (Nat.pos_of_ne_zero fun z => ?_)
    have : (b &&& 2 ^ t).testBit t = true := by rw [Nat.testBit_and, h, Nat.testBit_two_pow]; simp
    rw [z, Nat.zero_testBit] at this
    cases this
  | false =>
    refine decide_eq_false fun z => ?_
    have : b &&& 2 ^ t = 0 := Nat.eq_of_testBit_eq fun i => by
      rw [Nat.testBit_and, Nat.testBit_two_pow, Nat.zero_testBit]
      by_cases hi : t = i
      · subst hi; rw [h]; rfl
      · simp [hi]
    omega
def orB (hs : List Nat) : Nat := hs.foldl (fun b h => b ||| 2 ^ h) 0
theorem orB_go (t : Nat) : ∀ (hs : List Nat) (b : Nat), (hs.foldl (fun b h => b ||| 2 ^ h) b).testBit t = (b.testBit t || decide (t ∈ hs))
  | [], b => by simp
  | h :: hs, b => by
    rw [List.foldl_cons, orB_go t hs]
    rw [Nat.testBit_or, Nat.testBit_two_pow]
    by_cases h1 : h = t
    · subst h1; simp
    · have : ¬ t = h := fun e => h1 e.symm
      simp [h1, this]
theorem orB_test (hs : List Nat) (t : Nat) : (orB hs).testBit t = decide (t ∈ hs) := by unfold orB; rw [orB_go]; simp
/-! ### lists of numbers -/
def asD (l : List Nat) : List D := l.map fun (n : Nat) => D.int n
theorem asD_len (l : List Nat) : (asD l).length = l.length := by simp [asD]
theorem dok_ints : ∀ l : List Nat, (asD l).all (dok 5) = true := fun l => List.all_eq_true.mpr fun d hd => by
  obtain ⟨n, _, rfl⟩ := List.mem_map.mp hd
  rfl
theorem dok_asD (l : List Nat) : dok 6 (.lst (asD l)) = true := dok_ints l
theorem gEqD_refl {x : D} (h : dok 6 x = true) : gEqD x x = some (.bl true) := by
  unfold gEqD
  rw [if_pos ⟨h, h⟩, SeqAt.eqv_refl _ (conv_ok 6 x h).1]
theorem gNeD_refl {x : D} (h : dok 6 x = true) : gNeD x x = some (.bl false) := by
  unfold gNeD
  rw [if_pos ⟨h, h⟩, SeqAt.eqv_refl _ (conv_ok 6 x h).1]; rfl
theorem gInD_nat (t : Nat) (l : List Nat) : gInD (.int t) (.lst (asD l)) = some (.bl (decide (t ∈ l))) := by
  unfold gInD
  have h : (asD l).all (dok 6) = true := List.all_eq_true.mpr fun d hd => by
    obtain ⟨n, _, rfl⟩ := List.mem_map.mp hd
    rfl
  show (if dok 6 (D.int t) = true ∧ (asD l).all (dok 6) = true then _ else _) = _
  rw [if_pos ⟨rfl, h⟩]
  congr 2
  unfold asD
  rw [List.any_map]
  rw [Bool.eq_iff_iff, List.any_eq_true, decide_eq_true_eq]
  constructor
  · rintro ⟨n, hn, e⟩
    have : ((n : Int) = (t : Int)) := by simpa [conv, PyData.eqv] using e
    have : n = t := by omega
    subst this; exact hn
  · intro ht
    exact ⟨t, ht, by simp [conv, PyData.eqv]⟩
theorem intsOf_asD (l : List Nat) : intsOf (asD l) = some (l.map fun (n : Nat) => (n : Int)) := by
  have : asD l = (l.map fun (n : Nat) => (n : Int)).map D.int := by unfold asD; rw [List.map_map]; rfl
  rw [this, intsOf_map]
theorem cut_take (l : List Nat) (a : Nat) : cutD (asD l) none (some (a : Int)) = asD (l.take a) := by
  unfold cutD
  rw [HT.sIx_nat, HT.sIx_none, List.drop_zero, Nat.sub_zero, asD_len]
  unfold asD
  rw [← List.map_take]
  congr 1
  by_cases h : a ≤ l.length
  · rw [Nat.min_eq_left h]
  · rw [Nat.min_eq_right (by omega), List.take_length, List.take_of_length_le (by omega)]
theorem cut_drop (l : List Nat) (a : Nat) : cutD (asD l) (some (a : Int)) none = asD (l.drop a) := by
  unfold cutD
  rw [HT.sIx_nat, HT.sIx_none, asD_len]
  unfold asD
  rw [← List.map_drop]
  rw [List.take_of_length_le (by simp)]
  congr 1
  by_cases h : a ≤ l.length
  · rw [Nat.min_eq_left h]
  · rw [Nat.min_eq_right (by omega), List.drop_length, List.drop_of_length_le (by omega)]
theorem asD_app (a b : List Nat) : asD (a ++ b) = asD a ++ asD b := by unfold asD; rw [List.map_append]
theorem asD_one (a : Nat) : asD [a] = [.int (a : Int)] := rfl
theorem lfs_asD : ∀ l : List Nat, D.lfs (asD l) = true
  | [] => rfl
  | _ :: l => lfs_asD l

/-- the sum of the bits of the marked numbers below n -/
def sumB (p : Nat → Bool) (n : Nat) : Nat := (((List.range n).filter p).map (2 ^ ·)).sum
theorem sumB_succ (p : Nat → Bool) (n : Nat) : sumB p (n + 1) = (if p n = true then 2 ^ n else 0) + sumB p n := by
  unfold sumB
  rw [List.range_succ, List.filter_append, List.map_append, List.sum_append, Nat.add_comm]
  congr 1
  cases h : p n <;> simp [h]
theorem sumB_lt (p : Nat → Bool) : ∀ n, sumB p n < 2 ^ n
  | 0 => Nat.zero_lt_one
  | n + 1 => by
    have := sumB_lt p n
    rw [sumB_succ, Nat.pow_succ]
    split <;> omega
theorem sumB_test (p : Nat → Bool) (t : Nat) : ∀ n, (sumB p n).testBit t = (decide (t < n) && p t)
  | 0 => by simp [sumB]
  | n + 1 => by
    have ih := sumB_test p t n
    have hl := sumB_lt p n
    by_cases h1 : t < n
    · rw [sumB_succ]
      split
      · rw [Nat.testBit_two_pow_add_gt h1, ih]
        simp [h1, show t < n + 1 by omega]
      · rw [Nat.zero_add, ih]
        simp [h1, show t < n + 1 by omega]
    · by_cases h2 : t = n
      · subst h2
        have h3 : (sumB p t).testBit t = false := Nat.testBit_lt_two_pow hl
        rw [sumB_succ]
        split
        · rename_i h; rw [Nat.testBit_two_pow_add_eq, h3, h]; simp
        · rename_i h; rw [Nat.zero_add, h3]; simp [h]
      · have h3 : sumB p (n + 1) < 2 ^ t := Nat.lt_of_lt_of_le (sumB_lt p (n + 1)) (Nat.pow_le_pow_right (by omega) (by omega))
        rw [Nat.testBit_lt_two_pow h3]
        simp [show ¬ t < n + 1 by omega]
theorem orB_eq {hs : List Nat} {b : Nat} (h : ∀ t, t ∈ hs ↔ b.testBit t = true) : orB hs = b := Nat.eq_of_testBit_eq fun t => by
  rw [orB_test]
  cases hb : b.testBit t with
  | true => exact decide_eq_true ((h t).mpr hb)
  | false => exact decide_eq_false fun z => by rw [(h t).mp z] at hb; cases hb
theorem sum_cast : ∀ l : List Nat, (l.map fun (n : Nat) => (n : Int)).sum = ((l.sum : Nat) : Int)
  | [] => rfl
  | a :: l => by rw [List.map_cons, List.sum_cons, List.sum_cons, sum_cast l]; omega
theorem gSum_asD (l : List Nat) : gSum (.lst (asD l)) = some (.int (l.sum : Nat)) := by
  show (intsOf (asD l)).map _ = _
  rw [intsOf_asD]
  show some (D.int _) = _
  rw [sum_cast]
end DL

namespace DL
open PySem PySem.Spec PyProof.Rows L2
/-- a loop whose frames are told by what holds of them -/
theorem loop_ex {tg : D → List D → Option (List D)} {b : SF} {cl : List Nat} (I : Nat → List D → Prop) (n : Nat) {items r0 : List D} (hn : items.length = n) (h0 : I 0 r0)
    (h : ∀ i (hi : i < n) x, items[i]? = some x → ∀ ρ, I i ρ → ∃ ρ1 ρ2, tg x ρ = some ρ1 ∧ (b ρ1 = some (.nx ρ2) ∨ b ρ1 = some (.ct ρ2)) ∧ I (i + 1) (clrs cl ρ2)) :
    ∃ ρ', loopD tg b cl items r0 = some (.nx ρ') ∧ I n ρ' := by
  have key : ∀ k i ρ, i + k = n → I i ρ → ∃ ρ', loopD tg b cl (items.drop i) ρ = some (.nx ρ') ∧ I n ρ' := by
    intro k
    induction k with
    | zero =>
      intro i ρ hi hI
      rw [List.drop_of_length_le (by omega)]
      have : i = n := by omega
      subst this
      exact ⟨ρ, rfl, hI⟩
    | succ k ih =>
      intro i ρ hi hI
      have hlt : i < items.length := by omega
      rw [List.drop_eq_getElem_cons hlt]
      obtain ⟨ρ1, ρ2, h2, h3, h4⟩ := h i (by omega) _ (List.getElem?_eq_getElem hlt) ρ hI
      obtain ⟨ρ', h5, h6⟩ := ih (i + 1) _ (by omega) h4
      refine ⟨ρ', ?_, h6⟩
      unfold loopD
      rw [h2, Option.bind_some]
      rcases h3 with h3 | h3 <;> (rw [h3, Option.bind_some]; exact h5)
  simpa using key n 0 r0 (by omega) h0
/-- a loop that looks for one and returns there -/
theorem loop_find {α : Type} {tg : D → List D → Option (List D)} {b : SF} {cl : List Nat} {ρ : List D} (f : α → D) (p : α → Bool) (d : D) : ∀ (xs : List α),
    (∀ x ∈ xs, ∃ ρ1, tg (f x) ρ = some ρ1 ∧ ((p x = true ∧ b ρ1 = some (.rt d)) ∨ (p x = false ∧ ∃ ρ2, (b ρ1 = some (.nx ρ2) ∨ b ρ1 = some (.ct ρ2)) ∧ clrs cl ρ2 = ρ))) →
    loopD tg b cl (xs.map f) ρ = if xs.any p = true then some (.rt d) else some (.nx ρ)
  | [], _ => rfl
  | x :: xs, h => by
    obtain ⟨ρ1, h1, h2⟩ := h x List.mem_cons_self
    have ih := loop_find f p d xs fun y hy => h y (List.mem_cons_of_mem _ hy)
    rw [List.map_cons, List.any_cons]
    unfold loopD
    rw [h1, Option.bind_some]
    rcases h2 with ⟨hp, h2⟩ | ⟨hp, ρ2, h2, h3⟩
    · rw [h2, hp]; rfl
    · rw [hp, Bool.false_or, ← ih]
      rcases h2 with h2 | h2 <;> (rw [h2, Option.bind_some]; show loopD tg b cl (xs.map f) (clrs cl ρ2) = _; rw [h3])
theorem loop_same {α : Type} {tg : D → List D → Option (List D)} {b : SF} {cl : List Nat} {ρ : List D} (f : α → D) (xs : List α)
    (h : ∀ x ∈ xs, ∃ ρ1 ρ2, tg (f x) ρ = some ρ1 ∧ (b ρ1 = some (.nx ρ2) ∨ b ρ1 = some (.ct ρ2)) ∧ clrs cl ρ2 = ρ) :
    loopD tg b cl (xs.map f) ρ = some (.nx ρ) :=
  (loop_fold (enc := fun (_ : Unit) => ρ) (f := f) (step := fun u _ => u) (Pv := fun _ => True) xs () trivial fun _ x hx _ => ⟨trivial, h x hx⟩).1
theorem foldl_inv {S α : Type} {step : S → α → S} (Inv : S → Prop) : ∀ (xs : List α) (s : S), Inv s → (∀ s x, x ∈ xs → Inv s → Inv (step s x)) → Inv (xs.foldl step s)
  | [], _, h, _ => h
  | x :: xs, s, h, hs => foldl_inv Inv xs (step s x) (hs s x List.mem_cons_self h) fun s y hy => hs s y (List.mem_cons_of_mem _ hy)
theorem foldl_hits {S α : Type} {step : S → α → S} (Inv Q : S → Prop) (x : α) (hi : ∀ s y, Inv s → Inv (step s y)) (hq : ∀ s y, Inv s → Q s → Q (step s y)) (hx : ∀ s, Inv s → Q (step s x)) : ∀ (xs : List α) (s : S), x ∈ xs → Inv s → Q (xs.foldl step s)
  | y :: xs, s, hm, h => by
    rw [List.foldl_cons]
    rcases List.mem_cons.mp hm with hm | hm
    · subst hm
      exact (foldl_inv (fun s => Inv s ∧ Q s) xs (step s x) ⟨hi _ _ h, hx _ h⟩ fun s y _ hh => ⟨hi _ _ hh.1, hq _ _ hh.1 hh.2⟩).2
    · exact foldl_hits Inv Q x hi hq hx xs (step s y) hm (hi _ _ h)
/-! ### sums of bits -/
theorem sumB_self {b n : Nat} (h : b < 2 ^ n) : sumB b.testBit n = b := Nat.eq_of_testBit_eq fun t => by
  rw [sumB_test]
  by_cases ht : t < n
  · simp [ht]
  · rw [Nat.testBit_lt_two_pow (Nat.lt_of_lt_of_le h (Nat.pow_le_pow_right (by omega) (by omega)))]
    simp
theorem sumB_congr {p q : Nat → Bool} {n : Nat} (h : ∀ i, i < n → p i = q i) : sumB p n = sumB q n := Nat.eq_of_testBit_eq fun t => by
  rw [sumB_test, sumB_test]
  by_cases ht : t < n
  · rw [h t ht]
  · simp [ht]
theorem sumB_add {p q : Nat → Bool} : ∀ {n : Nat}, (∀ i, i < n → p i = true → q i = false) → sumB p n + sumB q n = sumB (fun i => p i || q i) n
  | 0, _ => rfl
  | n + 1, h => by
    have ih := sumB_add (p := p) (q := q) (n := n) fun i hi => h i (by omega)
    have h1 := h n (by omega)
    rw [sumB_succ, sumB_succ, sumB_succ, ← ih]
    cases hp : p n <;> cases hq : q n <;> simp_all <;> omega
theorem orB_filter (p : Nat → Bool) (n : Nat) : orB ((List.range n).filter p) = sumB p n := Nat.eq_of_testBit_eq fun t => by
  rw [orB_test, sumB_test, Bool.eq_iff_iff, decide_eq_true_eq, List.mem_filter, List.mem_range, Bool.and_eq_true, decide_eq_true_eq]
theorem sumB_inj {p q : Nat → Bool} {n : Nat} (h : sumB p n = sumB q n) : ∀ i, i < n → p i = q i := fun i hi => by
  have := congrArg (fun x => x.testBit i) h
  simp only [sumB_test, hi, decide_true, Bool.true_and] at this
  exact this
theorem gAll_map {α : Type} (p : α → Bool) (xs : List α) : gAll (.lst (xs.map fun x => D.bl (p x))) = some (.bl (xs.all p)) := by
  have : (xs.map fun x => D.bl (p x)) = (xs.map p).map D.bl := by rw [List.map_map]; rfl
  show (blsOf _).map _ = _
  rw [this, blsOf_map]
  show some (D.bl ((xs.map p).all id)) = _
  rw [List.all_map]; rfl
theorem gAny_map {α : Type} (p : α → Bool) (xs : List α) : gAny (.lst (xs.map fun x => D.bl (p x))) = some (.bl (xs.any p)) := by
  have : (xs.map fun x => D.bl (p x)) = (xs.map p).map D.bl := by rw [List.map_map]; rfl
  show (blsOf _).map _ = _
  rw [this, blsOf_map]
  show some (D.bl ((xs.map p).any id)) = _
  rw [List.any_map]; rfl
theorem bit_lt {b n t : Nat} (h : b < 2 ^ n) (ht : b.testBit t = true) : t < n := by
  refine Nat.lt_of_not_le fun h9 => ?_
  rw [Nat.testBit_lt_two_pow (Nat.lt_of_lt_of_le h (Nat.pow_le_pow_right (by omega) h9))] at ht
  cases ht
theorem ixN_n {n j : Nat} (hj : j < n) : ixN n (j : Int) = some j := by
  have h : atI (List.range n) (j : Int) = some j := atI_nat (List.getElem?_range hj)
  unfold atI at h
  rw [List.length_range] at h
  cases hx : ixN n (j : Int) with
  | none => rw [hx] at h; cases h
  | some k =>
    rw [hx] at h
    have hk := h
    simp only [Option.bind_some] at hk
    have := List.getElem?_eq_some_iff.mp hk
    obtain ⟨_, e⟩ := this
    rw [List.getElem_range] at e
    rw [e]
theorem small_n {k m : Nat} (h : m ≤ 1000000000) (hk : 30 ≤ k := by decide) : small k (m : Int) := small_b (by omega) (by omega) hk
theorem comp_nat {tg : D → List D → Option (List D)} {tt : List D → Option Bool} {fe : EF} {ρ : List D} (p : Nat → Bool) (g : Nat → Nat) (xs : List Nat) (h : ∀ x ∈ xs, ∃ ρ1, tg (.int (x : Int)) ρ = some ρ1 ∧ tt ρ1 = some (p x) ∧ (p x = true → fe ρ1 = some (.int (g x : Int)))) :
    compGo tg tt fe ρ (xs.map fun (x : Nat) => D.int (x : Int)) = some (asD ((xs.filter p).map g)) := by
  have := comp_filter (tg := tg) (tt := tt) (fe := fe) (ρ := ρ) (fun (x : Nat) => D.int (x : Int)) p (fun x => D.int (g x : Int)) xs h
  rw [this]; unfold asD; rw [List.map_map]; rfl
theorem comp_nat1 {tg : D → List D → Option (List D)} {tt : List D → Option Bool} {fe : EF} {ρ : List D} (g : Nat → Nat) (xs : List Nat) (h : ∀ x ∈ xs, ∃ ρ1, tg (.int (x : Int)) ρ = some ρ1 ∧ tt ρ1 = some true ∧ fe ρ1 = some (.int (g x : Int))) :
    compGo tg tt fe ρ (xs.map fun (x : Nat) => D.int (x : Int)) = some (asD (xs.map g)) := by
  have := comp_map (tg := tg) (tt := tt) (fe := fe) (ρ := ρ) (fun (x : Nat) => D.int (x : Int)) (fun x => D.int (g x : Int)) xs h
  rw [this]; unfold asD; rw [List.map_map]; rfl
/-- the items of a range, by their numbers -/
theorem range_item {n t : Nat} {d : D} (ht : t < n) (h : ((List.range n).map fun (i : Nat) => D.int (i : Int))[t]? = some d) : d = .int (t : Int) := by
  rw [List.getElem?_map, List.getElem?_range ht] at h
  cases h; rfl
theorem flen (p : Nat → Bool) (n : Nat) : ((List.range n).filter p).length ≤ n := by have := List.length_filter_le p (List.range n); simpa using this
theorem pow2_le {n : Nat} (h : n ≤ 9) : 2 ^ n ≤ 512 := by
  have : 2 ^ n ≤ 2 ^ 9 := Nat.pow_le_pow_right (by omega) h
  omega
end DL

/-! pure lemmas over dicts with int keys -/
namespace DL
open PySem PySem.Spec PyProof.Rows L2
/-- the dict with the keys ks, each with f of it -/
def dicN (ks : List Int) (f : Int → D) : D := .dic (ks.map Sum.inl) (ks.map f)
def insK (ks : List Int) (k : Int) : List Int := if k ∈ ks then ks else ks ++ [k]
def updF (f : Int → D) (k : Int) (d : D) : Int → D := fun x => if x = k then d else f x
theorem updF_same (f : Int → D) (k : Int) (d : D) : updF f k d k = d := if_pos rfl
theorem updF_ne (f : Int → D) {k x : Int} (d : D) (h : x ≠ k) : updF f k d x = f x := if_neg h
theorem mem_insK {ks : List Int} {k x : Int} : x ∈ insK ks k ↔ x ∈ ks ∨ x = k := by
  unfold insK
  split
  · rename_i h
    exact ⟨.inl, fun h2 => h2.elim id fun e => e ▸ h⟩
  · simp
theorem insK_len (ks : List Int) (k : Int) : (insK ks k).length ≤ ks.length + 1 := by
  unfold insK
  split <;> simp
theorem dFind_map (f : Int → D) (k : Int) : ∀ ks : List Int, dFind (ks.map (Sum.inl : Int → Key)) (ks.map f) (.inl k) = if k ∈ ks then some (f k) else none
  | [] => rfl
  | x :: ks => by
    rw [List.map_cons, List.map_cons]
    unfold dFind
    by_cases h : x = k
    · subst h
      rw [if_pos rfl, if_pos List.mem_cons_self]
    · rw [if_neg (fun z => h (Sum.inl.inj z)), dFind_map f k ks]
      have : (k ∈ x :: ks) ↔ k ∈ ks := by simp [Ne.symm h, h, eq_comm]
      simp only [this]
theorem dRep_map (f : Int → D) (k : Int) (d : D) : ∀ ks : List Int, dRep (ks.map (Sum.inl : Int → Key)) (ks.map f) (.inl k) d = ks.map (updF f k d)
  | [] => rfl
  | x :: ks => by
    rw [List.map_cons, List.map_cons, List.map_cons]
    unfold dRep
    rw [dRep_map f k d ks]
    congr 1
    unfold updF
    by_cases h : x = k
    · rw [if_pos (congrArg _ h), if_pos h]
    · rw [if_neg (fun z => h (Sum.inl.inj z)), if_neg h]
theorem any_map_key (ks : List Int) (k : Int) : (ks.map (Sum.inl : Int → Key)).any (fun j => decide (j = .inl k)) = decide (k ∈ ks) := by
  rw [List.any_map, Bool.eq_iff_iff, List.any_eq_true, decide_eq_true_eq]
  constructor
  · rintro ⟨x, hx, h⟩
    have h := of_decide_eq_true h
    cases h
    exact hx
  · intro h
    exact ⟨k, h, decide_eq_true rfl⟩
theorem dG_N (ks : List Int) (f : Int → D) (k : Int) : gDG (dicN ks f) (.int k) = some (if k ∈ ks then some (f k) else none) := by
  show Option.map (fun k => dFind (ks.map (Sum.inl : Int → Key)) (ks.map f) k) (some (.inl k)) = _
  rw [Option.map_some, dFind_map]
theorem dget_N {ks : List Int} {f : Int → D} {k : Int} (h : k ∈ ks) : gDGet (dicN ks f) (.int k) = some (f k) := by
  unfold gDGet
  rw [dG_N, if_pos h]; rfl
theorem din_N (ks : List Int) (f : Int → D) (k : Int) : gDIn (.int k) (dicN ks f) = some (.bl (decide (k ∈ ks))) := by
  unfold gDIn
  rw [dG_N, Option.map_some]
  split
  · rename_i h; rw [decide_eq_true h]; rfl
  · rename_i h; rw [decide_eq_false h]; rfl
theorem dor_N (ks : List Int) (f : Int → D) (k : Int) (z : D) : gDOr (dicN ks f) (.int k) z = some (if k ∈ ks then f k else z) := by
  unfold gDOr
  rw [dG_N, Option.map_some]
  split <;> rfl
theorem dput_lt {ks : List Int} (f : Int → D) (k : Int) (d : D) : putD (dicN ks f) (.int k) d = if ks.length < 1000000 then some (dicN (insK ks k) (updF f k d)) else none := by
  show (some (Sum.inl k : Key)).bind (fun k => if (ks.map (Sum.inl : Int → Key)).length < 1000000 then some (D.dic (dPut (ks.map (Sum.inl : Int → Key)) (ks.map f) k d).1 (dPut (ks.map (Sum.inl : Int → Key)) (ks.map f) k d).2) else none) = _
  rw [Option.bind_some, List.length_map]
  split
  · unfold dPut
    rw [any_map_key, dRep_map]
    unfold insK dicN
    by_cases hk : k ∈ ks
    · rw [if_pos hk, if_pos (decide_eq_true hk)]
    · rw [if_neg hk, if_neg (by rw [decide_eq_false hk]; exact Bool.false_ne_true)]
      have e : (ks ++ [k]).map (updF f k d) = ks.map f ++ [d] := by
        rw [List.map_append]
        congr 1
        · exact List.map_congr_left fun x hx => updF_ne f d fun z => hk (z ▸ hx)
        · show [updF f k d k] = _
          rw [updF_same]
      rw [e, List.map_append]
      rfl
  · rfl
theorem dput_N {ks : List Int} (f : Int → D) (k : Int) (d : D) (h : ks.length < 1000000) : putD (dicN ks f) (.int k) d = some (dicN (insK ks k) (updF f k d)) := by rw [dput_lt, if_pos h]
end DL

namespace Lw
open PySem PySem.Spec PyProof.Rows L2 DL
def b__law_cell : SF := (sSeq (sIf (bOr (t2b (e2 gEqS (e1 gLen (eV 0)) (eK (.int 0)))) (t2b (e2 gEqS (e2 gMod (e2 gIx (eV 0) (eK (.int 0))) (eK (.int 2))) (eK (.int 0))))) (sRet (eIf (t2b (e2 gLt (eV 1) (e1 gLen (eV 0)))) (eA (e2 gIx (eV 0) (eV 1))) (eK (.int 0)))) sNil)
 (sSeq (sSet 2 (eA (e2 gIx (eV 0) (e2 gMod (eV 1) (e1 gLen (eV 0))))))
 (sSeq (sSet 3 (e2 gMod (e2 gMul (e2 gAdd (eV 2) (e2 gMul (eK (.int 7919)) (e2 gAdd (eV 1) (eK (.int 1))))) (eK (.int 6364136223846793005))) (eK (.int 2305843009213693951))))
 (sRet (e2 gAdd (e2 gMul (e2 gDiv (e2 gMod (eV 2) (e2 gPow (eK (.int 10)) (eK (.int 60)))) (eK (.int 2305843009213693951))) (eK (.int 2305843009213693951))) (eV 3))))))
def den__law_cell : List D → Option D := fnD [.U, .A] 2 false b__law_cell
def b__law_whole : SF := (sRet (eAnd (e1 (gIsi "int") (eV 0)) (eNot (e1 (gIsi "bool") (eV 0)))))
def den__law_whole : List D → Option D := fnD [.A] 0 false b__law_whole
def b__law_bit : SF := (sSeq (sSet 1 (eK (.int 1)))
 (sSeq (sFor (iRg1 (eV 0)) (tgN 2) (sSet 1 (e2 gAdd (eV 1) (eV 1))) [2])
 (sRet (eV 1))))
def den__law_bit : List D → Option D := fnD [.A] 2 false b__law_bit
def b__law_has : SF := (sRet (e2 gEqS (e2 gMod (e2 gDiv (eV 0) (eCall den__law_bit (aCons (eV 1) aNil))) (eK (.int 2))) (eK (.int 1))))
def den__law_has : List D → Option D := fnD [.A, .A] 0 false b__law_has
def b_things_of : SF := (sRet (eComp (iRg1 (eK (.int 9))) (tgN 1) (t2b (e2 gGt (e2 gAnd (eV 0) (e2 gIxT (eK (.tup (List.map D.int [1, 2, 4, 8, 16, 32, 64, 128, 256, 512]))) (eV 1))) (eK (.int 0)))) (eV 1)))
def den_things_of : List D → Option D := fnD [.A] 1 false b_things_of
def b_bit_of : SF := (sRet (e2 gIxT (eK (.tup (List.map D.int [1, 2, 4, 8, 16, 32, 64, 128, 256, 512]))) (eV 0)))
def den_bit_of : List D → Option D := fnD [.A] 0 false b_bit_of
def b_set_of : SF := (sSeq (sSet 1 (eK (.int 0)))
 (sSeq (sFor (iSeq (eV 0)) (tgN 2) (sSet 1 (e2 gOr (eV 1) (eCall den_bit_of (aCons (eV 2) aNil)))) [2])
 (sRet (eV 1))))
def den_set_of : List D → Option D := fnD [.fA] 2 false b_set_of
def b_Order_init : SF := (sSeq (sIf (bOr (t2b (e2 gLt (eV 1) (eK (.int 1)))) (t2b (e2 gGt (eV 1) (eK (.int 9))))) sNev sNil)
 (sSeq (sFor (iSeq (eV 2)) (tgT [4, 5]) (sIf (bOr (t2b (e2 gLt (eV 4) (eK (.int 0)))) (bOr (t2b (e2 gGe (eV 4) (eV 5))) (t2b (e2 gGe (eV 5) (eV 1))))) sNev sNil) [4, 5])
 (sSeq (sSf 0 (eV 1))
 (sSeq (sSf 0 (eLst aNil))
 (sFor (iRg1 (eV 1)) (tgN 3) (sSeq (sSet 6 (eK (.int 0)))
 (sSeq (sFor (iSeq (eV 2)) (tgT [4, 5]) (sIf (t2b (e2 gEqS (eV 5) (eV 3))) (sSet 6 (e2 gOr (e2 gOr (eV 6) (eCall den_bit_of (aCons (eV 4) aNil))) (e2 gIx (eSf 0 1) (eV 4)))) sNil) [4, 5])
 (sSa 0 1 (eV 6)))) [3, 6, 4, 5])))))
def den_Order_init : List D → Option (List D) := initD 0 [.A, .fA] 4 b_Order_init
def b_Order_size : SF := (sRet (eA (eFld 0 0 (eV 0))))
def den_Order_size : List D → Option D := fnD [.U] 0 false b_Order_size
def b_Order_lows_of : SF := (sRet (eA (e2 gIx (eFld 0 1 (eV 0)) (eV 1))))
def den_Order_lows_of : List D → Option D := fnD [.U, .A] 0 false b_Order_lows_of
def b_has_lows : SF := (sSeq (sSet 3 (eMeth 0 den_Order_lows_of (eV 0) (aCons (eV 2) aNil)))
 (sRet (e2 gEqS (e2 gAnd (eV 3) (eV 1)) (eV 3))))
def den_has_lows : List D → Option D := fnD [.U, .A, .A] 1 false b_has_lows
def b_downsets : SF := (sSeq (sSet 1 (eLst (aCons (eK (.int 0)) aNil)))
 (sSeq (sFor (iRg1 (eMeth 0 den_Order_size (eV 0) aNil)) (tgN 2) (sSeq (sSet 3 (eCall den_bit_of (aCons (eV 2) aNil)))
 (sSet 1 (e2 gCat (eV 1) (eComp (iSeq (eV 1)) (tgN 4) (t2b (eCall den_has_lows (aCons (eV 0) (aCons (eV 4) (aCons (eV 2) aNil))))) (e2 gAdd (eV 4) (eV 3)))))) [2, 3, 4])
 (sRet (eV 1))))
def den_downsets : List D → Option D := fnD [.U] 4 false b_downsets
def b_look_at_field : SF := (sIf (bOr (t2b (e2 gLt (eV 0) (eK (.int 1)))) (bOr (t2b (e2 gLt (eV 1) (eK (.int 1)))) (t2b (e2 gGt (e2 gMul (eV 0) (eV 1)) (eK (.int 9)))))) sNev sNil)
def den_look_at_field : List D → Option D := fnD [.A, .A] 0 true b_look_at_field
def b_order_of_cells : SF := (sSeq (sSet 1 (eLst aNil))
 (sSeq (sFor (iEn (eV 0)) (tgT [2, 3]) (sFor (iRg1 (eV 2)) (tgN 4) (sIf (t2b (e2 gInD (e2 gIx (eV 0) (eV 4)) (eLst (aCons (eTup (aCons (e2 gSbI (e2 gIxT (eV 3) (eK (.int 0))) (eK (.int 1))) (aCons (e2 gIxT (eV 3) (eK (.int 1))) aNil))) (aCons (eTup (aCons (e2 gIxT (eV 3) (eK (.int 0))) (aCons (e2 gSbI (e2 gIxT (eV 3) (eK (.int 1))) (eK (.int 1))) aNil))) aNil))))) (sApp 1 (eTup (aCons (eV 4) (aCons (eV 2) aNil)))) sNil) [4]) [2, 3, 4])
 (sRet (eMake 0 den_Order_init (aCons (e1 gLen (eV 0)) (aCons (eV 1) aNil))))))
def den_order_of_cells : List D → Option D := fnD [.fA] 4 false b_order_of_cells
def b_field : SF := (sSeq (sDrop (eCall den_look_at_field (aCons (eV 0) (aCons (eV 1) aNil))))
 (sSeq (sSet 2 (eLst aNil))
 (sSeq (sFor (iRg1 (eV 0)) (tgN 3) (sExt 2 (eComp (iRg1 (eV 1)) (tgN 4) tTrue (eTup (aCons (eV 3) (aCons (eV 4) aNil))))) [3, 4])
 (sRet (eCall den_order_of_cells (aCons (eV 2) aNil))))))
def den_field : List D → Option D := fnD [.A, .A] 3 false b_field
def b_by_size : SF := (sSeq (sSet 1 (eComp (iRg1 (e2 gAdd (eMeth 0 den_Order_size (eV 0) aNil) (eK (.int 1)))) (tgN 4) tTrue (eK (.int 0))))
 (sSeq (sFor (iSeq (eCall den_downsets (aCons (eV 0) aNil))) (tgN 2) (sSeq (sSet 3 (e1 gLen (eCall den_things_of (aCons (eV 2) aNil))))
 (sPut 1 (eV 3) (e2 gAdd (e2 gIx (eV 1) (eV 3)) (eK (.int 1))))) [2, 3])
 (sRet (eV 1))))
def den_by_size : List D → Option D := fnD [.U] 4 false b_by_size
def b_Order_init_X : SF := (sSeq (sIf (bOr (t2b (e2 gLt (eV 1) (eK (.int 1)))) (t2b (e2 gGt (eV 1) (eK (.int 9))))) (sRaise 8 (aCons (eV 1) aNil)) sNil)
 (sSeq (sFor (iSeq (eV 2)) (tgT [4, 5]) (sIf (bOr (t2b (e2 gLt (eV 4) (eK (.int 0)))) (bOr (t2b (e2 gGe (eV 4) (eV 5))) (t2b (e2 gGe (eV 5) (eV 1))))) (sRaise 9 (aCons (eV 4) (aCons (eV 5) aNil))) sNil) [4, 5])
 (sSeq (sSf 0 (eV 1))
 (sSeq (sSf 0 (eLst aNil))
 (sFor (iRg1 (eV 1)) (tgN 3) (sSeq (sSet 6 (eK (.int 0)))
 (sSeq (sFor (iSeq (eV 2)) (tgT [4, 5]) (sIf (t2b (e2 gEqS (eV 5) (eV 3))) (sSet 6 (e2 gOr (e2 gOr (eV 6) (eCall den_bit_of (aCons (eV 4) aNil))) (e2 gIx (eSf 0 1) (eV 4)))) sNil) [4, 5])
 (sSa 0 1 (eV 6)))) [3, 6, 4, 5])))))
def den_Order_init_X : List D → Option ResI := initX 0 [.A, .fA] 4 b_Order_init_X
def b_folded : SF := (sSeq (sSet 2 (eComp (iRg1 (eV 1)) (tgN 5) tTrue (eK (.int 0))))
 (sSeq (sFor (iEn (eV 0)) (tgT [3, 4]) (sPut 2 (e2 gMod (eV 3) (eV 1)) (e2 gAdd (e2 gIx (eV 2) (e2 gMod (eV 3) (eV 1))) (eV 4))) [3, 4])
 (sRet (eV 2))))
def den_folded : List D → Option D := fnD [.fA, .A] 4 false b_folded
def b_look_at_field_X : SF := (sIf (bOr (t2b (e2 gLt (eV 0) (eK (.int 1)))) (bOr (t2b (e2 gLt (eV 1) (eK (.int 1)))) (t2b (e2 gGt (e2 gMul (eV 0) (eV 1)) (eK (.int 9)))))) (sRaise 18 aNil) sNil)
def den_look_at_field_X : List D → Option Res := fnX [.A, .A] 0 true b_look_at_field_X
def b_order_of_cells_X : SF := (sSeq (sSet 1 (eLst aNil))
 (sSeq (sFor (iEn (eV 0)) (tgT [2, 3]) (sFor (iRg1 (eV 2)) (tgN 4) (sIf (t2b (e2 gInD (e2 gIx (eV 0) (eV 4)) (eLst (aCons (eTup (aCons (e2 gSbI (e2 gIxT (eV 3) (eK (.int 0))) (eK (.int 1))) (aCons (e2 gIxT (eV 3) (eK (.int 1))) aNil))) (aCons (eTup (aCons (e2 gIxT (eV 3) (eK (.int 0))) (aCons (e2 gSbI (e2 gIxT (eV 3) (eK (.int 1))) (eK (.int 1))) aNil))) aNil))))) (sApp 1 (eTup (aCons (eV 4) (aCons (eV 2) aNil)))) sNil) [4]) [2, 3, 4])
 (xRet (xMake 0 den_Order_init_X (aCons (e1 gLen (eV 0)) (aCons (eV 1) aNil))))))
def den_order_of_cells_X : List D → Option Res := fnX [.fA] 4 false b_order_of_cells_X
def b_field_X : SF := (sSeq (xDrop (xCall den_look_at_field_X (aCons (eV 0) (aCons (eV 1) aNil))))
 (sSeq (sSet 2 (eLst aNil))
 (sSeq (sFor (iRg1 (eV 0)) (tgN 3) (sExt 2 (eComp (iRg1 (eV 1)) (tgN 4) tTrue (eTup (aCons (eV 3) (aCons (eV 4) aNil))))) [3, 4])
 (xRet (xCall den_order_of_cells_X (aCons (eV 2) aNil))))))
def den_field_X : List D → Option Res := fnX [.A, .A] 3 false b_field_X
def b_lengths_ahead_X : SF := (sSeq (sSet 2 (e2 gAdd (eV 0) (eV 1)))
 (sSeq (xSet 3 (xCallP den_folded (xaCons (xCallP den_by_size (xaCons (xCall den_field_X (aCons (eV 0) (aCons (eV 1) aNil))) aNil)) (aCons (eV 2) aNil))))
 (sSeq (sSet 4 (eK (.dic [] [])))
 (sSeq (sFor (iRg2 (eK (.int 1)) (e2 gAdd (eV 2) (eK (.int 1)))) (tgN 5) (sIf (t2b (e2 gEqS (e2 gMod (eV 2) (eV 5)) (eK (.int 0)))) (sThen (sSeq (sSet 8 (e1 gSum (eComp (iKeysD (eV 4)) (tgN 9) (t2b (e2 gEqS (e2 gMod (eV 5) (eV 9)) (eK (.int 0)))) (e2 gDGet (eV 4) (eV 9)))))
 (sDPutD 4 (eV 5) (e2 gSbI (e2 gIx (eV 3) (e2 gMod (eV 5) (eV 2))) (eV 8)))) [8, 9]) (sThen sNil [8, 9])) [5, 8, 9])
 (sSeq (sSet 6 (eK (.dic [] [])))
 (sSeq (sFor (iItemsD (eV 4)) (tgT [5, 7]) (sIf (t2b (e2 gNeS (eV 7) (eK (.int 0)))) (sDPutD 6 (e2 gDiv (eV 2) (eV 5)) (eV 7)) sNil) [5, 7])
 (sRet (eV 6))))))))
def den_lengths_ahead_X : List D → Option Res := fnX [.A, .A] 8 false b_lengths_ahead_X
def b__law_all : SF := (sSeq (sSet 1 (eLst (aCons (eLst aNil) aNil)))
 (sSeq (sFor (iRg1 (e1 gLen (eV 0))) (tgN 2) (sSeq (sSet 3 (eLst aNil))
 (sSeq (sFor (iSeq (eV 1)) (tgN 4) (sIf (t2b (e1 gAll (eComp (iSeq (e2 gIx (eV 0) (eV 2))) (tgN 5) tTrue (e2 gInD (eV 5) (eV 4))))) (sApp 3 (e2 gCat (eV 4) (eLst (aCons (eV 2) aNil)))) sNil) [4, 5])
 (sSet 1 (e2 gCat (eV 1) (eV 3))))) [2, 3, 4, 5])
 (sRet (eV 1))))
def den__law_all : List D → Option D := fnD [.fU] 5 false b__law_all
def b__law_turned : SF := (sSeq (sSet 2 (eLst aNil))
 (sSeq (sFor (iRg1 (e1 gLen (eV 0))) (tgN 3) (sIf (bAnd (t2b (e2 gNotInD (eV 3) (eV 1))) (t2b (e1 gAll (eComp (iSeq (e2 gIx (eV 0) (eV 3))) (tgN 4) tTrue (e2 gInD (eV 4) (eV 1)))))) (sExt 2 (e2 gCat (e2 gIx (eV 0) (eV 3)) (eLst (aCons (eV 3) aNil)))) sNil) [3, 4])
 (sRet (e1 gSSet (eV 2)))))
def den__law_turned : List D → Option D := fnD [.fU, .fA] 3 false b__law_turned
def b__law_lengths : SF := (sSeq (sSet 1 (eCall den__law_all (aCons (eV 0) aNil)))
 (sSeq (sSet 2 (eK (.dic [] [])))
 (sSeq (sWhile (t2t (eV 1)) (sSeq (sPop 1 3)
 (sSeq (sSet 4 (eK (.int 1)))
 (sSeq (sSet 5 (eCall den__law_turned (aCons (eV 0) (aCons (eV 3) aNil))))
 (sSeq (sWhile (t2b (e2 gNeD (eV 5) (eV 3))) (sSeq (sRem 1 (eV 5))
 (sSeq (sSet 5 (eCall den__law_turned (aCons (eV 0) (aCons (eV 5) aNil))))
 (sSet 4 (e2 gAdd (eV 4) (eK (.int 1)))))) [] 10000)
 (sDPutD 2 (eV 4) (e2 gAdd (e3 gDOr (eV 2) (eV 4) (eK (.int 0))) (eK (.int 1)))))))) [3, 4, 5] 10000)
 (sRet (eV 2)))))
def den__law_lengths : List D → Option D := fnD [.fU] 5 false b__law_lengths
def b__law_below_of : SF := (sSeq (sSet 3 (e2 gDiv (eV 2) (eV 1)))
 (sSeq (sSet 4 (e2 gMod (eV 2) (eV 1)))
 (sRet (eComp (iRg1 (e2 gMul (eV 0) (eV 1))) (tgN 5) (bAnd (t2b (e2 gNeS (eV 5) (eV 2))) (bAnd (t2b (e2 gLe (e2 gDiv (eV 5) (eV 1)) (eV 3))) (t2b (e2 gLe (e2 gMod (eV 5) (eV 1)) (eV 4))))) (eV 5)))))
def den__law_below_of : List D → Option D := fnD [.A, .A, .A] 3 false b__law_below_of
def b_lengths_ahead : SF := (sSeq (sSet 2 (e2 gAdd (eV 0) (eV 1)))
 (sSeq (sSet 3 (eCall den_folded (aCons (eCall den_by_size (aCons (eCall den_field (aCons (eV 0) (aCons (eV 1) aNil))) aNil)) (aCons (eV 2) aNil))))
 (sSeq (sSet 4 (eK (.dic [] [])))
 (sSeq (sFor (iRg2 (eK (.int 1)) (e2 gAdd (eV 2) (eK (.int 1)))) (tgN 5) (sIf (t2b (e2 gEqS (e2 gMod (eV 2) (eV 5)) (eK (.int 0)))) (sThen (sSeq (sSet 8 (e1 gSum (eComp (iKeysD (eV 4)) (tgN 9) (t2b (e2 gEqS (e2 gMod (eV 5) (eV 9)) (eK (.int 0)))) (e2 gDGet (eV 4) (eV 9)))))
 (sDPutD 4 (eV 5) (e2 gSbI (e2 gIx (eV 3) (e2 gMod (eV 5) (eV 2))) (eV 8)))) [8, 9]) (sThen sNil [8, 9])) [5, 8, 9])
 (sSeq (sSet 6 (eK (.dic [] [])))
 (sSeq (sFor (iItemsD (eV 4)) (tgT [5, 7]) (sIf (t2b (e2 gNeS (eV 7) (eK (.int 0)))) (sDPutD 6 (e2 gDiv (eV 2) (eV 5)) (eV 7)) sNil) [5, 7])
 (sRet (eV 6))))))))
def den_lengths_ahead : List D → Option D := fnD [.A, .A] 8 false b_lengths_ahead
theorem sm9_2 : small 9000 2 := by decide
theorem sm9_3 : small 9000 3 := by decide
theorem sm9_4 : small 9000 4 := by decide
theorem sm9_5 : small 9000 5 := by decide
theorem sm9_6 : small 9000 6 := by decide
theorem sm9_7 : small 9000 7 := by decide
theorem sm9_8 : small 9000 8 := by decide
theorem sm9_9 : small 9000 9 := by decide
theorem sm9_10 : small 9000 10 := by decide
theorem sm9_11 : small 9000 11 := by decide
theorem sm9_12 : small 9000 12 := by decide
theorem sm9_14 : small 9000 14 := by decide
theorem sm9_16 : small 9000 16 := by decide
theorem sm9_31 : small 9000 31 := by decide
theorem sm9_45 : small 9000 45 := by decide
theorem sm9_50 : small 9000 50 := by decide
theorem sm9_60 : small 9000 60 := by decide
theorem sm9_61 : small 9000 61 := by decide
theorem sm9_63 : small 9000 63 := by decide
theorem sm9_94 : small 9000 94 := by decide
theorem sm9_97 : small 9000 97 := by decide
theorem sm9_150 : small 9000 150 := by decide
theorem sm9_189 : small 9000 189 := by decide
theorem sm9_196 : small 9000 196 := by decide
theorem sm9_400 : small 9000 400 := by decide
theorem sm9_4096 : small 9000 4096 := by decide
theorem sm9_1000003 : small 9000 1000003 := by decide
theorem sm9_2305843009213693951 : small 9000 2305843009213693951 := by decide
theorem sm6_0 : small 62 0 := by decide
theorem sm6_1 : small 62 1 := by decide
theorem sm6_2 : small 62 2 := by decide
theorem sm6_3 : small 62 3 := by decide
theorem sm6_4 : small 62 4 := by decide
theorem sm6_5 : small 62 5 := by decide
theorem sm6_9 : small 62 9 := by decide
theorem sm6_13 : small 62 13 := by decide
theorem sm4_10 : small 64 10 := by decide
theorem sm1_6 : small 10 6 := by decide
theorem sm1_9 : small 10 9 := by decide
theorem sm1_15 : small 10 15 := by decide
theorem sm1_20 : small 10 20 := by decide
theorem sm1_39 : small 10 39 := by decide
theorem sm1_40 : small 10 40 := by decide
theorem sm1_50 : small 10 50 := by decide
theorem sm1_54 : small 10 54 := by decide
theorem sm1_55 : small 10 55 := by decide
theorem sm1_60 : small 10 60 := by decide
theorem mk_2 (i : Int) : mulOk i 2 := .inr (.inl (by decide))
theorem mk_143 (i : Int) : mulOk i 143 := .inr (.inl (by decide))
theorem mk_1001 (i : Int) : mulOk i 1001 := .inr (.inl (by decide))
theorem mk_48271 (i : Int) : mulOk i 48271 := .inr (.inl (by decide))
theorem mk_2305843009213693951 (i : Int) : mulOk i 2305843009213693951 := .inr (.inl (by decide))
theorem mk_6364136223846793005 (i : Int) : mulOk i 6364136223846793005 := .inr (.inl (by decide))
theorem mj_2 (i : Int) : mulOk 2 i := .inl (by decide)
theorem mj_5 (i : Int) : mulOk 5 i := .inl (by decide)
theorem mj_7 (i : Int) : mulOk 7 i := .inl (by decide)
theorem mj_7919 (i : Int) : mulOk 7919 i := .inl (by decide)
local macro_rules | `(tactic| walk_at "ev") => `(tactic| simp only [fnD, chks, PKn.chk, D.lf, D.lfs, sSeq, sNil, sIf, sRet, sSet, sDrop, sFor, sThen, sPar, sTg, sApp, sExt, sRev, sClr, sPut, sWhile, clrs, eK, eV, e1, e2, eA, eAnd, eOr, eNot, eIf, eTup, eLst, eCall, eSl, oNo, oYes, aNil, aCons, t2b, b2e, bAnd, bOr, bNot, t2t, tTrue, iSeq, iTupD, iRg1, iRg2, tgN, tgT, setAll, i1, i2, gAdd, gSbI, gMul, gDiv, gMod, gPow, gAnd, gOr, gXor, gNeg, gLt, gLe, gGt, gGe, gEqS, gNeS, gAbs, gLen, gIx, gIxT, gCat, gList, gListT, gTuple, gSlL, gSlT, gCatT, gSum, gAll, gAny, gInT, Option.bind_some, Option.bind_none, Option.map_some, List.getElem?_cons_zero, List.getElem?_cons_succ, List.set_cons_zero, List.set_cons_succ, List.replicate, List.cons_append, List.nil_append, Bool.and_true, Bool.true_and, Bool.and_false, Bool.false_and, if_true, if_false, reduceIte, Bool.false_eq_true, List.length_cons, List.length_nil, Bool.not_true, Bool.not_false, decide_true, decide_false, ite_true, ite_false, Bool.not_eq_true, Bool.not_eq_false, decide_eq_true_eq, Nat.reduceAdd, Nat.reduceLeDiff, Int.reduceLT, Int.reduceLE, Int.reduceNeg, Int.reduceAdd, Int.reduceSub, Int.reduceMul, Int.reduceMod, Int.reduceDiv, Nat.reduceLT, Int.reduceEq, Nat.reduceEqDiff, true_and, and_true, and_self, false_and, and_false, not_true_eq_false, not_false_eq_true, Bool.or_true, Bool.true_or, Bool.or_false, Bool.false_or, Int.reducePow, Int.reduceToNat, Bool.not_not, sSf, sSa, eSf, eFld, eMeth, eMake, sRa, sRs, atL, gMin, gMax, gInt, iEn, iRv, iRgN, eAt, eLf, gRep, e3, sDPutD, eAlt, iZp, xDrop, xSet, xRet, xCall, xMeth, xMake, sRaise, sTry, tryGo, suiteOut, gIsC, eFldE, gIs0, gNot0, isN, fnX, List.reverse_cons, List.reverse_nil
, gTupRT, gStr, gAddS, gSlSt, iKeysD, iItemsD, sClrD, kD, xCallP, xCallQ, xaCons, gTrg1, sm9_2, sm9_3, sm9_4, sm9_5, sm9_6, sm9_7, sm9_8, sm9_9, sm9_10, sm9_11, sm9_12, sm9_14, sm9_16, sm9_31, sm9_45, sm9_50, sm9_60, sm9_61, sm9_63, sm9_94, sm9_97, sm9_150, sm9_189, sm9_196, sm9_400, sm9_4096, sm9_1000003, sm9_2305843009213693951, sm6_0, sm6_1, sm6_2, sm6_3, sm6_4, sm6_5, sm6_9, sm6_13, sm4_10, sm1_6, sm1_9, sm1_15, sm1_20, sm1_39, sm1_40, sm1_50, sm1_54, sm1_55, sm1_60, mk_2, mk_143, mk_1001, mk_48271, mk_2305843009213693951, mk_6364136223846793005, mj_2, mj_5, mj_7, mj_7919])
local macro_rules | `(tactic| walk_at "st") => `(tactic| (apply st_nx; focus (simp only [fnD, chks, PKn.chk, D.lf, D.lfs, sSeq, sNil, sIf, sRet, sSet, sDrop, sFor, sThen, sPar, sTg, sApp, sExt, sRev, sClr, sPut, sWhile, clrs, eK, eV, e1, e2, eA, eAnd, eOr, eNot, eIf, eTup, eLst, eCall, eSl, oNo, oYes, aNil, aCons, t2b, b2e, bAnd, bOr, bNot, t2t, tTrue, iSeq, iTupD, iRg1, iRg2, tgN, tgT, setAll, i1, i2, gAdd, gSbI, gMul, gDiv, gMod, gPow, gAnd, gOr, gXor, gNeg, gLt, gLe, gGt, gGe, gEqS, gNeS, gAbs, gLen, gIx, gIxT, gCat, gList, gListT, gTuple, gSlL, gSlT, gCatT, gSum, gAll, gAny, gInT, Option.bind_some, Option.bind_none, Option.map_some, List.getElem?_cons_zero, List.getElem?_cons_succ, List.set_cons_zero, List.set_cons_succ, List.replicate, List.cons_append, List.nil_append, Bool.and_true, Bool.true_and, Bool.and_false, Bool.false_and, if_true, if_false, reduceIte, Bool.false_eq_true, List.length_cons, List.length_nil, Bool.not_true, Bool.not_false, decide_true, decide_false, ite_true, ite_false, Bool.not_eq_true, Bool.not_eq_false, decide_eq_true_eq, Nat.reduceAdd, Nat.reduceLeDiff, Int.reduceLT, Int.reduceLE, Int.reduceNeg, Int.reduceAdd, Int.reduceSub, Int.reduceMul, Int.reduceMod, Int.reduceDiv, Nat.reduceLT, Int.reduceEq, Nat.reduceEqDiff, true_and, and_true, and_self, false_and, and_false, not_true_eq_false, not_false_eq_true, Bool.or_true, Bool.true_or, Bool.or_false, Bool.false_or, Int.reducePow, Int.reduceToNat, Bool.not_not, sSf, sSa, eSf, eFld, eMeth, eMake, sRa, sRs, atL, gMin, gMax, gInt, iEn, iRv, iRgN, eAt, eLf, gRep, e3, sDPutD, eAlt, iZp, xDrop, xSet, xRet, xCall, xMeth, xMake, sRaise, sTry, tryGo, suiteOut, gIsC, eFldE, gIs0, gNot0, isN, fnX, List.reverse_cons, List.reverse_nil
, gTupRT, gStr, gAddS, gSlSt, iKeysD, iItemsD, sClrD, kD, xCallP, xCallQ, xaCons, gTrg1, sm9_2, sm9_3, sm9_4, sm9_5, sm9_6, sm9_7, sm9_8, sm9_9, sm9_10, sm9_11, sm9_12, sm9_14, sm9_16, sm9_31, sm9_45, sm9_50, sm9_60, sm9_61, sm9_63, sm9_94, sm9_97, sm9_150, sm9_189, sm9_196, sm9_400, sm9_4096, sm9_1000003, sm9_2305843009213693951, sm6_0, sm6_1, sm6_2, sm6_3, sm6_4, sm6_5, sm6_9, sm6_13, sm4_10, sm1_6, sm1_9, sm1_15, sm1_20, sm1_39, sm1_40, sm1_50, sm1_54, sm1_55, sm1_60, mk_2, mk_143, mk_1001, mk_48271, mk_2305843009213693951, mk_6364136223846793005, mj_2, mj_5, mj_7, mj_7919]; try rfl)))
local macro_rules | `(tactic| simp_arith [$xs,*]) => `(tactic| simp only [fnD, chks, PKn.chk, D.lf, D.lfs, sSeq, sNil, sIf, sRet, sSet, sDrop, sFor, sThen, sPar, sTg, sApp, sExt, sRev, sClr, sPut, sWhile, clrs, eK, eV, e1, e2, eA, eAnd, eOr, eNot, eIf, eTup, eLst, eCall, eSl, oNo, oYes, aNil, aCons, t2b, b2e, bAnd, bOr, bNot, t2t, tTrue, iSeq, iTupD, iRg1, iRg2, tgN, tgT, setAll, i1, i2, gAdd, gSbI, gMul, gDiv, gMod, gPow, gAnd, gOr, gXor, gNeg, gLt, gLe, gGt, gGe, gEqS, gNeS, gAbs, gLen, gIx, gIxT, gCat, gList, gListT, gTuple, gSlL, gSlT, gCatT, gSum, gAll, gAny, gInT, Option.bind_some, Option.bind_none, Option.map_some, List.getElem?_cons_zero, List.getElem?_cons_succ, List.set_cons_zero, List.set_cons_succ, List.replicate, List.cons_append, List.nil_append, Bool.and_true, Bool.true_and, Bool.and_false, Bool.false_and, if_true, if_false, reduceIte, Bool.false_eq_true, List.length_cons, List.length_nil, Bool.not_true, Bool.not_false, decide_true, decide_false, ite_true, ite_false, Bool.not_eq_true, Bool.not_eq_false, decide_eq_true_eq, Nat.reduceAdd, Nat.reduceLeDiff, Int.reduceLT, Int.reduceLE, Int.reduceNeg, Int.reduceAdd, Int.reduceSub, Int.reduceMul, Int.reduceMod, Int.reduceDiv, Nat.reduceLT, Int.reduceEq, Nat.reduceEqDiff, true_and, and_true, and_self, false_and, and_false, not_true_eq_false, not_false_eq_true, Bool.or_true, Bool.true_or, Bool.or_false, Bool.false_or, Int.reducePow, Int.reduceToNat, Bool.not_not, sSf, sSa, eSf, eFld, eMeth, eMake, sRa, sRs, atL, gMin, gMax, gInt, iEn, iRv, iRgN, eAt, eLf, gRep, e3, sDPutD, eAlt, iZp, xDrop, xSet, xRet, xCall, xMeth, xMake, sRaise, sTry, tryGo, suiteOut, gIsC, eFldE, gIs0, gNot0, isN, fnX, List.reverse_cons, List.reverse_nil
, gTupRT, gStr, gAddS, gSlSt, iKeysD, iItemsD, sClrD, kD, xCallP, xCallQ, xaCons, gTrg1, sm9_2, sm9_3, sm9_4, sm9_5, sm9_6, sm9_7, sm9_8, sm9_9, sm9_10, sm9_11, sm9_12, sm9_14, sm9_16, sm9_31, sm9_45, sm9_50, sm9_60, sm9_61, sm9_63, sm9_94, sm9_97, sm9_150, sm9_189, sm9_196, sm9_400, sm9_4096, sm9_1000003, sm9_2305843009213693951, sm6_0, sm6_1, sm6_2, sm6_3, sm6_4, sm6_5, sm6_9, sm6_13, sm4_10, sm1_6, sm1_9, sm1_15, sm1_20, sm1_39, sm1_40, sm1_50, sm1_54, sm1_55, sm1_60, mk_2, mk_143, mk_1001, mk_48271, mk_2305843009213693951, mk_6364136223846793005, mj_2, mj_5, mj_7, mj_7919, $xs,*])
local macro_rules | `(tactic| simp_arith! [$xs,*]) => `(tactic| (apply st_nx; focus (simp only [fnD, chks, PKn.chk, D.lf, D.lfs, sSeq, sNil, sIf, sRet, sSet, sDrop, sFor, sThen, sPar, sTg, sApp, sExt, sRev, sClr, sPut, sWhile, clrs, eK, eV, e1, e2, eA, eAnd, eOr, eNot, eIf, eTup, eLst, eCall, eSl, oNo, oYes, aNil, aCons, t2b, b2e, bAnd, bOr, bNot, t2t, tTrue, iSeq, iTupD, iRg1, iRg2, tgN, tgT, setAll, i1, i2, gAdd, gSbI, gMul, gDiv, gMod, gPow, gAnd, gOr, gXor, gNeg, gLt, gLe, gGt, gGe, gEqS, gNeS, gAbs, gLen, gIx, gIxT, gCat, gList, gListT, gTuple, gSlL, gSlT, gCatT, gSum, gAll, gAny, gInT, Option.bind_some, Option.bind_none, Option.map_some, List.getElem?_cons_zero, List.getElem?_cons_succ, List.set_cons_zero, List.set_cons_succ, List.replicate, List.cons_append, List.nil_append, Bool.and_true, Bool.true_and, Bool.and_false, Bool.false_and, if_true, if_false, reduceIte, Bool.false_eq_true, List.length_cons, List.length_nil, Bool.not_true, Bool.not_false, decide_true, decide_false, ite_true, ite_false, Bool.not_eq_true, Bool.not_eq_false, decide_eq_true_eq, Nat.reduceAdd, Nat.reduceLeDiff, Int.reduceLT, Int.reduceLE, Int.reduceNeg, Int.reduceAdd, Int.reduceSub, Int.reduceMul, Int.reduceMod, Int.reduceDiv, Nat.reduceLT, Int.reduceEq, Nat.reduceEqDiff, true_and, and_true, and_self, false_and, and_false, not_true_eq_false, not_false_eq_true, Bool.or_true, Bool.true_or, Bool.or_false, Bool.false_or, Int.reducePow, Int.reduceToNat, Bool.not_not, sSf, sSa, eSf, eFld, eMeth, eMake, sRa, sRs, atL, gMin, gMax, gInt, iEn, iRv, iRgN, eAt, eLf, gRep, e3, sDPutD, eAlt, iZp, xDrop, xSet, xRet, xCall, xMeth, xMake, sRaise, sTry, tryGo, suiteOut, gIsC, eFldE, gIs0, gNot0, isN, fnX, List.reverse_cons, List.reverse_nil
, gTupRT, gStr, gAddS, gSlSt, iKeysD, iItemsD, sClrD, kD, xCallP, xCallQ, xaCons, gTrg1, sm9_2, sm9_3, sm9_4, sm9_5, sm9_6, sm9_7, sm9_8, sm9_9, sm9_10, sm9_11, sm9_12, sm9_14, sm9_16, sm9_31, sm9_45, sm9_50, sm9_60, sm9_61, sm9_63, sm9_94, sm9_97, sm9_150, sm9_189, sm9_196, sm9_400, sm9_4096, sm9_1000003, sm9_2305843009213693951, sm6_0, sm6_1, sm6_2, sm6_3, sm6_4, sm6_5, sm6_9, sm6_13, sm4_10, sm1_6, sm1_9, sm1_15, sm1_20, sm1_39, sm1_40, sm1_50, sm1_54, sm1_55, sm1_60, mk_2, mk_143, mk_1001, mk_48271, mk_2305843009213693951, mk_6364136223846793005, mj_2, mj_5, mj_7, mj_7919, $xs,*]; try rfl)))
abbrev nD (n : Nat) : D := .int (n : Int)
theorem bit_eq (t : Nat) (ht : t < 9) : den__law_bit [nD t] = some (nD (2 ^ t)) := by
  match t, ht with
  | 0, _ => rfl
  | 1, _ => rfl
  | 2, _ => rfl
  | 3, _ => rfl
  | 4, _ => rfl
  | 5, _ => rfl
  | 6, _ => rfl
  | 7, _ => rfl
  | 8, _ => rfl
  | n + 9, h => omega
theorem bits_at (t : Nat) (ht : t < 9) : atI (List.map D.int [1, 2, 4, 8, 16, 32, 64, 128, 256, 512]) (t : Int) = some (nD (2 ^ t)) := by
  match t, ht with
  | 0, _ => rfl
  | 1, _ => rfl
  | 2, _ => rfl
  | 3, _ => rfl
  | 4, _ => rfl
  | 5, _ => rfl
  | 6, _ => rfl
  | 7, _ => rfl
  | 8, _ => rfl
  | n + 9, h => omega
theorem bit_of_eq (t : Nat) (ht : t < 9) : den_bit_of [nD t] = some (nD (2 ^ t)) := by
  refine fnD_rt rfl ?_
  unfold b_bit_of
  have h := bits_at t ht
  simp_arith [h]
theorem pow_lt9 {t : Nat} (ht : t < 9) : 2 ^ t ≤ 256 := by
  have : 2 ^ t ≤ 2 ^ 8 := Nat.pow_le_pow_right (by omega) (by omega)
  omega
theorem has_eq (b t : Nat) (ht : t < 9) : den__law_has [nD b, nD t] = some (.bl (b.testBit t)) := by
  refine fnD_rt rfl ?_
  unfold b__law_has
  have h := bit_eq t ht
  have h1 : (0 : Int) < ((2 ^ t : Nat) : Int) := by have := Nat.two_pow_pos t; omega
  have h2 : small 9000 ((2 ^ t : Nat) : Int) := small_b (by omega) (by have := pow_lt9 ht; omega)
  simp_arith [h]
  simp_arith [nD, h1, h2]
  rw [← test_div]
  have : (((b : Int) / ((2 ^ t : Nat) : Int)) % 2 = 1) ↔ (b / 2 ^ t % 2 = 1) := by
    rw [← Int.natCast_ediv]; omega
  simp only [this]
/-- the things below 9 of a mark -/
def T9 (p : Nat → Bool) : List Nat := (List.range 9).filter p
theorem r9 : rangeD 0 9 = (List.range 9).map nD := rfl
theorem T9_len (p : Nat → Bool) : (T9 p).length ≤ 9 := by have := List.length_filter_le p (List.range 9); simpa [T9] using this
theorem things_eq (b : Nat) : den_things_of [nD b] = some (.lst (asD (T9 b.testBit))) := by
  refine fnD_rt rfl ?_
  unfold b_things_of
  have : eComp (iRg1 (eK (.int 9))) (tgN 1) (t2b (e2 gGt (e2 gAnd (eV 0) (e2 gIxT (eK (.tup (List.map D.int [1, 2, 4, 8, 16, 32, 64, 128, 256, 512]))) (eV 1))) (eK (.int 0)))) (eV 1) [nD b, .non] = some (.lst (asD (T9 b.testBit))) := by
    refine comp_eq (items := rangeD 0 9) ?_ ?_ (by rw [asD_len]; have := T9_len b.testBit; omega)
    · walk_at "ev"
    · rw [r9]
      refine comp_filter _ b.testBit nD _ fun t ht => ⟨_, rfl, ?_, fun _ => rfl⟩
      have ht := List.mem_range.mp ht
      have h := bits_at t ht
      simp_arith [h, bitAnd_nat]
      rw [← and_pow]
      simp
  unfold sRet
  show (eComp _ _ _ _ [nD b, .non]).bind _ = _
  rw [this]; rfl
theorem set_eq (hs : List Nat) (h9 : ∀ h ∈ hs, h < 9) : den_set_of [.lst (asD hs)] = some (nD (orB hs)) := by
  refine fnD_rt (by show (D.lfs (asD hs) && true) = true; rw [lfs_asD]; rfl) ?_
  unfold b_set_of
  walk_at "st"
  refine st_nx (ρ' := [.lst (asD hs), nD (orB hs), .non]) ((for_eq (items := asD hs) ?_).trans ?_) ?_
  · walk_at "ev"
  · exact (loop_fold (enc := fun (b : Nat) => [.lst (asD hs), nD b, .non]) (f := nD) (step := fun b h => b ||| 2 ^ h) (Pv := fun _ => True) hs 0 trivial fun b h hh _ => ⟨trivial, _, _, rfl, .inl (by
        have := bit_of_eq h (h9 h hh)
        simp_arith [this, bitOr_nat]; rfl), rfl⟩).1
  · walk_at "ev"

/-- pairs of numbers, as data -/
def asP (ps : List (Nat × Nat)) : List D := ps.map fun p => .tup [nD p.1, nD p.2]
theorem asP_len (ps : List (Nat × Nat)) : (asP ps).length = ps.length := by simp [asP]
theorem asP_app (a b : List (Nat × Nat)) : asP (a ++ b) = asP a ++ asP b := by simp [asP]
theorem lfs_asP : ∀ ps : List (Nat × Nat), D.lfs (asP ps) = true
  | [] => rfl
  | _ :: ps => lfs_asP ps
def PsOk (n : Nat) (ps : List (Nat × Nat)) : Prop := ∀ p ∈ ps, p.1 < p.2 ∧ p.2 < n
/-- what follows from the pairs -/
inductive Clo (ps : List (Nat × Nat)) : Nat → Nat → Prop
  | base {i j : Nat} : (i, j) ∈ ps → Clo ps i j
  | step {i l j : Nat} : Clo ps i l → (l, j) ∈ ps → Clo ps i j
theorem Clo.trans {ps : List (Nat × Nat)} {i j k : Nat} (h : Clo ps i j) (h2 : Clo ps j k) : Clo ps i k := by
  induction h2 with
  | base m => exact .step h m
  | step _ m ih => exact .step ih m
theorem Clo.iff_last {ps : List (Nat × Nat)} {i j : Nat} : Clo ps i j ↔ ∃ l, (l, j) ∈ ps ∧ (i = l ∨ Clo ps i l) := by
  constructor
  · intro h
    cases h with
    | base m => exact ⟨i, m, .inl rfl⟩
    | step h m => exact ⟨_, m, .inr h⟩
  · rintro ⟨l, m, rfl | h⟩
    · exact .base m
    · exact .step h m
theorem Clo.up {ps : List (Nat × Nat)} {n : Nat} (hp : PsOk n ps) {i j : Nat} (h : Clo ps i j) : i < j ∧ j < n := by
  induction h with
  | base m => exact hp _ m
  | step _ m ih => have := hp _ m; exact ⟨Nat.lt_trans ih.1 this.1, this.2⟩
open Classical in
noncomputable def cl (ps : List (Nat × Nat)) (i j : Nat) : Bool := decide (Clo ps i j)
theorem cl_iff {ps : List (Nat × Nat)} {i j : Nat} : cl ps i j = true ↔ Clo ps i j := by unfold cl; simp
/-- an order of n things -/
structure PO (n : Nat) (lt : Nat → Nat → Bool) : Prop where
  pos : 1 ≤ n
  le : n ≤ 9
  up : ∀ {i j : Nat}, lt i j = true → i < j ∧ j < n
  tr : ∀ {i j k : Nat}, lt i j = true → lt j k = true → lt i k = true
theorem po_cl {n : Nat} {ps : List (Nat × Nat)} (h1 : 1 ≤ n) (h9 : n ≤ 9) (hp : PsOk n ps) : PO n (cl ps) :=
  ⟨h1, h9, fun h => (cl_iff.mp h).up hp, fun h h2 => cl_iff.mpr ((cl_iff.mp h).trans (cl_iff.mp h2))⟩
/-- the set of what is below j, as bits -/
def lows (n : Nat) (lt : Nat → Nat → Bool) (j : Nat) : Nat := sumB (fun i => lt i j) n
def ordD (n : Nat) (lt : Nat → Nat → Bool) : D := .ins 0 [nD n, .lst (asD ((List.range n).map (lows n lt)))]
theorem lows_test {n : Nat} {lt : Nat → Nat → Bool} (P : PO n lt) (i j : Nat) : (lows n lt j).testBit i = lt i j := by
  unfold lows
  rw [sumB_test]
  cases h : lt i j with
  | false => simp
  | true => have := P.up h; simp; omega
theorem foldl_or_test {α : Type} (p : α → Bool) (f : α → Nat) (i : Nat) : ∀ (xs : List α) (b : Nat), (xs.foldl (fun b x => if p x = true then b ||| f x else b) b).testBit i = (b.testBit i || xs.any fun x => p x && (f x).testBit i)
  | [], b => by simp
  | x :: xs, b => by
    rw [List.foldl_cons, foldl_or_test p f i xs, List.any_cons]
    by_cases h : p x = true
    · rw [if_pos h, Nat.testBit_or, h, Bool.true_and, Bool.or_assoc]
    · rw [if_neg h]; simp [h]
theorem init_eq {n : Nat} {ps : List (Nat × Nat)} (h1 : 1 ≤ n) (h9 : n ≤ 9) (hp : PsOk n ps) : den_Order_init [nD n, .lst (asP ps)] = some [nD n, .lst (asD ((List.range n).map (lows n (cl ps))))] := by
  have P := po_cl h1 h9 hp
  have hb : b_Order_init [.ins 0 [], nD n, .lst (asP ps), .non, .non, .non, .non] = some (.nx [.ins 0 [nD n, .lst (asD ((List.range n).map (lows n (cl ps))))], nD n, .lst (asP ps), .non, .non, .non, .non]) := by
    unfold b_Order_init
    have q1 : decide ((n : Int) < 1) = false := decide_eq_false (by omega)
    have q2 : decide ((9 : Int) < n) = false := decide_eq_false (by omega)
    simp_arith! [q1, q2]
    refine st_nx (ρ' := [.ins 0 [], nD n, .lst (asP ps), .non, .non, .non, .non]) ((for_eq (items := asP ps) ?_).trans ?_) ?_
    · walk_at "ev"
    · exact (loop_fold (enc := fun (_ : Unit) => [.ins 0 [], nD n, .lst (asP ps), .non, .non, .non, .non]) (f := fun (p : Nat × Nat) => D.tup [nD p.1, nD p.2]) (step := fun u _ => u) (Pv := fun _ => True) ps () trivial fun _ p hm _ => ⟨trivial, _, _, rfl, .inl (by
        have hh := hp p hm
        have e3 : decide ((p.1 : Int) < 0) = false := decide_eq_false (by omega)
        have e4 : decide ((p.2 : Int) ≤ p.1) = false := decide_eq_false (by omega)
        have e5 : decide ((n : Int) ≤ p.2) = false := decide_eq_false (by omega)
        simp_arith [e3, e4, e5]; rfl), rfl⟩).1
    walk_at "st"
    walk_at "st"
    refine (for_eq (items := rangeD 0 n) ?_).trans ?_
    · walk_at "ev"
      rw [if_pos (small_b (by omega) (by omega))]
    · rw [rangeD_nat]
      refine loop_inv (fun t => [.ins 0 [nD n, .lst (asD ((List.range t).map (lows n (cl ps))))], nD n, .lst (asP ps), .non, .non, .non, .non]) n (by simp) rfl fun t ht d hd => ?_
      rw [List.getElem?_map, List.getElem?_range ht] at hd
      cases hd
      refine ⟨_, [.ins 0 [nD n, .lst (asD ((List.range (t + 1)).map (lows n (cl ps))))], nD n, .lst (asP ps), nD t, .non, .non, nD (lows n (cl ps) t)], rfl, .inl ?_, rfl⟩
      walk_at "st"
      refine st_nx (ρ' := [.ins 0 [nD n, .lst (asD ((List.range t).map (lows n (cl ps))))], nD n, .lst (asP ps), nD t, .non, .non, nD (lows n (cl ps) t)]) ((for_eq (items := asP ps) ?_).trans ?_) ?_
      · walk_at "ev"
      · have key := (loop_fold (tg := tgT [4, 5]) (b := (sIf (t2b (e2 gEqS (eV 5) (eV 3))) (sSet 6 (e2 gOr (e2 gOr (eV 6) (eCall den_bit_of (aCons (eV 4) aNil))) (e2 gIx (eSf 0 1) (eV 4)))) sNil)) (cl := [4, 5]) (enc := fun (b : Nat) => [.ins 0 [nD n, .lst (asD ((List.range t).map (lows n (cl ps))))], nD n, .lst (asP ps), nD t, .non, .non, nD b]) (f := fun (p : Nat × Nat) => D.tup [nD p.1, nD p.2])
          (step := fun b p => if decide (p.2 = t) = true then b ||| (2 ^ p.1 ||| lows n (cl ps) p.1) else b) (Pv := fun _ => True) ps 0 trivial fun b p hm _ => ⟨trivial, _, [.ins 0 [nD n, .lst (asD ((List.range t).map (lows n (cl ps))))], nD n, .lst (asP ps), nD t, nD p.1, nD p.2, nD (if decide (p.2 = t) = true then b ||| (2 ^ p.1 ||| lows n (cl ps) p.1) else b)], rfl, .inl (by
          have hh := hp p hm
          by_cases hpt : p.2 = t
          · subst hpt
            have hb := bit_of_eq p.1 (by omega)
            have hg : atI (asD ((List.range p.2).map (lows n (cl ps)))) (p.1 : Int) = some (nD (lows n (cl ps) p.1)) := atI_mapN (by rw [List.getElem?_map, List.getElem?_range hh.1]; rfl)
            simp_arith [hb, eSf, hg, bitOr_nat, Nat.or_assoc]
          · have e6 : ¬ ((p.2 : Int) = t) := by omega
            simp_arith [e6, hpt]), rfl⟩).1
        have e7 : ps.foldl (fun b p => if decide (p.2 = t) = true then b ||| (2 ^ p.1 ||| lows n (cl ps) p.1) else b) 0 = lows n (cl ps) t := by
          apply Nat.eq_of_testBit_eq
          intro i
          rw [foldl_or_test (fun p : Nat × Nat => decide (p.2 = t)) (fun p => 2 ^ p.1 ||| lows n (cl ps) p.1), lows_test P, Nat.zero_testBit, Bool.false_or, Bool.eq_iff_iff, List.any_eq_true, cl_iff, Clo.iff_last]
          constructor
          · rintro ⟨p, hm, h⟩
            rw [Bool.and_eq_true, decide_eq_true_eq, Nat.testBit_or, Nat.testBit_two_pow, Bool.or_eq_true, decide_eq_true_eq, lows_test P, cl_iff] at h
            obtain ⟨h1, h2⟩ := h
            subst h1
            exact ⟨p.1, hm, h2.imp Eq.symm id⟩
          · rintro ⟨l, hm, h⟩
            refine ⟨(l, t), hm, ?_⟩
            rw [Bool.and_eq_true, decide_eq_true_eq, Nat.testBit_or, Nat.testBit_two_pow, Bool.or_eq_true, decide_eq_true_eq, lows_test P, cl_iff]
            exact ⟨rfl, h.imp Eq.symm id⟩
        rw [e7] at key
        exact key
      · have hl : ((List.range t).map (lows n (cl ps))).length < 1000000 := by simp; omega
        simp_arith [sSa, asD_len, hl, List.range_succ, List.map_append, asD_app]
        rfl
  unfold den_Order_init initD
  have hc : chks [.A, .fA] [nD n, .lst (asP ps)] = true := by show (true && (D.lfs (asP ps) && true)) = true; rw [lfs_asP]; rfl
  rw [if_pos hc]
  have : (D.ins 0 [] :: ([nD n, .lst (asP ps)] ++ List.replicate 4 D.non)) = [.ins 0 [], nD n, .lst (asP ps), .non, .non, .non, .non] := rfl
  rw [this, hb]
  rfl
section
variable {n : Nat} {lt : Nat → Nat → Bool} (P : PO n lt)
theorem size_eq : den_Order_size [ordD n lt] = some (nD n) := rfl
theorem lows_at (j : Nat) (hj : j < n) : atI (asD ((List.range n).map (lows n lt))) (j : Int) = some (nD (lows n lt j)) := atI_mapN (by rw [List.getElem?_map, List.getElem?_range hj]; rfl)
theorem lows_of_eq (j : Nat) (hj : j < n) : den_Order_lows_of [ordD n lt, nD j] = some (nD (lows n lt j)) := by
  refine fnD_rt rfl ?_
  unfold b_Order_lows_of
  have h := lows_at (lt := lt) j hj
  simp_arith [eFld, ordD, h]
/-- b has all that is below j -/
def hasL (n : Nat) (lt : Nat → Nat → Bool) (b j : Nat) : Bool := (List.range n).all fun i => !lt i j || b.testBit i
include P in
theorem and_lows (b j : Nat) : decide (lows n lt j &&& b = lows n lt j) = hasL n lt b j := by
  rw [Bool.eq_iff_iff, decide_eq_true_eq]
  unfold hasL
  rw [List.all_eq_true]
  constructor
  · intro h i _
    have := congrArg (fun x => x.testBit i) h
    simp only [Nat.testBit_and, lows_test P] at this
    cases h1 : lt i j with
    | false => rfl
    | true => rw [h1, Bool.true_and] at this; rw [this]; rfl
  · intro h
    apply Nat.eq_of_testBit_eq
    intro i
    rw [Nat.testBit_and, lows_test P]
    cases h1 : lt i j with
    | false => rfl
    | true =>
      have h2 := h i (List.mem_range.mpr (by have := P.up h1; omega))
      rw [h1] at h2
      simpa using h2
include P in
theorem has_lows_eq (b j : Nat) (hj : j < n) : den_has_lows [ordD n lt, nD b, nD j] = some (.bl (hasL n lt b j)) := by
  refine fnD_rt rfl ?_
  unfold b_has_lows
  have h := lows_of_eq (lt := lt) j hj
  unfold ordD at h ⊢
  simp_arith! [eMeth, h]
  simp_arith [bitAnd_nat, Int.natCast_inj, ← and_lows P]
end

theorem fnX_rt {pks : List PKn} {m : Nat} {nx : Bool} {b : SF} {args : List D} {d : D} (hc : chks pks args = true) (h : b (args ++ List.replicate m .non) = some (.rt d)) : fnX pks m nx b args = some (.rt d) := by unfold fnX; rw [if_pos hc, h]; rfl
theorem fnX_nx {pks : List PKn} {m : Nat} {b : SF} {args ρ : List D} (hc : chks pks args = true) (h : b (args ++ List.replicate m .non) = some (.nx ρ)) : fnX pks m true b args = some (.rt .non) := by unfold fnX; rw [if_pos hc, h]; rfl
theorem fnX_ex {pks : List PKn} {m : Nat} {nx : Bool} {b : SF} {args ρ es : List D} {c : Nat} (hc : chks pks args = true) (h : b (args ++ List.replicate m .non) = some (.ex c es ρ)) : fnX pks m nx b args = some (.ex c es) := by unfold fnX; rw [if_pos hc, h]; rfl
theorem seq_ex {f g : SF} {ρ ρ' es : List D} {c : Nat} (h : f ρ = some (.ex c es ρ')) : sSeq f g ρ = some (.ex c es ρ') := by unfold sSeq; rw [h]; rfl
theorem drop_ex {f : XF} {ρ es : List D} {c : Nat} (h : f ρ = some (.ex c es)) : xDrop f ρ = some (.ex c es ρ) := by unfold xDrop; rw [h]; rfl
theorem drop_rt {f : XF} {ρ : List D} {d : D} (h : f ρ = some (.rt d)) : xDrop f ρ = some (.nx ρ) := by unfold xDrop; rw [h]; rfl
theorem ret_ex {f : XF} {ρ es : List D} {c : Nat} (h : f ρ = some (.ex c es)) : xRet f ρ = some (.ex c es ρ) := by unfold xRet; rw [h]; rfl
theorem ret_rt {f : XF} {ρ : List D} {d : D} (h : f ρ = some (.rt d)) : xRet f ρ = some (.rt d) := by unfold xRet; rw [h]; rfl
theorem set_ex {i : Nat} {f : XF} {ρ es : List D} {c : Nat} (h : f ρ = some (.ex c es)) : xSet i f ρ = some (.ex c es ρ) := by unfold xSet; rw [h]; rfl
theorem set_rt {i : Nat} {f : XF} {ρ : List D} {d : D} (h : f ρ = some (.rt d)) : xSet i f ρ = some (.nx (ρ.set i d)) := by unfold xSet; rw [h]; rfl
theorem try_nx {f : SF} {cs : List Clause} {ρ ρ' : List D} (h : f ρ = some (.nx ρ')) : sTry f cs ρ = some (.nx ρ') := by unfold sTry; rw [h]; rfl
theorem try_ex {f : SF} {cs : List Clause} {ρ ρ' es : List D} {c : Nat} (h : f ρ = some (.ex c es ρ')) : sTry f cs ρ = tryGo cs c es ρ' := by unfold sTry; rw [h]; rfl

theorem cellC_ex (ns : List Int) (k : Nat) : ∃ c, den__law_cell [.scr (ns.map .int), .int k] = some (.int c) := by
  have fin : ∀ (d : D), (∃ c, d = .int c) → b__law_cell [.scr (ns.map .int), .int k, .non, .non] = some (.rt d) → ∃ c, den__law_cell [.scr (ns.map .int), .int k] = some (.int c) := fun d ⟨c, e⟩ h => ⟨c, e ▸ fnD_rt rfl h⟩
  have ret : (∃ c, eIf (t2b (e2 gLt (eV 1) (e1 gLen (eV 0)))) (eA (e2 gIx (eV 0) (eV 1))) (eK (.int 0)) [.scr (ns.map .int), .int k, .non, .non] = some (.int c)) := by
    by_cases h : k < ns.length
    · obtain ⟨c, hc⟩ := atI_ints (ns := ns) (i := k) (by omega) (by omega)
      refine ⟨c, ?_⟩
      have h' : (k : Int) < ns.length := by omega
      simp_arith [List.length_map, h', hc]
    · have h' : ¬ (k : Int) < ns.length := by omega
      exact ⟨0, by simp_arith [List.length_map, h']⟩
  obtain ⟨c, hc⟩ := ret
  cases ns with
  | nil => exact fin _ ⟨c, rfl⟩ (by unfold b__law_cell; refine seq_rt ((if_t rfl).trans ?_); unfold sRet; rw [hc]; rfl)
  | cons a r =>
    by_cases h : a % 2 = 0
    · refine fin _ ⟨c, rfl⟩ ?_
      unfold b__law_cell
      refine seq_rt ((if_t ?_).trans (by unfold sRet; rw [hc]; rfl))
      have h2 : ¬ (((r.length + 1 : Nat) : Int) = 0) := by omega
      have h3 : atI (List.map D.int (a :: r)) 0 = some (.int a) := atI_zero _ _
      simp_arith [List.length_map, h3, h]
      simp_arith [h2, h]
    · obtain ⟨v, hv⟩ := atI_ints (ns := a :: r) (i := (k : Int) % ((a :: r).length : Int)) (Int.emod_nonneg _ (by rw [List.length_cons]; omega)) (Int.emod_lt_of_pos _ (by rw [List.length_cons]; omega))
      refine fin (.int (v % 10 ^ 60 / 2305843009213693951 * 2305843009213693951 + (v + 7919 * ((k : Int) + 1)) * 6364136223846793005 % 2305843009213693951)) ⟨_, rfl⟩ ?_
      unfold b__law_cell
      have h2 : ¬ (((r.length + 1 : Nat) : Int) = 0) := by omega
      have h3 : atI (List.map D.int (a :: r)) 0 = some (.int a) := atI_zero _ _
      simp_arith! [List.length_map, h3, h, h2]
      have h4 : (0 : Int) < ((r.length + 1 : Nat) : Int) := by omega
      have hv' : atI (List.map D.int (a :: r)) ((k : Int) % ((r.length + 1 : Nat) : Int)) = some (.int v) := hv
      simp_arith! [List.length_map, h4, hv']
      walk_at "st"
      walk_at "ev"

def topS (i : Nat) : Stmt := PySem.Challenge.pw_toggleclock_k86_whole_rounds_counted_ahe.main.body.getD i (.Pass ⟨0, 0, 0, 0⟩)
def fn_Order : List Str := ["kept_many", "kept_lows"]
theorem fl_Order : fn_Order.length ≤ 100 := by decide +kernel
theorem fd_Order : fn_Order.Nodup := by decide +kernel
def fn_NoField : List Str := []
theorem fl_NoField : fn_NoField.length ≤ 100 := by decide +kernel
theorem fd_NoField : fn_NoField.Nodup := by decide +kernel
def fn_NoCount : List Str := ["number"]
theorem fl_NoCount : fn_NoCount.length ≤ 100 := by decide +kernel
theorem fd_NoCount : fn_NoCount.Nodup := by decide +kernel
def fn_NoPair : List Str := ["high", "low"]
theorem fl_NoPair : fn_NoPair.length ≤ 100 := by decide +kernel
theorem fd_NoPair : fn_NoPair.Nodup := by decide +kernel
theorem no_Order_size : ("size" : Str) ∉ fn_Order := by decide +kernel
theorem no_Order_lows_of : ("lows_of" : Str) ∉ fn_Order := by decide +kernel
def tb (a_Order : Addr) (a_NoField : Addr) (a_NoCount : Addr) (a_NoPair : Addr)  : Tb := ⟨fun c => match c with
  | 0 => (a_Order, fn_Order)
  | 18 => (a_NoField, fn_NoField)
  | 8 => (a_NoCount, fn_NoCount)
  | 9 => (a_NoPair, fn_NoPair)
  | _ => (0, []), []⟩
abbrev nm__law_cell : List Str := ["_law_script", "_law_k", "_law_cell_here", "_law_low"]
theorem sc__law_cell : FnScope nm__law_cell ["_law_script", "_law_k"] (defScope (topS 27)) := ⟨rfl, rfl, rfl, by decide +kernel, rfl, by decide +kernel, by decide +kernel⟩
abbrev nm_look_at_field_X : List Str := ["a", "b"]
theorem sc_look_at_field_X : FnScope nm_look_at_field_X ["a", "b"] (defScope (topS 19)) := ⟨rfl, rfl, rfl, by decide +kernel, rfl, by decide +kernel, by decide +kernel⟩
abbrev nm_bit_of : List Str := ["thing"]
theorem sc_bit_of : FnScope nm_bit_of ["thing"] (defScope (topS 11)) := ⟨rfl, rfl, rfl, by decide +kernel, rfl, by decide +kernel, by decide +kernel⟩
abbrev nm_Order_init_X : List Str := ["self", "many", "pairs", "thing", "low", "high", "lows"]
theorem sc_Order_init_X : FnScope nm_Order_init_X ["self", "many", "pairs"] (defScope (inClass (topS 12) 0)) := ⟨rfl, rfl, rfl, by decide +kernel, rfl, by decide +kernel, by decide +kernel⟩
abbrev nm_order_of_cells_X : List Str := ["cells", "pairs", "high", "cell", "low"]
theorem sc_order_of_cells_X : FnScope nm_order_of_cells_X ["cells"] (defScope (topS 20)) := ⟨rfl, rfl, rfl, by decide +kernel, rfl, by decide +kernel, by decide +kernel⟩
abbrev nm_field_X : List Str := ["a", "b", "cells", "row", "column"]
theorem sc_field_X : FnScope nm_field_X ["a", "b"] (defScope (topS 21)) := ⟨rfl, rfl, rfl, by decide +kernel, rfl, by decide +kernel, by decide +kernel⟩
abbrev nm_Order_size : List Str := ["self"]
theorem sc_Order_size : FnScope nm_Order_size ["self"] (defScope (inClass (topS 12) 1)) := ⟨rfl, rfl, rfl, by decide +kernel, rfl, by decide +kernel, by decide +kernel⟩
abbrev nm_Order_lows_of : List Str := ["self", "thing"]
theorem sc_Order_lows_of : FnScope nm_Order_lows_of ["self", "thing"] (defScope (inClass (topS 12) 3)) := ⟨rfl, rfl, rfl, by decide +kernel, rfl, by decide +kernel, by decide +kernel⟩
abbrev nm_has_lows : List Str := ["order", "bits", "thing", "lows"]
theorem sc_has_lows : FnScope nm_has_lows ["order", "bits", "thing"] (defScope (topS 15)) := ⟨rfl, rfl, rfl, by decide +kernel, rfl, by decide +kernel, by decide +kernel⟩
abbrev nm_downsets : List Str := ["order", "found", "thing", "bit", "bits"]
theorem sc_downsets : FnScope nm_downsets ["order"] (defScope (topS 16)) := ⟨rfl, rfl, rfl, by decide +kernel, rfl, by decide +kernel, by decide +kernel⟩
abbrev nm_things_of : List Str := ["bits", "thing"]
theorem sc_things_of : FnScope nm_things_of ["bits"] (defScope (topS 14)) := ⟨rfl, rfl, rfl, by decide +kernel, rfl, by decide +kernel, by decide +kernel⟩
abbrev nm_by_size : List Str := ["order", "poly", "bits", "many", "number"]
theorem sc_by_size : FnScope nm_by_size ["order"] (defScope (topS 23)) := ⟨rfl, rfl, rfl, by decide +kernel, rfl, by decide +kernel, by decide +kernel⟩
abbrev nm_folded : List Str := ["poly", "m", "told", "power", "number", "rest"]
theorem sc_folded : FnScope nm_folded ["poly", "m"] (defScope (topS 24)) := ⟨rfl, rfl, rfl, by decide +kernel, rfl, by decide +kernel, by decide +kernel⟩
abbrev nm_lengths_ahead_X : List Str := ["a", "b", "whole", "poly", "rounds", "part", "told", "many", "smaller", "other"]
theorem sc_lengths_ahead_X : FnScope nm_lengths_ahead_X ["a", "b"] (defScope (topS 25)) := ⟨rfl, rfl, rfl, by decide +kernel, rfl, by decide +kernel, by decide +kernel⟩
abbrev nm__law_whole : List Str := ["_law_found"]
theorem sc__law_whole : FnScope nm__law_whole ["_law_found"] (defScope (topS 28)) := ⟨rfl, rfl, rfl, by decide +kernel, rfl, by decide +kernel, by decide +kernel⟩
abbrev nm__law_all : List Str := ["_law_below", "_law_found", "_law_thing", "_law_more", "_law_things", "_law_low"]
theorem sc__law_all : FnScope nm__law_all ["_law_below"] (defScope (topS 31)) := ⟨rfl, rfl, rfl, by decide +kernel, rfl, by decide +kernel, by decide +kernel⟩
abbrev nm__law_turned : List Str := ["_law_below", "_law_things", "_law_found", "_law_thing", "_law_low"]
theorem sc__law_turned : FnScope nm__law_turned ["_law_below", "_law_things"] (defScope (topS 30)) := ⟨rfl, rfl, rfl, by decide +kernel, rfl, by decide +kernel, by decide +kernel⟩
abbrev nm__law_lengths : List Str := ["_law_below", "_law_left", "_law_found", "_law_first", "_law_many", "_law_here"]
theorem sc__law_lengths : FnScope nm__law_lengths ["_law_below"] (defScope (topS 32)) := ⟨rfl, rfl, rfl, by decide +kernel, rfl, by decide +kernel, by decide +kernel⟩
abbrev nm__law_below_of : List Str := ["_law_a", "_law_b", "_law_thing", "_law_row", "_law_column", "_law_k"]
theorem sc__law_below_of : FnScope nm__law_below_of ["_law_a", "_law_b", "_law_thing"] (defScope (topS 29)) := ⟨rfl, rfl, rfl, by decide +kernel, rfl, by decide +kernel, by decide +kernel⟩
abbrev nm_look_at_field : List Str := ["a", "b"]
theorem sc_look_at_field : FnScope nm_look_at_field ["a", "b"] (defScope (topS 19)) := ⟨rfl, rfl, rfl, by decide +kernel, rfl, by decide +kernel, by decide +kernel⟩
abbrev nm_Order_init : List Str := ["self", "many", "pairs", "thing", "low", "high", "lows"]
theorem sc_Order_init : FnScope nm_Order_init ["self", "many", "pairs"] (defScope (inClass (topS 12) 0)) := ⟨rfl, rfl, rfl, by decide +kernel, rfl, by decide +kernel, by decide +kernel⟩
abbrev nm_order_of_cells : List Str := ["cells", "pairs", "high", "cell", "low"]
theorem sc_order_of_cells : FnScope nm_order_of_cells ["cells"] (defScope (topS 20)) := ⟨rfl, rfl, rfl, by decide +kernel, rfl, by decide +kernel, by decide +kernel⟩
abbrev nm_field : List Str := ["a", "b", "cells", "row", "column"]
theorem sc_field : FnScope nm_field ["a", "b"] (defScope (topS 21)) := ⟨rfl, rfl, rfl, by decide +kernel, rfl, by decide +kernel, by decide +kernel⟩
abbrev nm_lengths_ahead : List Str := ["a", "b", "whole", "poly", "rounds", "part", "told", "many", "smaller", "other"]
theorem sc_lengths_ahead : FnScope nm_lengths_ahead ["a", "b"] (defScope (topS 25)) := ⟨rfl, rfl, rfl, by decide +kernel, rfl, by decide +kernel, by decide +kernel⟩
abbrev nm_law : List Str := ["_law_script", "_law_a", "_law_b", "_law_error", "_law_found", "e", "_law_size", "_law_due", "_law_thing"]
theorem sc_law : FnScope nm_law ["_law_script"] (defScope (topS 33)) := ⟨rfl, rfl, rfl, by decide +kernel, rfl, by decide +kernel, by decide +kernel⟩
def b_law : SF := (sSeq (sSet 1 (e2 gSbI (e2 gMod (eCall den__law_cell (aCons (eV 0) (aCons (eK (.int 0)) aNil))) (eK (.int 14))) (eK (.int 3))))
 (sSeq (sSet 2 (e2 gSbI (e2 gMod (eCall den__law_cell (aCons (eV 0) (aCons (eK (.int 1)) aNil))) (eK (.int 14))) (eK (.int 3))))
 (sSeq (sIf (t2b (e2 gGt (e2 gMod (eCall den__law_cell (aCons (eV 0) (aCons (eK (.int 2)) aNil))) (eK (.int 4))) (eK (.int 0)))) (sSeq (sSet 1 (e2 gAdd (eK (.int 1)) (e2 gMod (eCall den__law_cell (aCons (eV 0) (aCons (eK (.int 0)) aNil))) (eK (.int 9)))))
 (sSeq (sSet 2 (e2 gAdd (eK (.int 1)) (e2 gMod (eCall den__law_cell (aCons (eV 0) (aCons (eK (.int 1)) aNil))) (e2 gDiv (eK (.int 9)) (eV 1)))))
 (sIf (t2b (e2 gEqS (e2 gMod (e2 gDiv (eCall den__law_cell (aCons (eV 0) (aCons (eK (.int 2)) aNil))) (eK (.int 4))) (eK (.int 2))) (eK (.int 1)))) (sTg (tgT [1, 2]) (eTup (aCons (eV 2) (aCons (eV 1) aNil)))) sNil))) sNil)
 (sSeq (sSet 3 (eK .non))
 (sSeq (sSet 4 (eK .non))
 (sSeq (sTry (xSet 4 (xCall den_lengths_ahead_X (aCons (eV 1) (aCons (eV 2) aNil)))) [([8, 9, 18], [], 5, (sSet 3 (eV 5)))])
 (sSeq (sIf (bOr (t2b (e2 gLt (eV 1) (eK (.int 1)))) (bOr (t2b (e2 gLt (eV 2) (eK (.int 1)))) (t2b (e2 gGt (e2 gMul (eV 1) (eV 2)) (eK (.int 9)))))) (sRet (eAnd (e1 (gIsC [] [(8, false), (9, false), (18, true)] (some false)) (eV 3)) (eAnd (e1 (gIsC [] [(8, true), (9, true), (18, true)] (some false)) (eV 3)) (eNot (e1 (gIsC [] [(8, false), (9, false), (18, false)] (some false)) (eV 3)))))) sNil)
 (sSeq (sIf (bOr (t2b (e2 gNot0 (eV 3) (eK .non))) (bNot (t2b (e1 (gIsi "dict") (eV 4))))) (sRet (eK (.bl false))) sNil)
 (sNarw 4 (sSeq (sFor (iKeysD (eV 4)) (tgN 6) (sIf (bOr (bNot (t2b (eCall den__law_whole (aCons (eV 6) aNil)))) (bNot (t2b (eCall den__law_whole (aCons (e2 gDGet (eV 4) (eV 6)) aNil))))) (sRet (eK (.bl false))) sNil) [6])
 (sSeq (sSet 7 (eCall den__law_lengths (aCons (eComp (iRg1 (e2 gMul (eV 1) (eV 2))) (tgN 8) tTrue (eCall den__law_below_of (aCons (eV 1) (aCons (eV 2) (aCons (eV 8) aNil))))) aNil)))
 (sSeq (sIf (t2b (e2 gNeDI (eV 4) (eV 7))) (sRet (eK (.bl false))) sNil)
 (sSeq (sClrD 4)
 (sRet (e2 gEqDI (eCall den_lengths_ahead (aCons (eV 1) (aCons (eV 2) aNil))) (eV 7))))))))))))))))
def den_law : List D → Option D := fnD [.U] 8 false b_law
variable {S : D}
def restK : SF := (sSeq (sSet 3 (eK .non))
 (sSeq (sSet 4 (eK .non))
 (sSeq (sTry (xSet 4 (xCall den_lengths_ahead_X (aCons (eV 1) (aCons (eV 2) aNil)))) [([8, 9, 18], [], 5, (sSet 3 (eV 5)))])
 (sSeq (sIf (bOr (t2b (e2 gLt (eV 1) (eK (.int 1)))) (bOr (t2b (e2 gLt (eV 2) (eK (.int 1)))) (t2b (e2 gGt (e2 gMul (eV 1) (eV 2)) (eK (.int 9)))))) (sRet (eAnd (e1 (gIsC [] [(8, false), (9, false), (18, true)] (some false)) (eV 3)) (eAnd (e1 (gIsC [] [(8, true), (9, true), (18, true)] (some false)) (eV 3)) (eNot (e1 (gIsC [] [(8, false), (9, false), (18, false)] (some false)) (eV 3)))))) sNil)
 (sSeq (sIf (bOr (t2b (e2 gNot0 (eV 3) (eK .non))) (bNot (t2b (e1 (gIsi "dict") (eV 4))))) (sRet (eK (.bl false))) sNil)
 (sNarw 4 (sSeq (sFor (iKeysD (eV 4)) (tgN 6) (sIf (bOr (bNot (t2b (eCall den__law_whole (aCons (eV 6) aNil)))) (bNot (t2b (eCall den__law_whole (aCons (e2 gDGet (eV 4) (eV 6)) aNil))))) (sRet (eK (.bl false))) sNil) [6])
 (sSeq (sSet 7 (eCall den__law_lengths (aCons (eComp (iRg1 (e2 gMul (eV 1) (eV 2))) (tgN 8) tTrue (eCall den__law_below_of (aCons (eV 1) (aCons (eV 2) (aCons (eV 8) aNil))))) aNil)))
 (sSeq (sIf (t2b (e2 gNeDI (eV 4) (eV 7))) (sRet (eK (.bl false))) sNil)
 (sSeq (sClrD 4)
 (sRet (e2 gEqDI (eCall den_lengths_ahead (aCons (eV 1) (aCons (eV 2) aNil))) (eV 7)))))))))))))
def headK : SF := (sSeq (sSet 1 (e2 gAdd (eK (.int 1)) (e2 gMod (eCall den__law_cell (aCons (eV 0) (aCons (eK (.int 0)) aNil))) (eK (.int 9)))))
 (sSeq (sSet 2 (e2 gAdd (eK (.int 1)) (e2 gMod (eCall den__law_cell (aCons (eV 0) (aCons (eK (.int 1)) aNil))) (e2 gDiv (eK (.int 9)) (eV 1)))))
 (sIf (t2b (e2 gEqS (e2 gMod (e2 gDiv (eCall den__law_cell (aCons (eV 0) (aCons (eK (.int 2)) aNil))) (eK (.int 4))) (eK (.int 2))) (eK (.int 1)))) (sTg (tgT [1, 2]) (eTup (aCons (eV 2) (aCons (eV 1) aNil)))) sNil)))
theorem xcp_ex {φ : List D → Option D} {f : XF} {fs : List D → Option (List D)} {ρ es : List D} {c : Nat} (h : f ρ = some (.ex c es)) : xCallP φ (xaCons f fs) ρ = some (.ex c es) := by
  unfold xCallP xaCons
  rw [h]; rfl
theorem log_lt {x : Int} (h : x.natAbs < 2 ^ 200) : x.natAbs.log2 < 200 := by
  by_cases h0 : x.natAbs = 0
  · rw [h0]; decide
  · exact (Nat.log2_lt h0).mpr h
theorem mulOk_200 {x y : Int} (hx : x.natAbs < 2 ^ 200) (hy : y.natAbs < 2 ^ 200) : mulOk x y := by
  have h1 := log_lt hx
  have h2 := log_lt hy
  exact .inr (.inr (by omega))
def BadF (a b : Int) : Prop := a < 1 ∨ b < 1 ∨ 9 < a * b
theorem look_bad {a b : Int} (h : BadF a b) (ha : a.natAbs < 2 ^ 200) (hb : b.natAbs < 2 ^ 200) : den_look_at_field_X [.int a, .int b] = some (.ex 18 []) := by
  have hm : mulOk a b := mulOk_200 ha hb
  refine fnX_ex (ρ := [.int a, .int b]) rfl ?_
  unfold b_look_at_field_X
  show sIf _ _ _ [.int a, .int b] = _
  refine (if_t ?_).trans rfl
  by_cases h1 : a < 1
  · simp_arith [h1]
  by_cases h2 : b < 1
  · simp_arith [h1, h2]
  have h3 : 9 < a * b := by rcases h with h | h | h <;> first | exact absurd h h1 | exact absurd h h2 | exact h
  simp_arith [h1, h2, h3, hm]
theorem field_bad {a b : Int} (h : den_look_at_field_X [.int a, .int b] = some (.ex 18 [])) : den_field_X [.int a, .int b] = some (.ex 18 []) :=
  fnX_ex (ρ := [.int a, .int b, .non, .non, .non]) rfl (seq_ex (drop_ex h))
theorem ahead_bad {a b : Int} (h : den_look_at_field_X [.int a, .int b] = some (.ex 18 [])) : den_lengths_ahead_X [.int a, .int b] = some (.ex 18 []) := by
  refine fnX_ex (ρ := [.int a, .int b, .int (a + b), .non, .non, .non, .non, .non, .non, .non]) rfl ?_
  unfold b_lengths_ahead_X
  refine st_nx (ρ' := [.int a, .int b, .int (a + b), .non, .non, .non, .non, .non, .non, .non]) rfl ?_
  exact seq_ex (set_ex (xcp_ex (xcp_ex (field_bad h))))
theorem r1_1 (S : D) : restK [S, .int 1, .int 1, .non, .non, .non, .non, .non, .non] = some (.rt (.bl true)) := by kernel_rfl
theorem r1_2 (S : D) : restK [S, .int 1, .int 2, .non, .non, .non, .non, .non, .non] = some (.rt (.bl true)) := by kernel_rfl
theorem r1_3 (S : D) : restK [S, .int 1, .int 3, .non, .non, .non, .non, .non, .non] = some (.rt (.bl true)) := by kernel_rfl
theorem r1_4 (S : D) : restK [S, .int 1, .int 4, .non, .non, .non, .non, .non, .non] = some (.rt (.bl true)) := by kernel_rfl
theorem r1_5 (S : D) : restK [S, .int 1, .int 5, .non, .non, .non, .non, .non, .non] = some (.rt (.bl true)) := by kernel_rfl
theorem r1_6 (S : D) : restK [S, .int 1, .int 6, .non, .non, .non, .non, .non, .non] = some (.rt (.bl true)) := by kernel_rfl
theorem r1_7 (S : D) : restK [S, .int 1, .int 7, .non, .non, .non, .non, .non, .non] = some (.rt (.bl true)) := by kernel_rfl
theorem r1_8 (S : D) : restK [S, .int 1, .int 8, .non, .non, .non, .non, .non, .non] = some (.rt (.bl true)) := by kernel_rfl
theorem r1_9 (S : D) : restK [S, .int 1, .int 9, .non, .non, .non, .non, .non, .non] = some (.rt (.bl true)) := by kernel_rfl
theorem r2_1 (S : D) : restK [S, .int 2, .int 1, .non, .non, .non, .non, .non, .non] = some (.rt (.bl true)) := by kernel_rfl
theorem r2_2 (S : D) : restK [S, .int 2, .int 2, .non, .non, .non, .non, .non, .non] = some (.rt (.bl true)) := by kernel_rfl
theorem r2_3 (S : D) : restK [S, .int 2, .int 3, .non, .non, .non, .non, .non, .non] = some (.rt (.bl true)) := by kernel_rfl
theorem r2_4 (S : D) : restK [S, .int 2, .int 4, .non, .non, .non, .non, .non, .non] = some (.rt (.bl true)) := by kernel_rfl
theorem r3_1 (S : D) : restK [S, .int 3, .int 1, .non, .non, .non, .non, .non, .non] = some (.rt (.bl true)) := by kernel_rfl
theorem r3_2 (S : D) : restK [S, .int 3, .int 2, .non, .non, .non, .non, .non, .non] = some (.rt (.bl true)) := by kernel_rfl
theorem r3_3 (S : D) : restK [S, .int 3, .int 3, .non, .non, .non, .non, .non, .non] = some (.rt (.bl true)) := by kernel_rfl
theorem r4_1 (S : D) : restK [S, .int 4, .int 1, .non, .non, .non, .non, .non, .non] = some (.rt (.bl true)) := by kernel_rfl
theorem r4_2 (S : D) : restK [S, .int 4, .int 2, .non, .non, .non, .non, .non, .non] = some (.rt (.bl true)) := by kernel_rfl
theorem r5_1 (S : D) : restK [S, .int 5, .int 1, .non, .non, .non, .non, .non, .non] = some (.rt (.bl true)) := by kernel_rfl
theorem r6_1 (S : D) : restK [S, .int 6, .int 1, .non, .non, .non, .non, .non, .non] = some (.rt (.bl true)) := by kernel_rfl
theorem r7_1 (S : D) : restK [S, .int 7, .int 1, .non, .non, .non, .non, .non, .non] = some (.rt (.bl true)) := by kernel_rfl
theorem r8_1 (S : D) : restK [S, .int 8, .int 1, .non, .non, .non, .non, .non, .non] = some (.rt (.bl true)) := by kernel_rfl
theorem r9_1 (S : D) : restK [S, .int 9, .int 1, .non, .non, .non, .non, .non, .non] = some (.rt (.bl true)) := by kernel_rfl
theorem rest_bad {a b : Int} (h : BadF a b) (ha : a.natAbs < 2 ^ 200) (hb : b.natAbs < 2 ^ 200) : restK [S, .int a, .int b, .non, .non, .non, .non, .non, .non] = some (.rt (.bl true)) := by
  have h1 := ahead_bad (look_bad h ha hb)
  have hm : mulOk a b := mulOk_200 ha hb
  unfold restK
  refine st_nx (ρ' := [S, .int a, .int b, .non, .non, .non, .non, .non, .non]) rfl ?_
  refine st_nx (ρ' := [S, .int a, .int b, .non, .non, .non, .non, .non, .non]) rfl ?_
  refine st_nx (ρ' := [S, .int a, .int b, .exn 18 [], .non, .non, .non, .non, .non]) ((try_ex (set_ex (c := 18) (es := []) ?_)).trans rfl) ?_
  · exact h1
  refine seq_rt ((if_t ?_).trans rfl)
  by_cases g1 : a < 1
  · simp_arith [g1]
  by_cases g2 : b < 1
  · simp_arith [g1, g2]
  have g3 : 9 < a * b := by rcases h with h | h | h <;> first | exact absurd h g1 | exact absurd h g2 | exact h
  simp_arith [g1, g2, g3, hm]
theorem rest_ok {a b : Int} (h1 : -3 ≤ a) (h2 : a ≤ 10) (h3 : -3 ≤ b) (h4 : b ≤ 10) : restK [S, .int a, .int b, .non, .non, .non, .non, .non, .non] = some (.rt (.bl true)) := by
  by_cases hbad : BadF a b
  · exact rest_bad hbad (Nat.lt_of_lt_of_le (show a.natAbs < 16 by omega) (by decide)) (Nat.lt_of_lt_of_le (show b.natAbs < 16 by omega) (by decide))
  unfold BadF at hbad
  have g1 : 0 < a := by omega
  have g2 : 0 < b := by omega
  have g3 : a * b < 10 := by omega
  have ha : a < 10 := by have := Int.mul_le_mul_of_nonneg_left (show (1 : Int) ≤ b by omega) (show 0 ≤ a by omega); omega
  have h9 : a = 1 ∨ a = 2 ∨ a = 3 ∨ a = 4 ∨ a = 5 ∨ a = 6 ∨ a = 7 ∨ a = 8 ∨ a = 9 := by omega
  rcases h9 with rfl | rfl | rfl | rfl | rfl | rfl | rfl | rfl | rfl
  · have hb : b = 1 ∨ b = 2 ∨ b = 3 ∨ b = 4 ∨ b = 5 ∨ b = 6 ∨ b = 7 ∨ b = 8 ∨ b = 9 := by omega
    rcases hb with rfl | rfl | rfl | rfl | rfl | rfl | rfl | rfl | rfl
    · exact r1_1 S
    · exact r1_2 S
    · exact r1_3 S
    · exact r1_4 S
    · exact r1_5 S
    · exact r1_6 S
    · exact r1_7 S
    · exact r1_8 S
    · exact r1_9 S
  · have hb : b = 1 ∨ b = 2 ∨ b = 3 ∨ b = 4 := by omega
    rcases hb with rfl | rfl | rfl | rfl
    · exact r2_1 S
    · exact r2_2 S
    · exact r2_3 S
    · exact r2_4 S
  · have hb : b = 1 ∨ b = 2 ∨ b = 3 := by omega
    rcases hb with rfl | rfl | rfl
    · exact r3_1 S
    · exact r3_2 S
    · exact r3_3 S
  · have hb : b = 1 ∨ b = 2 := by omega
    rcases hb with rfl | rfl
    · exact r4_1 S
    · exact r4_2 S
  · have hb : b = 1 := by omega
    subst hb
    exact r5_1 S
  · have hb : b = 1 := by omega
    subst hb
    exact r6_1 S
  · have hb : b = 1 := by omega
    subst hb
    exact r7_1 S
  · have hb : b = 1 := by omega
    subst hb
    exact r8_1 S
  · have hb : b = 1 := by omega
    subst hb
    exact r9_1 S
theorem law_true : ∀ ns : List Int, ns.length ≤ 63 → den_law [.scr (ns.map .int)] = some (.bl true) := by
  intro ns hl
  obtain ⟨c0, p0⟩ := cellC_ex ns 0
  obtain ⟨c1, p1⟩ := cellC_ex ns 1
  obtain ⟨c2, p2⟩ := cellC_ex ns 2
  have p0 : den__law_cell [.scr (ns.map .int), .int 0] = some (.int c0) := p0
  have p1 : den__law_cell [.scr (ns.map .int), .int 1] = some (.int c1) := p1
  have p2 : den__law_cell [.scr (ns.map .int), .int 2] = some (.int c2) := p2
  generalize D.scr (ns.map .int) = S at p0 p1 p2
  refine fnD_rt rfl ?_
  unfold b_law
  refine st_nx (ρ' := [S, .int (c0 % 14 - 3), .non, .non, .non, .non, .non, .non, .non]) (by simp_arith [p0]) ?_
  refine st_nx (ρ' := [S, .int (c0 % 14 - 3), .int (c1 % 14 - 3), .non, .non, .non, .non, .non, .non]) (by simp_arith [p1]) ?_
  by_cases hz : 0 < c2 % 4
  · have key : ∀ a m : Int, 1 + c0 % 9 = a → 9 / a = m → (0 < a ∧ a ≤ 9 ∧ small 9000 a) → (0 < m ∧ m ≤ 9) →
        ∃ x y : Int, (-3 ≤ x ∧ x ≤ 10) ∧ (-3 ≤ y ∧ y ≤ 10) ∧ headK [S, .int (c0 % 14 - 3), .int (c1 % 14 - 3), .non, .non, .non, .non, .non, .non] = some (.nx [S, .int x, .int y, .non, .non, .non, .non, .non, .non]) := by
      intro a m h1 h2 h3 h4
      have hb1 : 0 ≤ c1 % m := Int.emod_nonneg _ (by omega)
      have hb2 : c1 % m < m := Int.emod_lt_of_pos _ h4.1
      have h31 := h3.1
      have h33 := h3.2.2
      have h41 := h4.1
      unfold headK
      by_cases hq : c2 / 4 % 2 = 1
      · refine ⟨1 + c1 % m, a, ⟨by omega, by omega⟩, ⟨by omega, by omega⟩, ?_⟩
        refine st_nx (ρ' := [S, .int a, .int (c1 % 14 - 3), .non, .non, .non, .non, .non, .non]) (by simp_arith [p0, h1]) ?_
        refine st_nx (ρ' := [S, .int a, .int (1 + c1 % m), .non, .non, .non, .non, .non, .non]) (by simp_arith [p1, h2, h31, h33, h41]) ?_
        refine (if_t ?_).trans ?_
        · simp_arith [p2, hq]
        · rfl
      · refine ⟨a, 1 + c1 % m, ⟨by omega, by omega⟩, ⟨by omega, by omega⟩, ?_⟩
        refine st_nx (ρ' := [S, .int a, .int (c1 % 14 - 3), .non, .non, .non, .non, .non, .non]) (by simp_arith [p0, h1]) ?_
        refine st_nx (ρ' := [S, .int a, .int (1 + c1 % m), .non, .non, .non, .non, .non, .non]) (by simp_arith [p1, h2, h31, h33, h41]) ?_
        refine (if_f ?_).trans rfl
        simp_arith [p2, hq]
    have ha : 1 + c0 % 9 = 1 ∨ 1 + c0 % 9 = 2 ∨ 1 + c0 % 9 = 3 ∨ 1 + c0 % 9 = 4 ∨ 1 + c0 % 9 = 5 ∨ 1 + c0 % 9 = 6 ∨ 1 + c0 % 9 = 7 ∨ 1 + c0 % 9 = 8 ∨ 1 + c0 % 9 = 9 := by omega
    have k2 : ∃ x y : Int, (-3 ≤ x ∧ x ≤ 10) ∧ (-3 ≤ y ∧ y ≤ 10) ∧ headK [S, .int (c0 % 14 - 3), .int (c1 % 14 - 3), .non, .non, .non, .non, .non, .non] = some (.nx [S, .int x, .int y, .non, .non, .non, .non, .non, .non]) := by
      rcases ha with ha | ha | ha | ha | ha | ha | ha | ha | ha
      all_goals exact key _ _ ha rfl ⟨by decide, by decide, by decide⟩ ⟨by decide, by decide⟩
    obtain ⟨x, y, hx, hy, he⟩ := k2
    refine st_nx ((if_t ?_).trans he) (rest_ok hx.1 hx.2 hy.1 hy.2)
    simp_arith [p2, hz]
  · refine st_nx (ρ' := [S, .int (c0 % 14 - 3), .int (c1 % 14 - 3), .non, .non, .non, .non, .non, .non]) ((if_f ?_).trans rfl) (rest_ok (by omega) (by omega) (by omega) (by omega))
    simp_arith [p2, hz]

section
variable {P : Program} {w : World} {K : PySem.W.Frag} {mg : Str → Option Value} {base : Heap} {a_Order a_NoField a_NoCount a_NoPair a_ToggleError a_NoNumber : Addr}
theorem ok__law_cell (F : FtF K mg "_law_cell" "_law_cell" (topS 27) ["_law_script", "_law_k"]) (z_len : mg "len" = none) : OkF P w K mg base (tb a_Order a_NoField a_NoCount a_NoPair) 1 "_law_cell" ["_law_script", "_law_k"] den__law_cell (.q .A) :=
 mk_okf (k := 0) (Γn := [.fz .U, .fz .A, .no, .no]) F sc__law_cell rfl rfl (fun _ => ⟨_, rfl⟩) fun f cdv A outer s H E hr =>
 (dss_cons (Γ1 := [.fz .U, .fz .A, .no, .no]) (ds_if (Γn := [.fz .U, .fz .A, .no, .no]) (PW.pt (dw_or (dt_cmp op_eq (de_len (q := .A) (by rfl) z_len (de_v 0 (q := .U) rfl (pv 0))) (de_int (q := .A)) (nomark _) (cs_eqS rfl)) (dw_or1 (dt_cmp op_eq (de_mod (q := .A) (de_ix (de_v 0 (q := .U) rfl (pv 0)) (de_int (q := .A))) (de_int (q := .A))) (de_int (q := .A)) (nomark _) (cs_eqS rfl))))) (dss_one (Γ1 := [.fz .U, .fz .A, .no, .no]) (ds_ret (q := .A) (de_if (dt_cmp op_lt (de_v 1 (q := .A) rfl (pv 1)) (de_len (q := .A) (by rfl) z_len (de_v 0 (q := .U) rfl (pv 0))) (nomark _) (cs_lt rfl)) (de_A (q := .A) (de_ix (de_v 0 (q := .U) rfl (pv 0)) (de_v 1 (q := .A) rfl (pv 1)))) (de_int (q := .A)))) rfl) (dss_nil rfl))
 (dss_cons (Γ1 := [.fz .U, .fz .A, .fz .A, .no]) (ds_set (i := 2) (q := .A) sc__law_cell.nd rfl (by first | exact Or.inl rfl | exact Or.inr rfl) (de_A (q := .A) (de_ix (de_v 0 (q := .U) rfl (pv 0)) (de_mod (q := .A) (de_v 1 (q := .A) rfl (pv 1)) (de_len (q := .A) (by rfl) z_len (de_v 0 (q := .U) rfl (pv 0)))))))
 (dss_cons (Γ1 := [.fz .U, .fz .A, .fz .A, .fz .A]) (ds_set (i := 3) (q := .A) sc__law_cell.nd rfl (by first | exact Or.inl rfl | exact Or.inr rfl) (de_mod (q := .A) (de_mul (q := .A) (de_add (q := .A) (de_v 2 (q := .A) rfl (pv 2)) (de_mul (q := .A) (de_int (q := .A)) (de_add (q := .A) (de_v 1 (q := .A) rfl (pv 1)) (de_int (q := .A))))) (de_int (q := .A))) (de_int (q := .A))))
 (dss_one (Γ1 := [.fz .U, .fz .A, .no, .no]) (ds_ret (q := .A) (de_add (q := .A) (de_mul (q := .A) (de_div (q := .A) (de_mod (q := .A) (de_v 2 (q := .A) rfl (pv 2)) (de_pow (q := .A) (de_int (q := .A)) (de_int (q := .A)))) (de_int (q := .A))) (de_int (q := .A))) (de_v 3 (q := .A) rfl (pv 3)))) rfl))))
theorem ok_look_at_field_X (F : FtF K mg "look_at_field" "look_at_field" (topS 19) ["a", "b"]) {t_MOST_THINGS_fields : Tok} (g_MOST_THINGS_fields : mg "MOST_THINGS_fields" = some (.int 9 t_MOST_THINGS_fields)) (E_NoField : OkE0 K mg (tb a_Order a_NoField a_NoCount a_NoPair) 18 "NoField") : OkFX P w K mg base (tb a_Order a_NoField a_NoCount a_NoPair) 3 "look_at_field" ["a", "b"] den_look_at_field_X (.q .A) :=
 mk_okfx (k := 2) (Γn := [.fz .A, .fz .A]) F sc_look_at_field_X rfl rfl (fun _ => ⟨_, rfl⟩) fun f cdv A outer s H E hr tk PO =>
 (dss_one (Γ1 := [.fz .A, .fz .A]) (ds_if (Γn := [.fz .A, .fz .A]) (PW.pt (dw_or (dt_cmp op_lt (de_v 0 (q := .A) rfl (pv 0)) (de_int (q := .A)) (nomark _) (cs_lt rfl)) (dw_or (dt_cmp op_lt (de_v 1 (q := .A) rfl (pv 1)) (de_int (q := .A)) (nomark _) (cs_lt rfl)) (dw_or1 (dt_cmp op_gt (de_mul (q := .A) (de_v 0 (q := .A) rfl (pv 0)) (de_v 1 (q := .A) rfl (pv 1))) (de_gint (q := .A) (by rfl) g_MOST_THINGS_fields ⟨_, rfl⟩) (nomark _) (cs_gt rfl)))))) (dss_one (Γ1 := [.fz .A, .fz .A]) (ds_raise0 rfl tk E_NoField (by rfl) rfl) rfl) (dss_nil rfl)) rfl)
theorem ok_bit_of (F : FtF K mg "bit_of" "bit_of" (topS 11) ["thing"]) {p_BITS : Addr} (g_BITS : mg "BITS" = some (.ref p_BITS)) (r_BITS : TupK K p_BITS [1, 2, 4, 8, 16, 32, 64, 128, 256, 512]) : OkF P w K mg base (tb a_Order a_NoField a_NoCount a_NoPair) 1 "bit_of" ["thing"] den_bit_of (.q .A) :=
 mk_okf (k := 0) (Γn := [.fz .A]) F sc_bit_of rfl rfl (fun _ => ⟨_, rfl⟩) fun f cdv A outer s H E hr =>
 (dss_one (Γ1 := [.fz .A]) (ds_ret (q := .A) (de_gtupK (q := .A) (by decide) (by rfl) g_BITS r_BITS (de_v 0 (q := .A) rfl (pv 0)))) rfl)
theorem ok_Order_init_X (F : FtI K mg (tb a_Order a_NoField a_NoCount a_NoPair) 0 "Order" "Order.__init__" (inClass (topS 12) 0) ["self", "many", "pairs"]) (o_bit_of : OkF P w K mg base (tb a_Order a_NoField a_NoCount a_NoPair) 1 "bit_of" ["thing"] den_bit_of (.q .A)) {t_MOST_THINGS_orders : Tok} (g_MOST_THINGS_orders : mg "MOST_THINGS_orders" = some (.int 9 t_MOST_THINGS_orders)) (E_NoCount : OkE P w K mg base (tb a_Order a_NoField a_NoCount a_NoPair) 8 "NoCount" ["number"]) (E_NoPair : OkE P w K mg base (tb a_Order a_NoField a_NoCount a_NoPair) 9 "NoPair" ["high", "low"]) (C_Order_kept_many : ClsF K (tb a_Order a_NoField a_NoCount a_NoPair) 0 0 "kept_many") (C_Order_kept_lows : ClsF K (tb a_Order a_NoField a_NoCount a_NoPair) 0 1 "kept_lows") (z_range : mg "range" = none) : OkCX P w K mg base (tb a_Order a_NoField a_NoCount a_NoPair) 3 0 "Order" 2 den_Order_init_X .L :=
 mk_okcx (q := .L) (pks := [.A, .fA]) (m := 4) (body := b_Order_init_X) (k := 2) (Γn := [.os (.ins 0 [.fz .A, .ow .A]), .fz .A, .fl .A, .no, .no, .no, .no]) (ms := [.fz .A, .ow .A]) F sc_Order_init_X rfl rfl rfl rfl (by decide) fun f cdv A outer s H E z hr tk PO =>
 (dss_cons (Γ1 := [.os (.ins 0 []), .fz .A, .fl .A, .no, .no, .no, .no]) (ds_if (Γn := [.os (.ins 0 []), .fz .A, .fl .A, .no, .no, .no, .no]) (PW.pt (dw_or (dt_cmp op_lt (de_v 1 (q := .A) rfl (pv 1)) (de_int (q := .A)) (nomark _) (cs_lt rfl)) (dw_or1 (dt_cmp op_gt (de_v 1 (q := .A) rfl (pv 1)) (de_gint (q := .A) (by rfl) g_MOST_THINGS_orders ⟨_, rfl⟩) (nomark _) (cs_gt rfl))))) (dss_one (Γ1 := [.os (.ins 0 []), .fz .A, .fl .A, .no, .no, .no, .no]) (ds_raise1 rfl tk E_NoCount (hr.mono (by decide)) (by rfl) (dq_cons (q := .A) (de_v 1 (q := .A) rfl (pv 1)) dq_nil) rfl (aCons_len aNil_len)) rfl) (dss_nil rfl))
 (dss_cons (Γ1 := [.os (.ins 0 []), .fz .A, .fl .A, .no, .no, .no, .no]) (ds_for (cl := [4, 5]) (Γ1 := [.os (.ins 0 []), .fz .A, .fl .A, .no, .fz .A, .fz .A, .no]) PO rfl (di_listf (de_vl 2 (q := .A) rfl (pv 2))) (pg_tup rfl (pgs_cons (pg_name (i := 4) sc_Order_init_X.nd rfl (by first | exact Or.inl rfl | exact Or.inr rfl)) (pgs_cons (pg_name (i := 5) sc_Order_init_X.nd rfl (by first | exact Or.inl rfl | exact Or.inr rfl)) pgs_nil))) (tgs_t (is := [4, 5]) (q := .A) (by decide)) (dss_one (Γ1 := [.os (.ins 0 []), .fz .A, .fl .A, .no, .fz .A, .fz .A, .no]) (ds_if (Γn := [.os (.ins 0 []), .fz .A, .fl .A, .no, .fz .A, .fz .A, .no]) (PW.pt (dw_or (dt_cmp op_lt (de_v 4 (q := .A) rfl (pv 4)) (de_int (q := .A)) (nomark _) (cs_lt rfl)) (dw_or (dt_cmp op_ge (de_v 4 (q := .A) rfl (pv 4)) (de_v 5 (q := .A) rfl (pv 5)) (nomark _) (cs_ge rfl)) (dw_or1 (dt_cmp op_ge (de_v 5 (q := .A) rfl (pv 5)) (de_v 1 (q := .A) rfl (pv 1)) (nomark _) (cs_ge rfl)))))) (dss_one (Γ1 := [.os (.ins 0 []), .fz .A, .fl .A, .no, .fz .A, .fz .A, .no]) (ds_raise2 rfl tk E_NoPair (hr.mono (by decide)) (by rfl) (dq_cons (q := .A) (de_v 4 (q := .A) rfl (pv 4)) (dq_cons (q := .A) (de_v 5 (q := .A) rfl (pv 5)) dq_nil)) rfl (aCons_len (aCons_len aNil_len))) rfl) (dss_nil rfl)) rfl) (by decide))
 (dss_cons (Γ1 := [.os (.ins 0 [.fz .A]), .fz .A, .fl .A, .no, .no, .no, .no]) (ds_sfq (T := (tb a_Order a_NoField a_NoCount a_NoPair)) (cl := 0) (i := 0) (ms := []) (q := .A) C_Order_kept_many rfl fl_Order (ps_fld (pv 0) (de_v 1 (q := .A) rfl (pv 1)) rfl))
 (dss_cons (Γ1 := [.os (.ins 0 [.fz .A, .ow .A]), .fz .A, .fl .A, .no, .no, .no, .no]) (ds_sfo (T := (tb a_Order a_NoField a_NoCount a_NoPair)) (cl := 0) (i := 0) (ms := [.fz .A]) (q := .A) C_Order_kept_lows rfl fl_Order (ps_fld (pv 0) (de_lst (q := .A) dq_nil) rfl))
 (dss_one (Γ1 := [.os (.ins 0 [.fz .A, .ow .A]), .fz .A, .fl .A, .no, .no, .no, .no]) (ds_for (cl := [3, 6, 4, 5]) (Γ1 := [.os (.ins 0 [.fz .A, .ow .A]), .fz .A, .fl .A, .fz .A, .no, .no, .no]) PO rfl (di_range1 (q := .A) (by rfl) z_range (de_v 1 (q := .A) rfl (pv 1))) (pg_name (i := 3) sc_Order_init_X.nd rfl (by first | exact Or.inl rfl | exact Or.inr rfl)) (tgs_n (q := .A) (by decide)) (dss_cons (Γ1 := [.os (.ins 0 [.fz .A, .ow .A]), .fz .A, .fl .A, .fz .A, .no, .no, .fz .A]) (ds_set (i := 6) (q := .A) sc_Order_init_X.nd rfl (by first | exact Or.inl rfl | exact Or.inr rfl) (de_int (q := .A)))
 (dss_cons (Γ1 := [.os (.ins 0 [.fz .A, .ow .A]), .fz .A, .fl .A, .fz .A, .no, .no, .fz .A]) (ds_for (cl := [4, 5]) (Γ1 := [.os (.ins 0 [.fz .A, .ow .A]), .fz .A, .fl .A, .fz .A, .fz .A, .fz .A, .fz .A]) PO rfl (di_listf (de_vl 2 (q := .A) rfl (pv 2))) (pg_tup rfl (pgs_cons (pg_name (i := 4) sc_Order_init_X.nd rfl (by first | exact Or.inl rfl | exact Or.inr rfl)) (pgs_cons (pg_name (i := 5) sc_Order_init_X.nd rfl (by first | exact Or.inl rfl | exact Or.inr rfl)) pgs_nil))) (tgs_t (is := [4, 5]) (q := .A) (by decide)) (dss_one (Γ1 := [.os (.ins 0 [.fz .A, .ow .A]), .fz .A, .fl .A, .fz .A, .fz .A, .fz .A, .fz .A]) (ds_if (Γn := [.os (.ins 0 [.fz .A, .ow .A]), .fz .A, .fl .A, .fz .A, .fz .A, .fz .A, .fz .A]) (dt_cmp op_eq (de_v 5 (q := .A) rfl (pv 5)) (de_v 3 (q := .A) rfl (pv 3)) (nomark _) (cs_eqS rfl)) (dss_one (Γ1 := [.os (.ins 0 [.fz .A, .ow .A]), .fz .A, .fl .A, .fz .A, .fz .A, .fz .A, .fz .A]) (ds_set (i := 6) (q := .A) sc_Order_init_X.nd rfl (by first | exact Or.inl rfl | exact Or.inr rfl) (de_or (q := .A) (de_or (q := .A) (de_v 6 (q := .A) rfl (pv 6)) (de_call o_bit_of hr (by rfl) (da_cons (de_v 4 (q := .A) rfl (pv 4)) da_nil) (aCons_len aNil_len))) (de_ix (de_sfo (q := .A) C_Order_kept_lows rfl rfl (pe_fld (pv 0) rfl)) (de_v 4 (q := .A) rfl (pv 4))))) rfl) (dss_nil rfl)) rfl) (by decide))
 (dss_one (Γ1 := [.os (.ins 0 [.fz .A, .ow .A]), .fz .A, .fl .A, .fz .A, .no, .no, .fz .A]) (ds_sfa (q := .A) C_Order_kept_lows rfl rfl (by decide) (pe_bm PySem.F.plainAttrs_list PySem.F.slot_list_append PySem.F.type_list_append mt_append (pe_fld (pv 0) rfl) (pa_cons (de_v 6 (q := .A) rfl (pv 6)) pa_nil))) rfl))) (by decide)) rfl)))))
theorem ok_order_of_cells_X (F : FtF K mg "order_of_cells" "order_of_cells" (topS 20) ["cells"]) (o_Order_init_X : OkCX P w K mg base (tb a_Order a_NoField a_NoCount a_NoPair) 3 0 "Order" 2 den_Order_init_X .L) (z_enumerate : mg "enumerate" = none) (z_range : mg "range" = none) (z_len : mg "len" = none) : OkFX P w K mg base (tb a_Order a_NoField a_NoCount a_NoPair) 5 "order_of_cells" ["cells"] den_order_of_cells_X (.q .L) :=
 mk_okfx (k := 4) (Γn := [.fl .A, .no, .no, .no, .no]) F sc_order_of_cells_X rfl rfl (fun _ => ⟨_, rfl⟩) fun f cdv A outer s H E hr tk PO =>
 (dss_cons (Γ1 := [.fl .A, .ow .A, .no, .no, .no]) (ds_seto (i := 1) (q := .A) sc_order_of_cells_X.nd rfl (by first | exact Or.inl rfl | exact Or.inr rfl) (de_lst (q := .A) dq_nil))
 (dss_cons (Γ1 := [.fl .A, .ow .A, .no, .no, .no]) (ds_for (cl := [2, 3, 4]) (Γ1 := [.fl .A, .ow .A, .fz .A, .fz .A, .no]) PO rfl (di_enum (q := .A) (by rfl) z_enumerate (de_vl 0 (q := .A) rfl (pv 0))) (pg_tup rfl (pgs_cons (pg_name (i := 2) sc_order_of_cells_X.nd rfl (by first | exact Or.inl rfl | exact Or.inr rfl)) (pgs_cons (pg_name (i := 3) sc_order_of_cells_X.nd rfl (by first | exact Or.inl rfl | exact Or.inr rfl)) pgs_nil))) (tgs_t (is := [2, 3]) (q := .A) (by decide)) (dss_one (Γ1 := [.fl .A, .ow .A, .fz .A, .fz .A, .no]) (ds_for (cl := [4]) (Γ1 := [.fl .A, .ow .A, .fz .A, .fz .A, .fz .A]) PO rfl (di_range1 (q := .A) (by rfl) z_range (de_v 2 (q := .A) rfl (pv 2))) (pg_name (i := 4) sc_order_of_cells_X.nd rfl (by first | exact Or.inl rfl | exact Or.inr rfl)) (tgs_n (q := .A) (by decide)) (dss_one (Γ1 := [.fl .A, .ow .A, .fz .A, .fz .A, .fz .A]) (ds_if (Γn := [.fl .A, .ow .A, .fz .A, .fz .A, .fz .A]) (dt_cmp (op_inD (hr65 hr)) (de_ix (de_vl 0 (q := .A) rfl (pv 0)) (de_v 4 (q := .A) rfl (pv 4))) (de_lst (q := .A) (dq_cons (q := .A) (de_tup (q := .A) (dq_cons (q := .A) (de_sub (q := .A) (de_ixt (de_v 3 (q := .A) rfl (pv 3)) (de_int (q := .A))) (de_int (q := .A))) (dq_cons (q := .A) (de_ixt (de_v 3 (q := .A) rfl (pv 3)) (de_int (q := .A))) dq_nil))) (dq_cons (q := .A) (de_tup (q := .A) (dq_cons (q := .A) (de_ixt (de_v 3 (q := .A) rfl (pv 3)) (de_int (q := .A))) (dq_cons (q := .A) (de_sub (q := .A) (de_ixt (de_v 3 (q := .A) rfl (pv 3)) (de_int (q := .A))) (de_int (q := .A))) dq_nil))) dq_nil))) (by rfl) (cs_inD rfl)) (dss_one (Γ1 := [.fl .A, .ow .A, .fz .A, .fz .A, .fz .A]) (ds_append 1 (q := .A) rfl (pe_bm PySem.F.plainAttrs_list PySem.F.slot_list_append PySem.F.type_list_append mt_append (pv 1) (pa_cons (de_tup (q := .A) (dq_cons (q := .A) (de_v 4 (q := .A) rfl (pv 4)) (dq_cons (q := .A) (de_v 2 (q := .A) rfl (pv 2)) dq_nil))) pa_nil))) rfl) (dss_nil rfl)) rfl) (by decide)) rfl) (by decide))
 (dss_one (Γ1 := [.fl .A, .no, .no, .no, .no]) (ds_retX (q := .L) (dx_q (dx_make (cl := 0) o_Order_init_X tk hr (by rfl) (da_cons (de_len (q := .A) (by rfl) z_len (de_vl 0 (q := .A) rfl (pv 0))) (da_cons (de_vo 1 (q := .A) rfl (pv 1)) da_nil)) (aCons_len (aCons_len aNil_len)))) rfl) rfl)))
theorem ok_field_X (F : FtF K mg "field" "field" (topS 21) ["a", "b"]) (o_look_at_field_X : OkFX P w K mg base (tb a_Order a_NoField a_NoCount a_NoPair) 3 "look_at_field" ["a", "b"] den_look_at_field_X (.q .A)) (o_order_of_cells_X : OkFX P w K mg base (tb a_Order a_NoField a_NoCount a_NoPair) 5 "order_of_cells" ["cells"] den_order_of_cells_X (.q .L)) (z_range : mg "range" = none) : OkFX P w K mg base (tb a_Order a_NoField a_NoCount a_NoPair) 6 "field" ["a", "b"] den_field_X (.q .L) :=
 mk_okfx (k := 5) (Γn := [.fz .A, .fz .A, .no, .no, .no]) F sc_field_X rfl rfl (fun _ => ⟨_, rfl⟩) fun f cdv A outer s H E hr tk PO =>
 (dss_cons (Γ1 := [.fz .A, .fz .A, .no, .no, .no]) (ds_dropX (dx_call o_look_at_field_X tk hr (by rfl) (da_cons (de_v 0 (q := .A) rfl (pv 0)) (da_cons (de_v 1 (q := .A) rfl (pv 1)) da_nil)) (aCons_len (aCons_len aNil_len))) rfl)
 (dss_cons (Γ1 := [.fz .A, .fz .A, .ow .A, .no, .no]) (ds_seto (i := 2) (q := .A) sc_field_X.nd rfl (by first | exact Or.inl rfl | exact Or.inr rfl) (de_lst (q := .A) dq_nil))
 (dss_cons (Γ1 := [.fz .A, .fz .A, .ow .A, .no, .no]) (ds_for (cl := [3, 4]) (Γ1 := [.fz .A, .fz .A, .ow .A, .fz .A, .no]) PO rfl (di_range1 (q := .A) (by rfl) z_range (de_v 0 (q := .A) rfl (pv 0))) (pg_name (i := 3) sc_field_X.nd rfl (by first | exact Or.inl rfl | exact Or.inr rfl)) (tgs_n (q := .A) (by decide)) (dss_one (Γ1 := [.fz .A, .fz .A, .ow .A, .fz .A, .no]) (ds_extend 2 (q := .A) rfl rfl (pe_bm PySem.F.plainAttrs_list PySem.F.slot_list_extend PySem.F.type_list_extend mt_extend (pv 2) (pa_cons (de_comp (p := .A) (Γ1 := [.fz .A, .fz .A, .ow .A, .fz .A, .fz .A]) (own := [("column", 4)]) rfl sc_field_X.nd (di_range1 (q := .A) (by rfl) z_range (de_v 1 (q := .A) rfl (pv 1))) (blkOk_by (N := nm_field_X) (sc := defScope (topS 21)) (own := [("column", 4)]) (by first | decide +kernel | kernel_rfl | rfl)) (fun _ _ _ _ _ => (pg_name (i := 4) sc_field_X.nd rfl (by first | exact Or.inl rfl | exact Or.inr rfl))) (tgs_n (q := .A) (by decide)) (fun _ _ _ _ _ => pts_no) (fun _ _ _ _ _ => (de_tup (q := .A) (dq_cons (q := .A) (de_v 3 (q := .A) rfl (pv 3)) (dq_cons (q := .A) (de_v 4 (q := .A) rfl (pv 4)) dq_nil)))) (by decide) (by decide)) pa_nil))) rfl) (by decide))
 (dss_one (Γ1 := [.fz .A, .fz .A, .no, .no, .no]) (ds_retX (q := .L) (dx_q (dx_call o_order_of_cells_X tk hr (by rfl) (da_cons (de_vo 2 (q := .A) rfl (pv 2)) da_nil) (aCons_len aNil_len))) rfl) rfl))))
theorem ok_Order_size (F : FtM K (tb a_Order a_NoField a_NoCount a_NoPair) 0 "size" "Order.size" (inClass (topS 12) 1) ["self"]) (C_Order_kept_many : ClsF K (tb a_Order a_NoField a_NoCount a_NoPair) 0 0 "kept_many") : OkM P w K mg base (tb a_Order a_NoField a_NoCount a_NoPair) 1 0 "size" ["self"] den_Order_size (.q .A) :=
 mk_okm (k := 0) (Γn := [.fz .U]) F sc_Order_size rfl rfl (fun _ => ⟨_, rfl⟩) fun f cdv A outer s H E hr =>
 (dss_one (Γ1 := [.fz .U]) (ds_ret (q := .A) (de_A (q := .A) (de_fld C_Order_kept_many (de_v 0 (q := .U) rfl (pv 0))))) rfl)
theorem ok_Order_lows_of (F : FtM K (tb a_Order a_NoField a_NoCount a_NoPair) 0 "lows_of" "Order.lows_of" (inClass (topS 12) 3) ["self", "thing"]) (C_Order_kept_lows : ClsF K (tb a_Order a_NoField a_NoCount a_NoPair) 0 1 "kept_lows") : OkM P w K mg base (tb a_Order a_NoField a_NoCount a_NoPair) 1 0 "lows_of" ["self", "thing"] den_Order_lows_of (.q .A) :=
 mk_okm (k := 0) (Γn := [.fz .U, .fz .A]) F sc_Order_lows_of rfl rfl (fun _ => ⟨_, rfl⟩) fun f cdv A outer s H E hr =>
 (dss_one (Γ1 := [.fz .U, .fz .A]) (ds_ret (q := .A) (de_A (q := .A) (de_ix (de_fld C_Order_kept_lows (de_v 0 (q := .U) rfl (pv 0))) (de_v 1 (q := .A) rfl (pv 1))))) rfl)
theorem ok_has_lows (F : FtF K mg "has_lows" "has_lows" (topS 15) ["order", "bits", "thing"]) (o_Order_lows_of : OkM P w K mg base (tb a_Order a_NoField a_NoCount a_NoPair) 1 0 "lows_of" ["self", "thing"] den_Order_lows_of (.q .A)) : OkF P w K mg base (tb a_Order a_NoField a_NoCount a_NoPair) 2 "has_lows" ["order", "bits", "thing"] den_has_lows (.q .A) :=
 mk_okf (k := 1) (Γn := [.fz .U, .fz .A, .fz .A, .no]) F sc_has_lows rfl rfl (fun _ => ⟨_, rfl⟩) fun f cdv A outer s H E hr =>
 (dss_cons (Γ1 := [.fz .U, .fz .A, .fz .A, .fz .A]) (ds_set (i := 3) (q := .A) sc_has_lows.nd rfl (by first | exact Or.inl rfl | exact Or.inr rfl) (de_meth o_Order_lows_of hr (de_v 0 (q := .U) rfl (pv 0)) (da_cons (de_v 2 (q := .A) rfl (pv 2)) da_nil) (aSuc (aCons_len aNil_len))))
 (dss_one (Γ1 := [.fz .U, .fz .A, .fz .A, .no]) (ds_ret (q := .A) (de_cmp (q := .A) op_eq (de_and (q := .A) (de_v 3 (q := .A) rfl (pv 3)) (de_v 1 (q := .A) rfl (pv 1))) (de_v 3 (q := .A) rfl (pv 3)) (nomark _) (cs_eqS rfl))) rfl))
theorem ok_downsets (F : FtF K mg "downsets" "downsets" (topS 16) ["order"]) (o_Order_size : OkM P w K mg base (tb a_Order a_NoField a_NoCount a_NoPair) 1 0 "size" ["self"] den_Order_size (.q .A)) (o_bit_of : OkF P w K mg base (tb a_Order a_NoField a_NoCount a_NoPair) 1 "bit_of" ["thing"] den_bit_of (.q .A)) (o_has_lows : OkF P w K mg base (tb a_Order a_NoField a_NoCount a_NoPair) 2 "has_lows" ["order", "bits", "thing"] den_has_lows (.q .A)) (z_range : mg "range" = none) : OkF P w K mg base (tb a_Order a_NoField a_NoCount a_NoPair) 3 "downsets" ["order"] den_downsets (.ol .A) :=
 mk_okf (k := 2) (Γn := [.fz .U, .no, .no, .no, .no]) F sc_downsets rfl rfl (fun h => nomatch h) fun f cdv A outer s H E hr =>
 (dss_cons (Γ1 := [.fz .U, .ow .A, .no, .no, .no]) (ds_seto (i := 1) (q := .A) sc_downsets.nd rfl (by first | exact Or.inl rfl | exact Or.inr rfl) (de_lst (q := .A) (dq_cons (q := .A) (de_int (q := .A)) dq_nil)))
 (dss_cons (Γ1 := [.fz .U, .ow .A, .no, .no, .no]) (ds_for (cl := [2, 3, 4]) (Γ1 := [.fz .U, .ow .A, .fz .A, .no, .no]) PassesOwn.never rfl (di_range1 (q := .A) (by rfl) z_range (de_meth0 o_Order_size hr (de_v 0 (q := .U) rfl (pv 0)))) (pg_name (i := 2) sc_downsets.nd rfl (by first | exact Or.inl rfl | exact Or.inr rfl)) (tgs_n (q := .A) (by decide)) (dss_cons (Γ1 := [.fz .U, .ow .A, .fz .A, .fz .A, .no]) (ds_set (i := 3) (q := .A) sc_downsets.nd rfl (by first | exact Or.inl rfl | exact Or.inr rfl) (de_call o_bit_of hr (by rfl) (da_cons (de_v 2 (q := .A) rfl (pv 2)) da_nil) (aCons_len aNil_len)))
 (dss_one (Γ1 := [.fz .U, .ow .A, .fz .A, .fz .A, .no]) (ds_seto (i := 1) (q := .A) sc_downsets.nd rfl (by first | exact Or.inl rfl | exact Or.inr rfl) (de_cat (q := .A) (de_vo 1 (q := .A) rfl (pv 1)) (de_comp (p := .A) (Γ1 := [.fz .U, .ow .A, .fz .A, .fz .A, .fz .A]) (own := [("bits", 4)]) rfl sc_downsets.nd (di_listb (de_vo 1 (q := .A) rfl (pv 1))) (blkOk_by (N := nm_downsets) (sc := defScope (topS 16)) (own := [("bits", 4)]) (by first | decide +kernel | kernel_rfl | rfl)) (fun _ _ _ _ _ => (pg_name (i := 4) sc_downsets.nd rfl (by first | exact Or.inl rfl | exact Or.inr rfl))) (tgs_n (q := .A) (by decide)) (fun _ _ _ _ _ => (pts_one (dt_val (de_call o_has_lows (rblk hr) (by rfl) (da_cons (de_v 0 (q := .U) rfl (pv 0)) (da_cons (de_v 4 (q := .A) rfl (pv 4)) (da_cons (de_v 2 (q := .A) rfl (pv 2)) da_nil))) (aCons_len (aCons_len (aCons_len aNil_len))))))) (fun _ _ _ _ _ => (de_add (q := .A) (de_v 4 (q := .A) rfl (pv 4)) (de_v 3 (q := .A) rfl (pv 3)))) (by decide) (by decide)))) rfl)) (by decide))
 (dss_one (Γ1 := [.fz .U, .no, .no, .no, .no]) (ds_retv 1 (q := .A) rfl (pv 1)) rfl)))
theorem ok_things_of (F : FtF K mg "things_of" "things_of" (topS 14) ["bits"]) (z_range : mg "range" = none) {t_MOST_THINGS_orders : Tok} (g_MOST_THINGS_orders : mg "MOST_THINGS_orders" = some (.int 9 t_MOST_THINGS_orders)) {p_BITS : Addr} (g_BITS : mg "BITS" = some (.ref p_BITS)) (r_BITS : TupK K p_BITS [1, 2, 4, 8, 16, 32, 64, 128, 256, 512]) : OkF P w K mg base (tb a_Order a_NoField a_NoCount a_NoPair) 1 "things_of" ["bits"] den_things_of (.ol .A) :=
 mk_okf (k := 0) (Γn := [.fz .A, .no]) F sc_things_of rfl rfl (fun h => nomatch h) fun f cdv A outer s H E hr =>
 (dss_one (Γ1 := [.fz .A, .no]) (ds_reto (q := .A) (de_oo (de_comp (p := .A) (Γ1 := [.fz .A, .fz .A]) (own := [("thing", 1)]) rfl sc_things_of.nd (di_range1 (q := .A) (by rfl) z_range (de_gint (q := .A) (by rfl) g_MOST_THINGS_orders ⟨_, rfl⟩)) (blkOk_by (N := nm_things_of) (sc := defScope (topS 14)) (own := [("thing", 1)]) (by first | decide +kernel | kernel_rfl | rfl)) (fun _ _ _ _ _ => (pg_name (i := 1) sc_things_of.nd rfl (by first | exact Or.inl rfl | exact Or.inr rfl))) (tgs_n (q := .A) (by decide)) (fun _ _ _ _ _ => (pts_one (dt_cmp op_gt (de_and (q := .A) (de_v 0 (q := .A) rfl (pv 0)) (de_gtupK (q := .A) (by decide) (by rfl) g_BITS r_BITS (de_v 1 (q := .A) rfl (pv 1)))) (de_int (q := .A)) (nomark _) (cs_gt rfl)))) (fun _ _ _ _ _ => (de_v 1 (q := .A) rfl (pv 1))) (by decide) (by decide)))) rfl)
theorem ok_by_size (F : FtF K mg "by_size" "by_size" (topS 23) ["order"]) (o_Order_size : OkM P w K mg base (tb a_Order a_NoField a_NoCount a_NoPair) 1 0 "size" ["self"] den_Order_size (.q .A)) (o_downsets : OkF P w K mg base (tb a_Order a_NoField a_NoCount a_NoPair) 3 "downsets" ["order"] den_downsets (.ol .A)) (o_things_of : OkF P w K mg base (tb a_Order a_NoField a_NoCount a_NoPair) 1 "things_of" ["bits"] den_things_of (.ol .A)) (z_range : mg "range" = none) (z_len : mg "len" = none) : OkF P w K mg base (tb a_Order a_NoField a_NoCount a_NoPair) 4 "by_size" ["order"] den_by_size (.ol .A) :=
 mk_okf (k := 3) (Γn := [.fz .U, .no, .no, .no, .no]) F sc_by_size rfl rfl (fun h => nomatch h) fun f cdv A outer s H E hr =>
 (dss_cons (Γ1 := [.fz .U, .ow .A, .no, .no, .no]) (ds_comp (i := 1) (p := .A) (Γ1 := [.fz .U, .no, .no, .no, .fz .A]) (own := [("number", 4)]) rfl sc_by_size.nd rfl rfl (sw_true rfl rfl rfl (by decide +kernel)) (di_range1 (q := .A) (by rfl) z_range (de_add (q := .A) (de_meth0 o_Order_size hr (de_v 0 (q := .U) rfl (pv 0))) (de_int (q := .A)))) (blkOk_by (N := nm_by_size) (sc := defScope (topS 23)) (own := [("number", 4)]) (by first | decide +kernel | kernel_rfl | rfl)) (fun _ _ _ _ _ => (pg_name (i := 4) sc_by_size.nd rfl (by first | exact Or.inl rfl | exact Or.inr rfl))) (tgs_n (q := .A) (by decide)) (fun _ _ _ _ _ => pts_no) (fun _ _ _ _ _ => (de_int (q := .A))) (by decide) (by decide))
 (dss_cons (Γ1 := [.fz .U, .ow .A, .no, .no, .no]) (ds_for (cl := [2, 3]) (Γ1 := [.fz .U, .ow .A, .fz .A, .no, .no]) PassesOwn.never rfl (di_listf (de_of (de_call o_downsets hr (by rfl) (da_cons (de_v 0 (q := .U) rfl (pv 0)) da_nil) (aCons_len aNil_len)))) (pg_name (i := 2) sc_by_size.nd rfl (by first | exact Or.inl rfl | exact Or.inr rfl)) (tgs_n (q := .A) (by decide)) (dss_cons (Γ1 := [.fz .U, .ow .A, .fz .A, .fz .A, .no]) (ds_set (i := 3) (q := .A) sc_by_size.nd rfl (by first | exact Or.inl rfl | exact Or.inr rfl) (de_len (q := .A) (by rfl) z_len (de_call o_things_of hr (by rfl) (da_cons (de_v 2 (q := .A) rfl (pv 2)) da_nil) (aCons_len aNil_len))))
 (dss_one (Γ1 := [.fz .U, .ow .A, .fz .A, .fz .A, .no]) (ds_put 1 (q := .A) rfl (ps_asg (de_add (q := .A) (de_ix (de_vo 1 (q := .A) rfl (pv 1)) (de_v 3 (q := .A) rfl (pv 3))) (de_int (q := .A))) (pg_sub (pv 1) (de_v 3 (q := .A) rfl (pv 3)) set_list))) rfl)) (by decide))
 (dss_one (Γ1 := [.fz .U, .no, .no, .no, .no]) (ds_retv 1 (q := .A) rfl (pv 1)) rfl)))
theorem ok_folded (F : FtF K mg "folded" "folded" (topS 24) ["poly", "m"]) (z_range : mg "range" = none) (z_enumerate : mg "enumerate" = none) : OkF P w K mg base (tb a_Order a_NoField a_NoCount a_NoPair) 1 "folded" ["poly", "m"] den_folded (.ol .A) :=
 mk_okf (k := 0) (Γn := [.fl .A, .fz .A, .no, .no, .no, .no]) F sc_folded rfl rfl (fun h => nomatch h) fun f cdv A outer s H E hr =>
 (dss_cons (Γ1 := [.fl .A, .fz .A, .ow .A, .no, .no, .no]) (ds_comp (i := 2) (p := .A) (Γ1 := [.fl .A, .fz .A, .no, .no, .no, .fz .A]) (own := [("rest", 5)]) rfl sc_folded.nd rfl rfl (sw_true rfl rfl rfl (by decide +kernel)) (di_range1 (q := .A) (by rfl) z_range (de_v 1 (q := .A) rfl (pv 1))) (blkOk_by (N := nm_folded) (sc := defScope (topS 24)) (own := [("rest", 5)]) (by first | decide +kernel | kernel_rfl | rfl)) (fun _ _ _ _ _ => (pg_name (i := 5) sc_folded.nd rfl (by first | exact Or.inl rfl | exact Or.inr rfl))) (tgs_n (q := .A) (by decide)) (fun _ _ _ _ _ => pts_no) (fun _ _ _ _ _ => (de_int (q := .A))) (by decide) (by decide))
 (dss_cons (Γ1 := [.fl .A, .fz .A, .ow .A, .no, .no, .no]) (ds_for (cl := [3, 4]) (Γ1 := [.fl .A, .fz .A, .ow .A, .fz .A, .fz .A, .no]) PassesOwn.never rfl (di_enum (q := .A) (by rfl) z_enumerate (de_vl 0 (q := .A) rfl (pv 0))) (pg_tup rfl (pgs_cons (pg_name (i := 3) sc_folded.nd rfl (by first | exact Or.inl rfl | exact Or.inr rfl)) (pgs_cons (pg_name (i := 4) sc_folded.nd rfl (by first | exact Or.inl rfl | exact Or.inr rfl)) pgs_nil))) (tgs_t (is := [3, 4]) (q := .A) (by decide)) (dss_one (Γ1 := [.fl .A, .fz .A, .ow .A, .fz .A, .fz .A, .no]) (ds_put 2 (q := .A) rfl (ps_asg (de_add (q := .A) (de_ix (de_vo 2 (q := .A) rfl (pv 2)) (de_mod (q := .A) (de_v 3 (q := .A) rfl (pv 3)) (de_v 1 (q := .A) rfl (pv 1)))) (de_v 4 (q := .A) rfl (pv 4))) (pg_sub (pv 2) (de_mod (q := .A) (de_v 3 (q := .A) rfl (pv 3)) (de_v 1 (q := .A) rfl (pv 1))) set_list))) rfl) (by decide))
 (dss_one (Γ1 := [.fl .A, .fz .A, .no, .no, .no, .no]) (ds_retv 2 (q := .A) rfl (pv 2)) rfl)))
theorem ok_lengths_ahead_X (F : FtF K mg "lengths_ahead" "lengths_ahead" (topS 25) ["a", "b"]) (o_field_X : OkFX P w K mg base (tb a_Order a_NoField a_NoCount a_NoPair) 6 "field" ["a", "b"] den_field_X (.q .L)) (o_by_size : OkF P w K mg base (tb a_Order a_NoField a_NoCount a_NoPair) 4 "by_size" ["order"] den_by_size (.ol .A)) (o_folded : OkF P w K mg base (tb a_Order a_NoField a_NoCount a_NoPair) 1 "folded" ["poly", "m"] den_folded (.ol .A)) (z_range : mg "range" = none) (z_sum : mg "sum" = none) : OkFX P w K mg base (tb a_Order a_NoField a_NoCount a_NoPair) 7 "lengths_ahead" ["a", "b"] den_lengths_ahead_X (.od (.dic .A)) :=
 mk_okfx (k := 6) (Γn := [.fz .A, .fz .A, .no, .no, .no, .no, .no, .no, .no, .no]) F sc_lengths_ahead_X rfl rfl (fun h => nomatch h) fun f cdv A outer s H E hr tk PO =>
 (dss_cons (Γ1 := [.fz .A, .fz .A, .fz .A, .no, .no, .no, .no, .no, .no, .no]) (ds_set (i := 2) (q := .A) sc_lengths_ahead_X.nd rfl (by first | exact Or.inl rfl | exact Or.inr rfl) (de_add (q := .A) (de_v 0 (q := .A) rfl (pv 0)) (de_v 1 (q := .A) rfl (pv 1))))
 (dss_cons (Γ1 := [.fz .A, .fz .A, .fz .A, .ow .A, .no, .no, .no, .no, .no, .no]) (ds_setoX (i := 3) (q := .A) sc_lengths_ahead_X.nd rfl (by first | exact Or.inl rfl | exact Or.inr rfl) (dx_callP o_folded hr (by rfl) (dax_cons (dx_callP o_by_size hr (by rfl) (dax_cons (dx_call o_field_X tk hr (by rfl) (da_cons (de_v 0 (q := .A) rfl (pv 0)) (da_cons (de_v 1 (q := .A) rfl (pv 1)) da_nil)) (aCons_len (aCons_len aNil_len))) da_nil) (xaC_len aNil_len)) (da_cons (de_v 2 (q := .A) rfl (pv 2)) da_nil)) (xaC_len (aCons_len aNil_len))) rfl)
 (dss_cons (Γ1 := [.fz .A, .fz .A, .fz .A, .ow .A, .os (.dic .A), .no, .no, .no, .no, .no]) (ds_dnewK (i := 4) (q := .A) sc_lengths_ahead_X.nd rfl (by first | exact Or.inl rfl | exact Or.inr rfl))
 (dss_cons (Γ1 := [.fz .A, .fz .A, .fz .A, .ow .A, .os (.dic .A), .no, .no, .no, .no, .no]) (ds_for (cl := [5, 8, 9]) (Γ1 := [.fz .A, .fz .A, .fz .A, .ow .A, .os (.dic .A), .fz .A, .no, .no, .no, .no]) PO rfl (di_range2 (q := .A) (by rfl) z_range (de_int (q := .A)) (de_add (q := .A) (de_v 2 (q := .A) rfl (pv 2)) (de_int (q := .A)))) (pg_name (i := 5) sc_lengths_ahead_X.nd rfl (by first | exact Or.inl rfl | exact Or.inr rfl)) (tgs_n (q := .A) (by decide)) (dss_one (Γ1 := [.fz .A, .fz .A, .fz .A, .ow .A, .os (.dic .A), .fz .A, .no, .no, .no, .no]) (ds_if (Γn := [.fz .A, .fz .A, .fz .A, .ow .A, .os (.dic .A), .fz .A, .no, .no, .no, .no]) (dt_cmp op_eq (de_mod (q := .A) (de_v 2 (q := .A) rfl (pv 2)) (de_v 5 (q := .A) rfl (pv 5))) (de_int (q := .A)) (nomark _) (cs_eqS rfl)) (dss_clr (cl := [8, 9]) (dss_cons (Γ1 := [.fz .A, .fz .A, .fz .A, .ow .A, .os (.dic .A), .fz .A, .no, .no, .fz .A, .no]) (ds_lockK 4 (q := .A) rfl rfl rfl rfl nob_set fun _ => (ds_set (i := 8) (q := .A) sc_lengths_ahead_X.nd rfl (by first | exact Or.inl rfl | exact Or.inr rfl) (de_sum (q := .A) rfl (by rfl) z_sum (de_comp (p := .A) (Γ1 := [.fz .A, .fz .A, .fz .A, .ow .A, .os (.ldk .A), .fz .A, .no, .no, .no, .fz .A]) (own := [("other", 9)]) rfl sc_lengths_ahead_X.nd (di_keys 4 (q := .A) (p := .A) rfl (pv 4)) (blkOk_by (N := nm_lengths_ahead_X) (sc := defScope (topS 25)) (own := [("other", 9)]) (by first | decide +kernel | kernel_rfl | rfl)) (fun _ _ _ _ _ => (pg_name (i := 9) sc_lengths_ahead_X.nd rfl (by first | exact Or.inl rfl | exact Or.inr rfl))) (tgs_n (q := .A) (by decide)) (fun _ _ _ _ _ => (pts_one (dt_cmp op_eq (de_mod (q := .A) (de_v 5 (q := .A) rfl (pv 5)) (de_v 9 (q := .A) rfl (pv 9))) (de_int (q := .A)) (nomark _) (cs_eqS rfl)))) (fun _ _ _ _ _ => (de_dget (q := .A) (dd_lk 4 (q := .A) rfl (pv 4)) (de_v 9 (q := .A) rfl (pv 9)) (rblk hr))) (by decide) (by decide)))))
 (dss_one (Γ1 := [.fz .A, .fz .A, .fz .A, .ow .A, .os (.dic .A), .fz .A, .no, .no, .fz .A, .no]) (ds_dput 4 (q := .A) (.inl rfl) (de_sub (q := .A) (de_ix (de_vo 3 (q := .A) rfl (pv 3)) (de_mod (q := .A) (de_v 5 (q := .A) rfl (pv 5)) (de_v 2 (q := .A) rfl (pv 2)))) (de_v 8 (q := .A) rfl (pv 8))) (pv 4) (de_v 5 (q := .A) rfl (pv 5)) hr) rfl)) (by decide)) (dss_clr (cl := [8, 9]) (dss_nil rfl) (by decide))) rfl) (by decide))
 (dss_cons (Γ1 := [.fz .A, .fz .A, .fz .A, .ow .A, .os (.dic .A), .no, .os (.dic .A), .no, .no, .no]) (ds_dnewK (i := 6) (q := .A) sc_lengths_ahead_X.nd rfl (by first | exact Or.inl rfl | exact Or.inr rfl))
 (dss_cons (Γ1 := [.fz .A, .fz .A, .fz .A, .ow .A, .os (.dic .A), .no, .os (.dic .A), .no, .no, .no]) (ds_lockK 4 (q := .A) rfl rfl rfl rfl nob_for fun _ => (ds_for (cl := [5, 7]) (Γ1 := [.fz .A, .fz .A, .fz .A, .ow .A, .os (.ldk .A), .fz .A, .os (.dic .A), .fz .A, .no, .no]) PO rfl (di_items 4 (q := .A) rfl (pv 4)) (pg_tup rfl (pgs_cons (pg_name (i := 5) sc_lengths_ahead_X.nd rfl (by first | exact Or.inl rfl | exact Or.inr rfl)) (pgs_cons (pg_name (i := 7) sc_lengths_ahead_X.nd rfl (by first | exact Or.inl rfl | exact Or.inr rfl)) pgs_nil))) (tgs_t (is := [5, 7]) (q := .A) (by decide)) (dss_one (Γ1 := [.fz .A, .fz .A, .fz .A, .ow .A, .os (.ldk .A), .fz .A, .os (.dic .A), .fz .A, .no, .no]) (ds_if (Γn := [.fz .A, .fz .A, .fz .A, .ow .A, .os (.ldk .A), .fz .A, .os (.dic .A), .fz .A, .no, .no]) (dt_cmp op_ne (de_v 7 (q := .A) rfl (pv 7)) (de_int (q := .A)) (nomark _) (cs_neS rfl)) (dss_one (Γ1 := [.fz .A, .fz .A, .fz .A, .ow .A, .os (.ldk .A), .fz .A, .os (.dic .A), .fz .A, .no, .no]) (ds_dput 6 (q := .A) (.inl rfl) (de_v 7 (q := .A) rfl (pv 7)) (pv 6) (de_div (q := .A) (de_v 2 (q := .A) rfl (pv 2)) (de_v 5 (q := .A) rfl (pv 5))) hr) rfl) (dss_nil rfl)) rfl) (by decide)))
 (dss_one (Γ1 := [.fz .A, .fz .A, .no, .no, .no, .no, .no, .no, .no, .no]) (ds_retd 6 (S := .dic .A) rfl (pv 6)) rfl)))))))
theorem ok__law_whole (F : FtF K mg "_law_whole" "_law_whole" (topS 28) ["_law_found"]) (z_isinstance : mg "isinstance" = none) (z_int : mg "int" = none) (z_bool : mg "bool" = none) : OkF P w K mg base (tb a_Order a_NoField a_NoCount a_NoPair) 1 "_law_whole" ["_law_found"] den__law_whole (.q .A) :=
 mk_okf (k := 0) (Γn := [.fz .A]) F sc__law_whole rfl rfl (fun _ => ⟨_, rfl⟩) fun f cdv A outer s H E hr =>
 (dss_one (Γ1 := [.fz .A]) (ds_ret (q := .A) (de_andV (q := .A) (de_isi (q := .A) (by rfl) z_isinstance (de_v 0 (q := .A) rfl (pv 0)) (pe_bltn (v := .ty "int") (by rfl) z_int (by decide +kernel) rfl)) (de_one (de_notV (q := .A) (de_isi (q := .A) (by rfl) z_isinstance (de_v 0 (q := .A) rfl (pv 0)) (pe_bltn (v := .ty "bool") (by rfl) z_bool (by decide +kernel) rfl)))))) rfl)
theorem ok__law_all (F : FtF K mg "_law_all" "_law_all" (topS 31) ["_law_below"]) (z_range : mg "range" = none) (z_len : mg "len" = none) (z_all : mg "all" = none) : OkF P w K mg base (tb a_Order a_NoField a_NoCount a_NoPair) 1 "_law_all" ["_law_below"] den__law_all (.ol .L) :=
 mk_okf (k := 0) (Γn := [.fl .U, .no, .no, .no, .no, .no]) F sc__law_all rfl rfl (fun h => nomatch h) fun f cdv A outer s H E hr =>
 (dss_cons (Γ1 := [.fl .U, .ow .L, .no, .no, .no, .no]) (ds_seto (i := 1) (q := .L) sc__law_all.nd rfl (by first | exact Or.inl rfl | exact Or.inr rfl) (de_lst (q := .L) (dq_cons (q := .L) (de_oq (q := .L) (de_lst (q := .A) dq_nil)) dq_nil)))
 (dss_cons (Γ1 := [.fl .U, .ow .L, .no, .no, .no, .no]) (ds_for (cl := [2, 3, 4, 5]) (Γ1 := [.fl .U, .ow .L, .fz .A, .no, .no, .no]) PassesOwn.never rfl (di_range1 (q := .A) (by rfl) z_range (de_len (q := .A) (by rfl) z_len (de_vl 0 (q := .U) rfl (pv 0)))) (pg_name (i := 2) sc__law_all.nd rfl (by first | exact Or.inl rfl | exact Or.inr rfl)) (tgs_n (q := .A) (by decide)) (dss_cons (Γ1 := [.fl .U, .ow .L, .fz .A, .ow .A, .no, .no]) (ds_seto (i := 3) (q := .A) sc__law_all.nd rfl (by first | exact Or.inl rfl | exact Or.inr rfl) (de_lst (q := .A) dq_nil))
 (dss_cons (Γ1 := [.fl .U, .fl .L, .fz .A, .ow .L, .no, .no]) (ds_wk (Γ1 := [.fl .U, .fl .L, .fz .A, .ow .L, .no, .no]) rfl (ds_for (cl := [4, 5]) (Γ1 := [.fl .U, .fl .L, .fz .A, .ow .L, .fz .L, .no]) PassesOwn.never rfl (di_listf (de_vl 1 (q := .L) rfl (pv 1))) (pg_name (i := 4) sc__law_all.nd rfl (by first | exact Or.inl rfl | exact Or.inr rfl)) (tgs_n (q := .L) (by decide)) (dss_one (Γ1 := [.fl .U, .fl .L, .fz .A, .ow .L, .fz .L, .no]) (ds_if (Γn := [.fl .U, .fl .L, .fz .A, .ow .L, .fz .L, .no]) (dt_val (de_all (q := .A) rfl (by rfl) z_all (de_comp (p := .A) (Γ1 := [.fl .U, .fl .L, .fz .A, .ow .L, .fz .L, .fz .U]) (own := [("_law_low", 5)]) rfl sc__law_all.nd (di_list (de_ix (de_vl 0 (q := .U) rfl (pv 0)) (de_v 2 (q := .A) rfl (pv 2)))) (blkOk_by (N := nm__law_all) (sc := defScope (topS 31)) (own := [("_law_low", 5)]) (by first | decide +kernel | kernel_rfl | rfl)) (fun _ _ _ _ _ => (pg_name (i := 5) sc__law_all.nd rfl (by first | exact Or.inl rfl | exact Or.inr rfl))) (tgs_n (q := .U) (by decide)) (fun _ _ _ _ _ => pts_no) (fun _ _ _ _ _ => (de_cmp (q := .A) (op_inD (hr65 (rblk hr))) (de_v 5 (q := .U) rfl (pv 5)) (de_v 4 (q := .L) rfl (pv 4)) (by rfl) (cs_inD rfl))) (by decide) (by decide)))) (dss_one (Γ1 := [.fl .U, .fl .L, .fz .A, .ow .L, .fz .L, .no]) (ds_append 3 (q := .L) rfl (pe_bm PySem.F.plainAttrs_list PySem.F.slot_list_append PySem.F.type_list_append mt_append (pv 3) (pa_cons (de_oq (q := .L) (de_cat (q := .L) (de_v 4 (q := .L) rfl (pv 4)) (de_oo (q := .L) (de_lst (q := .A) (dq_cons (q := .A) (de_v 2 (q := .A) rfl (pv 2)) dq_nil))))) pa_nil))) rfl) (dss_nil rfl)) rfl) (by decide)))
 (dss_one (Γ1 := [.fl .U, .ow .L, .fz .A, .ow .L, .no, .no]) (ds_seto (i := 1) (q := .L) sc__law_all.nd rfl (by first | exact Or.inl rfl | exact Or.inr rfl) (de_cat (q := .L) (de_vl 1 (q := .L) rfl (pv 1)) (de_vo 3 (q := .L) rfl (pv 3)))) rfl))) (by decide))
 (dss_one (Γ1 := [.fl .U, .no, .no, .no, .no, .no]) (ds_retv 1 (q := .L) rfl (pv 1)) rfl)))
theorem ok__law_turned (F : FtF K mg "_law_turned" "_law_turned" (topS 30) ["_law_below", "_law_things"]) (z_range : mg "range" = none) (z_len : mg "len" = none) (z_all : mg "all" = none) (z_sorted : mg "sorted" = none) (z_set : mg "set" = none) : OkF P w K mg base (tb a_Order a_NoField a_NoCount a_NoPair) 1 "_law_turned" ["_law_below", "_law_things"] den__law_turned (.ol .A) :=
 mk_okf (k := 0) (Γn := [.fl .U, .fl .A, .no, .no, .no]) F sc__law_turned rfl rfl (fun h => nomatch h) fun f cdv A outer s H E hr =>
 (dss_cons (Γ1 := [.fl .U, .fl .A, .ow .A, .no, .no]) (ds_seto (i := 2) (q := .A) sc__law_turned.nd rfl (by first | exact Or.inl rfl | exact Or.inr rfl) (de_lst (q := .A) dq_nil))
 (dss_cons (Γ1 := [.fl .U, .fl .A, .ow .U, .no, .no]) (ds_wk (Γ1 := [.fl .U, .fl .A, .ow .U, .no, .no]) rfl (ds_for (cl := [3, 4]) (Γ1 := [.fl .U, .fl .A, .ow .U, .fz .A, .no]) PassesOwn.never rfl (di_range1 (q := .A) (by rfl) z_range (de_len (q := .A) (by rfl) z_len (de_vl 0 (q := .U) rfl (pv 0)))) (pg_name (i := 3) sc__law_turned.nd rfl (by first | exact Or.inl rfl | exact Or.inr rfl)) (tgs_n (q := .A) (by decide)) (dss_one (Γ1 := [.fl .U, .fl .A, .ow .U, .fz .A, .no]) (ds_if (Γn := [.fl .U, .fl .A, .ow .U, .fz .A, .no]) (PW.pt (dw_and (dt_cmp (op_notInD (hr65 hr)) (de_v 3 (q := .A) rfl (pv 3)) (de_vl 1 (q := .A) rfl (pv 1)) (by rfl) (cs_notInD rfl)) (dw_and1 (dt_val (de_all (q := .A) rfl (by rfl) z_all (de_comp (p := .A) (Γ1 := [.fl .U, .fl .A, .ow .U, .fz .A, .fz .U]) (own := [("_law_low", 4)]) rfl sc__law_turned.nd (di_list (de_ix (de_vl 0 (q := .U) rfl (pv 0)) (de_v 3 (q := .A) rfl (pv 3)))) (blkOk_by (N := nm__law_turned) (sc := defScope (topS 30)) (own := [("_law_low", 4)]) (by first | decide +kernel | kernel_rfl | rfl)) (fun _ _ _ _ _ => (pg_name (i := 4) sc__law_turned.nd rfl (by first | exact Or.inl rfl | exact Or.inr rfl))) (tgs_n (q := .U) (by decide)) (fun _ _ _ _ _ => pts_no) (fun _ _ _ _ _ => (de_cmp (q := .A) (op_inD (hr65 (rblk hr))) (de_v 4 (q := .U) rfl (pv 4)) (de_vl 1 (q := .A) rfl (pv 1)) (by rfl) (cs_inD rfl))) (by decide) (by decide))))))) (dss_one (Γ1 := [.fl .U, .fl .A, .ow .U, .fz .A, .no]) (ds_extend 2 (q := .U) rfl rfl (pe_bm PySem.F.plainAttrs_list PySem.F.slot_list_extend PySem.F.type_list_extend mt_extend (pv 2) (pa_cons (de_cat (q := .U) (de_ix (de_vl 0 (q := .U) rfl (pv 0)) (de_v 3 (q := .A) rfl (pv 3))) (de_oo (q := .U) (de_lst (q := .A) (dq_cons (q := .A) (de_v 3 (q := .A) rfl (pv 3)) dq_nil)))) pa_nil))) rfl) (dss_nil rfl)) rfl) (by decide)))
 (dss_one (Γ1 := [.fl .U, .fl .A, .no, .no, .no]) (ds_reto (q := .A) (de_oo (de_sset (q := .A) rfl (by rfl) z_sorted (by rfl) z_set (de_vo 2 (q := .U) rfl (pv 2))))) rfl)))
theorem ok__law_lengths (F : FtF K mg "_law_lengths" "_law_lengths" (topS 32) ["_law_below"]) (o__law_all : OkF P w K mg base (tb a_Order a_NoField a_NoCount a_NoPair) 1 "_law_all" ["_law_below"] den__law_all (.ol .L)) (o__law_turned : OkF P w K mg base (tb a_Order a_NoField a_NoCount a_NoPair) 1 "_law_turned" ["_law_below", "_law_things"] den__law_turned (.ol .A)) : OkF P w K mg base (tb a_Order a_NoField a_NoCount a_NoPair) 2 "_law_lengths" ["_law_below"] den__law_lengths (.q .L) :=
 mk_okf (k := 1) (Γn := [.fl .U, .no, .no, .no, .no, .no]) F sc__law_lengths rfl rfl (fun _ => ⟨_, rfl⟩) fun f cdv A outer s H E hr =>
 (dss_cons (Γ1 := [.fl .U, .ow .L, .no, .no, .no, .no]) (ds_seto (i := 1) (q := .L) sc__law_lengths.nd rfl (by first | exact Or.inl rfl | exact Or.inr rfl) (de_call o__law_all hr (by rfl) (da_cons (de_vl 0 (q := .U) rfl (pv 0)) da_nil) (aCons_len aNil_len)))
 (dss_cons (Γ1 := [.fl .U, .ow .L, .os (.dic .A), .no, .no, .no]) (ds_dnewK (i := 2) (q := .A) sc__law_lengths.nd rfl (by first | exact Or.inl rfl | exact Or.inr rfl))
 (dss_cons (Γ1 := [.fl .U, .ow .L, .os (.dic .A), .no, .no, .no]) (ds_while (cl := [3, 4, 5]) (n := 10000) PassesOwn.never (dt_tru (de_vo 1 (q := .L) rfl (pv 1))) (dss_cons (Γ1 := [.fl .U, .ow .L, .os (.dic .A), .fz .L, .no, .no]) (ds_popTo 1 (q := .L) rfl sc__law_lengths.nd rfl (by first | exact Or.inl rfl | exact Or.inr rfl) (pe_bm0 PySem.F.plainAttrs_list PySem.F.slot_list_pop PySem.F.type_list_pop mt_pop (pv 1)))
 (dss_cons (Γ1 := [.fl .U, .ow .L, .os (.dic .A), .fz .L, .fz .A, .no]) (ds_set (i := 4) (q := .A) sc__law_lengths.nd rfl (by first | exact Or.inl rfl | exact Or.inr rfl) (de_int (q := .A)))
 (dss_cons (Γ1 := [.fl .U, .ow .L, .os (.dic .A), .fz .L, .fz .A, .ow .A]) (ds_seto (i := 5) (q := .A) sc__law_lengths.nd rfl (by first | exact Or.inl rfl | exact Or.inr rfl) (de_call o__law_turned hr (by rfl) (da_cons (de_vl 0 (q := .U) rfl (pv 0)) (da_cons (de_v 3 (q := .L) rfl (pv 3)) da_nil)) (aCons_len (aCons_len aNil_len))))
 (dss_cons (Γ1 := [.fl .U, .ow .L, .os (.dic .A), .fz .L, .fz .A, .ow .A]) (ds_while (cl := []) (n := 10000) PassesOwn.never (dt_cmp (op_neD hr.units) (de_vo 5 (q := .A) rfl (pv 5)) (de_v 3 (q := .L) rfl (pv 3)) (nomark _) (cs_neD rfl)) (dss_cons (Γ1 := [.fl .U, .ow .L, .os (.dic .A), .fz .L, .fz .A, .ow .A]) (ds_remove 1 (q := .L) rfl (pe_bm PySem.F.plainAttrs_list PySem.F.slot_list_remove PySem.F.type_list_remove (mt_removeD (hr65 hr)) (pv 1) (pa_cons (de_vo 5 (q := .A) rfl (pv 5)) pa_nil)))
 (dss_cons (Γ1 := [.fl .U, .ow .L, .os (.dic .A), .fz .L, .fz .A, .ow .A]) (ds_seto (i := 5) (q := .A) sc__law_lengths.nd rfl (by first | exact Or.inl rfl | exact Or.inr rfl) (de_call o__law_turned hr (by rfl) (da_cons (de_vl 0 (q := .U) rfl (pv 0)) (da_cons (de_vo 5 (q := .A) rfl (pv 5)) da_nil)) (aCons_len (aCons_len aNil_len))))
 (dss_one (Γ1 := [.fl .U, .ow .L, .os (.dic .A), .fz .L, .fz .A, .ow .A]) (ds_set (i := 4) (q := .A) sc__law_lengths.nd rfl (by first | exact Or.inl rfl | exact Or.inr rfl) (de_add (q := .A) (de_v 4 (q := .A) rfl (pv 4)) (de_int (q := .A)))) rfl))) (by decide))
 (dss_one (Γ1 := [.fl .U, .ow .L, .os (.dic .A), .fz .L, .fz .A, .ow .A]) (ds_dput 2 (q := .A) (.inl rfl) (de_add (q := .A) (de_dget2 (q := .A) ⟨rfl, rfl, rfl, rfl⟩ (dd_os 2 (q := .A) (.inl rfl) (pv 2)) (de_v 4 (q := .A) rfl (pv 4)) (de_int (q := .A)) hr) (de_int (q := .A))) (pv 2) (de_v 4 (q := .A) rfl (pv 4)) hr) rfl))))) (by decide))
 (dss_one (Γ1 := [.fl .U, .no, .no, .no, .no, .no]) (ds_wk (Γ1 := [.fl .U, .ow .L, .fz .L, .no, .no, .no]) rfl (ds_ret (q := .L) (de_v 2 (q := .L) rfl (pv 2)))) rfl))))
theorem ok__law_below_of (F : FtF K mg "_law_below_of" "_law_below_of" (topS 29) ["_law_a", "_law_b", "_law_thing"]) (z_range : mg "range" = none) : OkF P w K mg base (tb a_Order a_NoField a_NoCount a_NoPair) 1 "_law_below_of" ["_law_a", "_law_b", "_law_thing"] den__law_below_of (.ol .A) :=
 mk_okf (k := 0) (Γn := [.fz .A, .fz .A, .fz .A, .no, .no, .no]) F sc__law_below_of rfl rfl (fun h => nomatch h) fun f cdv A outer s H E hr =>
 (dss_cons (Γ1 := [.fz .A, .fz .A, .fz .A, .fz .A, .no, .no]) (ds_set (i := 3) (q := .A) sc__law_below_of.nd rfl (by first | exact Or.inl rfl | exact Or.inr rfl) (de_div (q := .A) (de_v 2 (q := .A) rfl (pv 2)) (de_v 1 (q := .A) rfl (pv 1))))
 (dss_cons (Γ1 := [.fz .A, .fz .A, .fz .A, .fz .A, .fz .A, .no]) (ds_set (i := 4) (q := .A) sc__law_below_of.nd rfl (by first | exact Or.inl rfl | exact Or.inr rfl) (de_mod (q := .A) (de_v 2 (q := .A) rfl (pv 2)) (de_v 1 (q := .A) rfl (pv 1))))
 (dss_one (Γ1 := [.fz .A, .fz .A, .fz .A, .no, .no, .no]) (ds_reto (q := .A) (de_oo (de_comp (p := .A) (Γ1 := [.fz .A, .fz .A, .fz .A, .fz .A, .fz .A, .fz .A]) (own := [("_law_k", 5)]) rfl sc__law_below_of.nd (di_range1 (q := .A) (by rfl) z_range (de_mul (q := .A) (de_v 0 (q := .A) rfl (pv 0)) (de_v 1 (q := .A) rfl (pv 1)))) (blkOk_by (N := nm__law_below_of) (sc := defScope (topS 29)) (own := [("_law_k", 5)]) (by first | decide +kernel | kernel_rfl | rfl)) (fun _ _ _ _ _ => (pg_name (i := 5) sc__law_below_of.nd rfl (by first | exact Or.inl rfl | exact Or.inr rfl))) (tgs_n (q := .A) (by decide)) (fun _ _ _ _ _ => (pts_one (PW.pt (dw_and (dt_cmp op_ne (de_v 5 (q := .A) rfl (pv 5)) (de_v 2 (q := .A) rfl (pv 2)) (nomark _) (cs_neS rfl)) (dw_and (dt_cmp op_le (de_div (q := .A) (de_v 5 (q := .A) rfl (pv 5)) (de_v 1 (q := .A) rfl (pv 1))) (de_v 3 (q := .A) rfl (pv 3)) (nomark _) (cs_le rfl)) (dw_and1 (dt_cmp op_le (de_mod (q := .A) (de_v 5 (q := .A) rfl (pv 5)) (de_v 1 (q := .A) rfl (pv 1))) (de_v 4 (q := .A) rfl (pv 4)) (nomark _) (cs_le rfl)))))))) (fun _ _ _ _ _ => (de_v 5 (q := .A) rfl (pv 5))) (by decide) (by decide)))) rfl)))
theorem ok_look_at_field (F : FtF K mg "look_at_field" "look_at_field" (topS 19) ["a", "b"]) {t_MOST_THINGS_fields : Tok} (g_MOST_THINGS_fields : mg "MOST_THINGS_fields" = some (.int 9 t_MOST_THINGS_fields)) : OkF P w K mg base (tb a_Order a_NoField a_NoCount a_NoPair) 1 "look_at_field" ["a", "b"] den_look_at_field (.q .A) :=
 mk_okf (k := 0) (Γn := [.fz .A, .fz .A]) F sc_look_at_field rfl rfl (fun _ => ⟨_, rfl⟩) fun f cdv A outer s H E hr =>
 (dss_one (Γ1 := [.fz .A, .fz .A]) (ds_if (Γn := [.fz .A, .fz .A]) (PW.pt (dw_or (dt_cmp op_lt (de_v 0 (q := .A) rfl (pv 0)) (de_int (q := .A)) (nomark _) (cs_lt rfl)) (dw_or (dt_cmp op_lt (de_v 1 (q := .A) rfl (pv 1)) (de_int (q := .A)) (nomark _) (cs_lt rfl)) (dw_or1 (dt_cmp op_gt (de_mul (q := .A) (de_v 0 (q := .A) rfl (pv 0)) (de_v 1 (q := .A) rfl (pv 1))) (de_gint (q := .A) (by rfl) g_MOST_THINGS_fields ⟨_, rfl⟩) (nomark _) (cs_gt rfl)))))) (dss_one (Γ1 := [.fz .A, .fz .A]) ds_never rfl) (dss_nil rfl)) rfl)
theorem ok_Order_init (F : FtI K mg (tb a_Order a_NoField a_NoCount a_NoPair) 0 "Order" "Order.__init__" (inClass (topS 12) 0) ["self", "many", "pairs"]) (o_bit_of : OkF P w K mg base (tb a_Order a_NoField a_NoCount a_NoPair) 1 "bit_of" ["thing"] den_bit_of (.q .A)) {t_MOST_THINGS_orders : Tok} (g_MOST_THINGS_orders : mg "MOST_THINGS_orders" = some (.int 9 t_MOST_THINGS_orders)) (C_Order_kept_many : ClsF K (tb a_Order a_NoField a_NoCount a_NoPair) 0 0 "kept_many") (C_Order_kept_lows : ClsF K (tb a_Order a_NoField a_NoCount a_NoPair) 0 1 "kept_lows") (z_range : mg "range" = none) : OkC P w K mg base (tb a_Order a_NoField a_NoCount a_NoPair) 2 0 "Order" 2 den_Order_init .L :=
 mk_okc (q := .L) (pks := [.A, .fA]) (m := 4) (body := b_Order_init) (k := 1) (Γn := [.os (.ins 0 [.fz .A, .ow .A]), .fz .A, .fl .A, .no, .no, .no, .no]) (ms := [.fz .A, .ow .A]) F sc_Order_init rfl rfl rfl rfl (by decide) fun f cdv A outer s H E z hr =>
 (dss_cons (Γ1 := [.os (.ins 0 []), .fz .A, .fl .A, .no, .no, .no, .no]) (ds_if (Γn := [.os (.ins 0 []), .fz .A, .fl .A, .no, .no, .no, .no]) (PW.pt (dw_or (dt_cmp op_lt (de_v 1 (q := .A) rfl (pv 1)) (de_int (q := .A)) (nomark _) (cs_lt rfl)) (dw_or1 (dt_cmp op_gt (de_v 1 (q := .A) rfl (pv 1)) (de_gint (q := .A) (by rfl) g_MOST_THINGS_orders ⟨_, rfl⟩) (nomark _) (cs_gt rfl))))) (dss_one (Γ1 := [.os (.ins 0 []), .fz .A, .fl .A, .no, .no, .no, .no]) ds_never rfl) (dss_nil rfl))
 (dss_cons (Γ1 := [.os (.ins 0 []), .fz .A, .fl .A, .no, .no, .no, .no]) (ds_for (cl := [4, 5]) (Γ1 := [.os (.ins 0 []), .fz .A, .fl .A, .no, .fz .A, .fz .A, .no]) PassesOwn.never rfl (di_listf (de_vl 2 (q := .A) rfl (pv 2))) (pg_tup rfl (pgs_cons (pg_name (i := 4) sc_Order_init.nd rfl (by first | exact Or.inl rfl | exact Or.inr rfl)) (pgs_cons (pg_name (i := 5) sc_Order_init.nd rfl (by first | exact Or.inl rfl | exact Or.inr rfl)) pgs_nil))) (tgs_t (is := [4, 5]) (q := .A) (by decide)) (dss_one (Γ1 := [.os (.ins 0 []), .fz .A, .fl .A, .no, .fz .A, .fz .A, .no]) (ds_if (Γn := [.os (.ins 0 []), .fz .A, .fl .A, .no, .fz .A, .fz .A, .no]) (PW.pt (dw_or (dt_cmp op_lt (de_v 4 (q := .A) rfl (pv 4)) (de_int (q := .A)) (nomark _) (cs_lt rfl)) (dw_or (dt_cmp op_ge (de_v 4 (q := .A) rfl (pv 4)) (de_v 5 (q := .A) rfl (pv 5)) (nomark _) (cs_ge rfl)) (dw_or1 (dt_cmp op_ge (de_v 5 (q := .A) rfl (pv 5)) (de_v 1 (q := .A) rfl (pv 1)) (nomark _) (cs_ge rfl)))))) (dss_one (Γ1 := [.os (.ins 0 []), .fz .A, .fl .A, .no, .fz .A, .fz .A, .no]) ds_never rfl) (dss_nil rfl)) rfl) (by decide))
 (dss_cons (Γ1 := [.os (.ins 0 [.fz .A]), .fz .A, .fl .A, .no, .no, .no, .no]) (ds_sfq (T := (tb a_Order a_NoField a_NoCount a_NoPair)) (cl := 0) (i := 0) (ms := []) (q := .A) C_Order_kept_many rfl fl_Order (ps_fld (pv 0) (de_v 1 (q := .A) rfl (pv 1)) rfl))
 (dss_cons (Γ1 := [.os (.ins 0 [.fz .A, .ow .A]), .fz .A, .fl .A, .no, .no, .no, .no]) (ds_sfo (T := (tb a_Order a_NoField a_NoCount a_NoPair)) (cl := 0) (i := 0) (ms := [.fz .A]) (q := .A) C_Order_kept_lows rfl fl_Order (ps_fld (pv 0) (de_lst (q := .A) dq_nil) rfl))
 (dss_one (Γ1 := [.os (.ins 0 [.fz .A, .ow .A]), .fz .A, .fl .A, .no, .no, .no, .no]) (ds_for (cl := [3, 6, 4, 5]) (Γ1 := [.os (.ins 0 [.fz .A, .ow .A]), .fz .A, .fl .A, .fz .A, .no, .no, .no]) PassesOwn.never rfl (di_range1 (q := .A) (by rfl) z_range (de_v 1 (q := .A) rfl (pv 1))) (pg_name (i := 3) sc_Order_init.nd rfl (by first | exact Or.inl rfl | exact Or.inr rfl)) (tgs_n (q := .A) (by decide)) (dss_cons (Γ1 := [.os (.ins 0 [.fz .A, .ow .A]), .fz .A, .fl .A, .fz .A, .no, .no, .fz .A]) (ds_set (i := 6) (q := .A) sc_Order_init.nd rfl (by first | exact Or.inl rfl | exact Or.inr rfl) (de_int (q := .A)))
 (dss_cons (Γ1 := [.os (.ins 0 [.fz .A, .ow .A]), .fz .A, .fl .A, .fz .A, .no, .no, .fz .A]) (ds_for (cl := [4, 5]) (Γ1 := [.os (.ins 0 [.fz .A, .ow .A]), .fz .A, .fl .A, .fz .A, .fz .A, .fz .A, .fz .A]) PassesOwn.never rfl (di_listf (de_vl 2 (q := .A) rfl (pv 2))) (pg_tup rfl (pgs_cons (pg_name (i := 4) sc_Order_init.nd rfl (by first | exact Or.inl rfl | exact Or.inr rfl)) (pgs_cons (pg_name (i := 5) sc_Order_init.nd rfl (by first | exact Or.inl rfl | exact Or.inr rfl)) pgs_nil))) (tgs_t (is := [4, 5]) (q := .A) (by decide)) (dss_one (Γ1 := [.os (.ins 0 [.fz .A, .ow .A]), .fz .A, .fl .A, .fz .A, .fz .A, .fz .A, .fz .A]) (ds_if (Γn := [.os (.ins 0 [.fz .A, .ow .A]), .fz .A, .fl .A, .fz .A, .fz .A, .fz .A, .fz .A]) (dt_cmp op_eq (de_v 5 (q := .A) rfl (pv 5)) (de_v 3 (q := .A) rfl (pv 3)) (nomark _) (cs_eqS rfl)) (dss_one (Γ1 := [.os (.ins 0 [.fz .A, .ow .A]), .fz .A, .fl .A, .fz .A, .fz .A, .fz .A, .fz .A]) (ds_set (i := 6) (q := .A) sc_Order_init.nd rfl (by first | exact Or.inl rfl | exact Or.inr rfl) (de_or (q := .A) (de_or (q := .A) (de_v 6 (q := .A) rfl (pv 6)) (de_call o_bit_of hr (by rfl) (da_cons (de_v 4 (q := .A) rfl (pv 4)) da_nil) (aCons_len aNil_len))) (de_ix (de_sfo (q := .A) C_Order_kept_lows rfl rfl (pe_fld (pv 0) rfl)) (de_v 4 (q := .A) rfl (pv 4))))) rfl) (dss_nil rfl)) rfl) (by decide))
 (dss_one (Γ1 := [.os (.ins 0 [.fz .A, .ow .A]), .fz .A, .fl .A, .fz .A, .no, .no, .fz .A]) (ds_sfa (q := .A) C_Order_kept_lows rfl rfl (by decide) (pe_bm PySem.F.plainAttrs_list PySem.F.slot_list_append PySem.F.type_list_append mt_append (pe_fld (pv 0) rfl) (pa_cons (de_v 6 (q := .A) rfl (pv 6)) pa_nil))) rfl))) (by decide)) rfl)))))
theorem ok_order_of_cells (F : FtF K mg "order_of_cells" "order_of_cells" (topS 20) ["cells"]) (o_Order_init : OkC P w K mg base (tb a_Order a_NoField a_NoCount a_NoPair) 2 0 "Order" 2 den_Order_init .L) (z_enumerate : mg "enumerate" = none) (z_range : mg "range" = none) (z_len : mg "len" = none) : OkF P w K mg base (tb a_Order a_NoField a_NoCount a_NoPair) 4 "order_of_cells" ["cells"] den_order_of_cells (.q .L) :=
 mk_okf (k := 3) (Γn := [.fl .A, .no, .no, .no, .no]) F sc_order_of_cells rfl rfl (fun _ => ⟨_, rfl⟩) fun f cdv A outer s H E hr =>
 (dss_cons (Γ1 := [.fl .A, .ow .A, .no, .no, .no]) (ds_seto (i := 1) (q := .A) sc_order_of_cells.nd rfl (by first | exact Or.inl rfl | exact Or.inr rfl) (de_lst (q := .A) dq_nil))
 (dss_cons (Γ1 := [.fl .A, .ow .A, .no, .no, .no]) (ds_for (cl := [2, 3, 4]) (Γ1 := [.fl .A, .ow .A, .fz .A, .fz .A, .no]) PassesOwn.never rfl (di_enum (q := .A) (by rfl) z_enumerate (de_vl 0 (q := .A) rfl (pv 0))) (pg_tup rfl (pgs_cons (pg_name (i := 2) sc_order_of_cells.nd rfl (by first | exact Or.inl rfl | exact Or.inr rfl)) (pgs_cons (pg_name (i := 3) sc_order_of_cells.nd rfl (by first | exact Or.inl rfl | exact Or.inr rfl)) pgs_nil))) (tgs_t (is := [2, 3]) (q := .A) (by decide)) (dss_one (Γ1 := [.fl .A, .ow .A, .fz .A, .fz .A, .no]) (ds_for (cl := [4]) (Γ1 := [.fl .A, .ow .A, .fz .A, .fz .A, .fz .A]) PassesOwn.never rfl (di_range1 (q := .A) (by rfl) z_range (de_v 2 (q := .A) rfl (pv 2))) (pg_name (i := 4) sc_order_of_cells.nd rfl (by first | exact Or.inl rfl | exact Or.inr rfl)) (tgs_n (q := .A) (by decide)) (dss_one (Γ1 := [.fl .A, .ow .A, .fz .A, .fz .A, .fz .A]) (ds_if (Γn := [.fl .A, .ow .A, .fz .A, .fz .A, .fz .A]) (dt_cmp (op_inD (hr65 hr)) (de_ix (de_vl 0 (q := .A) rfl (pv 0)) (de_v 4 (q := .A) rfl (pv 4))) (de_lst (q := .A) (dq_cons (q := .A) (de_tup (q := .A) (dq_cons (q := .A) (de_sub (q := .A) (de_ixt (de_v 3 (q := .A) rfl (pv 3)) (de_int (q := .A))) (de_int (q := .A))) (dq_cons (q := .A) (de_ixt (de_v 3 (q := .A) rfl (pv 3)) (de_int (q := .A))) dq_nil))) (dq_cons (q := .A) (de_tup (q := .A) (dq_cons (q := .A) (de_ixt (de_v 3 (q := .A) rfl (pv 3)) (de_int (q := .A))) (dq_cons (q := .A) (de_sub (q := .A) (de_ixt (de_v 3 (q := .A) rfl (pv 3)) (de_int (q := .A))) (de_int (q := .A))) dq_nil))) dq_nil))) (by rfl) (cs_inD rfl)) (dss_one (Γ1 := [.fl .A, .ow .A, .fz .A, .fz .A, .fz .A]) (ds_append 1 (q := .A) rfl (pe_bm PySem.F.plainAttrs_list PySem.F.slot_list_append PySem.F.type_list_append mt_append (pv 1) (pa_cons (de_tup (q := .A) (dq_cons (q := .A) (de_v 4 (q := .A) rfl (pv 4)) (dq_cons (q := .A) (de_v 2 (q := .A) rfl (pv 2)) dq_nil))) pa_nil))) rfl) (dss_nil rfl)) rfl) (by decide)) rfl) (by decide))
 (dss_one (Γ1 := [.fl .A, .no, .no, .no, .no]) (ds_ret (q := .L) (de_make (cl := 0) o_Order_init hr (by rfl) (da_cons (de_len (q := .A) (by rfl) z_len (de_vl 0 (q := .A) rfl (pv 0))) (da_cons (de_vo 1 (q := .A) rfl (pv 1)) da_nil)) (aCons_len (aCons_len aNil_len)))) rfl)))
theorem ok_field (F : FtF K mg "field" "field" (topS 21) ["a", "b"]) (o_look_at_field : OkF P w K mg base (tb a_Order a_NoField a_NoCount a_NoPair) 1 "look_at_field" ["a", "b"] den_look_at_field (.q .A)) (o_order_of_cells : OkF P w K mg base (tb a_Order a_NoField a_NoCount a_NoPair) 4 "order_of_cells" ["cells"] den_order_of_cells (.q .L)) (z_range : mg "range" = none) : OkF P w K mg base (tb a_Order a_NoField a_NoCount a_NoPair) 5 "field" ["a", "b"] den_field (.q .L) :=
 mk_okf (k := 4) (Γn := [.fz .A, .fz .A, .no, .no, .no]) F sc_field rfl rfl (fun _ => ⟨_, rfl⟩) fun f cdv A outer s H E hr =>
 (dss_cons (Γ1 := [.fz .A, .fz .A, .no, .no, .no]) (ds_drop (de_call o_look_at_field hr (by rfl) (da_cons (de_v 0 (q := .A) rfl (pv 0)) (da_cons (de_v 1 (q := .A) rfl (pv 1)) da_nil)) (aCons_len (aCons_len aNil_len))))
 (dss_cons (Γ1 := [.fz .A, .fz .A, .ow .A, .no, .no]) (ds_seto (i := 2) (q := .A) sc_field.nd rfl (by first | exact Or.inl rfl | exact Or.inr rfl) (de_lst (q := .A) dq_nil))
 (dss_cons (Γ1 := [.fz .A, .fz .A, .ow .A, .no, .no]) (ds_for (cl := [3, 4]) (Γ1 := [.fz .A, .fz .A, .ow .A, .fz .A, .no]) PassesOwn.never rfl (di_range1 (q := .A) (by rfl) z_range (de_v 0 (q := .A) rfl (pv 0))) (pg_name (i := 3) sc_field.nd rfl (by first | exact Or.inl rfl | exact Or.inr rfl)) (tgs_n (q := .A) (by decide)) (dss_one (Γ1 := [.fz .A, .fz .A, .ow .A, .fz .A, .no]) (ds_extend 2 (q := .A) rfl rfl (pe_bm PySem.F.plainAttrs_list PySem.F.slot_list_extend PySem.F.type_list_extend mt_extend (pv 2) (pa_cons (de_comp (p := .A) (Γ1 := [.fz .A, .fz .A, .ow .A, .fz .A, .fz .A]) (own := [("column", 4)]) rfl sc_field.nd (di_range1 (q := .A) (by rfl) z_range (de_v 1 (q := .A) rfl (pv 1))) (blkOk_by (N := nm_field) (sc := defScope (topS 21)) (own := [("column", 4)]) (by first | decide +kernel | kernel_rfl | rfl)) (fun _ _ _ _ _ => (pg_name (i := 4) sc_field.nd rfl (by first | exact Or.inl rfl | exact Or.inr rfl))) (tgs_n (q := .A) (by decide)) (fun _ _ _ _ _ => pts_no) (fun _ _ _ _ _ => (de_tup (q := .A) (dq_cons (q := .A) (de_v 3 (q := .A) rfl (pv 3)) (dq_cons (q := .A) (de_v 4 (q := .A) rfl (pv 4)) dq_nil)))) (by decide) (by decide)) pa_nil))) rfl) (by decide))
 (dss_one (Γ1 := [.fz .A, .fz .A, .no, .no, .no]) (ds_ret (q := .L) (de_call o_order_of_cells hr (by rfl) (da_cons (de_vo 2 (q := .A) rfl (pv 2)) da_nil) (aCons_len aNil_len))) rfl))))
theorem ok_lengths_ahead (F : FtF K mg "lengths_ahead" "lengths_ahead" (topS 25) ["a", "b"]) (o_folded : OkF P w K mg base (tb a_Order a_NoField a_NoCount a_NoPair) 1 "folded" ["poly", "m"] den_folded (.ol .A)) (o_by_size : OkF P w K mg base (tb a_Order a_NoField a_NoCount a_NoPair) 4 "by_size" ["order"] den_by_size (.ol .A)) (o_field : OkF P w K mg base (tb a_Order a_NoField a_NoCount a_NoPair) 5 "field" ["a", "b"] den_field (.q .L)) (z_range : mg "range" = none) (z_sum : mg "sum" = none) : OkF P w K mg base (tb a_Order a_NoField a_NoCount a_NoPair) 6 "lengths_ahead" ["a", "b"] den_lengths_ahead (.q .L) :=
 mk_okf (k := 5) (Γn := [.fz .A, .fz .A, .no, .no, .no, .no, .no, .no, .no, .no]) F sc_lengths_ahead rfl rfl (fun _ => ⟨_, rfl⟩) fun f cdv A outer s H E hr =>
 (dss_cons (Γ1 := [.fz .A, .fz .A, .fz .A, .no, .no, .no, .no, .no, .no, .no]) (ds_set (i := 2) (q := .A) sc_lengths_ahead.nd rfl (by first | exact Or.inl rfl | exact Or.inr rfl) (de_add (q := .A) (de_v 0 (q := .A) rfl (pv 0)) (de_v 1 (q := .A) rfl (pv 1))))
 (dss_cons (Γ1 := [.fz .A, .fz .A, .fz .A, .ow .A, .no, .no, .no, .no, .no, .no]) (ds_seto (i := 3) (q := .A) sc_lengths_ahead.nd rfl (by first | exact Or.inl rfl | exact Or.inr rfl) (de_call o_folded hr (by rfl) (da_cons (de_call o_by_size hr (by rfl) (da_cons (de_call o_field hr (by rfl) (da_cons (de_v 0 (q := .A) rfl (pv 0)) (da_cons (de_v 1 (q := .A) rfl (pv 1)) da_nil)) (aCons_len (aCons_len aNil_len))) da_nil) (aCons_len aNil_len)) (da_cons (de_v 2 (q := .A) rfl (pv 2)) da_nil)) (aCons_len (aCons_len aNil_len))))
 (dss_cons (Γ1 := [.fz .A, .fz .A, .fz .A, .ow .A, .os (.dic .A), .no, .no, .no, .no, .no]) (ds_dnewK (i := 4) (q := .A) sc_lengths_ahead.nd rfl (by first | exact Or.inl rfl | exact Or.inr rfl))
 (dss_cons (Γ1 := [.fz .A, .fz .A, .fz .A, .ow .A, .os (.dic .A), .no, .no, .no, .no, .no]) (ds_for (cl := [5, 8, 9]) (Γ1 := [.fz .A, .fz .A, .fz .A, .ow .A, .os (.dic .A), .fz .A, .no, .no, .no, .no]) PassesOwn.never rfl (di_range2 (q := .A) (by rfl) z_range (de_int (q := .A)) (de_add (q := .A) (de_v 2 (q := .A) rfl (pv 2)) (de_int (q := .A)))) (pg_name (i := 5) sc_lengths_ahead.nd rfl (by first | exact Or.inl rfl | exact Or.inr rfl)) (tgs_n (q := .A) (by decide)) (dss_one (Γ1 := [.fz .A, .fz .A, .fz .A, .ow .A, .os (.dic .A), .fz .A, .no, .no, .no, .no]) (ds_if (Γn := [.fz .A, .fz .A, .fz .A, .ow .A, .os (.dic .A), .fz .A, .no, .no, .no, .no]) (dt_cmp op_eq (de_mod (q := .A) (de_v 2 (q := .A) rfl (pv 2)) (de_v 5 (q := .A) rfl (pv 5))) (de_int (q := .A)) (nomark _) (cs_eqS rfl)) (dss_clr (cl := [8, 9]) (dss_cons (Γ1 := [.fz .A, .fz .A, .fz .A, .ow .A, .os (.dic .A), .fz .A, .no, .no, .fz .A, .no]) (ds_lockK 4 (q := .A) rfl rfl rfl rfl nob_set fun _ => (ds_set (i := 8) (q := .A) sc_lengths_ahead.nd rfl (by first | exact Or.inl rfl | exact Or.inr rfl) (de_sum (q := .A) rfl (by rfl) z_sum (de_comp (p := .A) (Γ1 := [.fz .A, .fz .A, .fz .A, .ow .A, .os (.ldk .A), .fz .A, .no, .no, .no, .fz .A]) (own := [("other", 9)]) rfl sc_lengths_ahead.nd (di_keys 4 (q := .A) (p := .A) rfl (pv 4)) (blkOk_by (N := nm_lengths_ahead) (sc := defScope (topS 25)) (own := [("other", 9)]) (by first | decide +kernel | kernel_rfl | rfl)) (fun _ _ _ _ _ => (pg_name (i := 9) sc_lengths_ahead.nd rfl (by first | exact Or.inl rfl | exact Or.inr rfl))) (tgs_n (q := .A) (by decide)) (fun _ _ _ _ _ => (pts_one (dt_cmp op_eq (de_mod (q := .A) (de_v 5 (q := .A) rfl (pv 5)) (de_v 9 (q := .A) rfl (pv 9))) (de_int (q := .A)) (nomark _) (cs_eqS rfl)))) (fun _ _ _ _ _ => (de_dget (q := .A) (dd_lk 4 (q := .A) rfl (pv 4)) (de_v 9 (q := .A) rfl (pv 9)) (rblk hr))) (by decide) (by decide)))))
 (dss_one (Γ1 := [.fz .A, .fz .A, .fz .A, .ow .A, .os (.dic .A), .fz .A, .no, .no, .fz .A, .no]) (ds_dput 4 (q := .A) (.inl rfl) (de_sub (q := .A) (de_ix (de_vo 3 (q := .A) rfl (pv 3)) (de_mod (q := .A) (de_v 5 (q := .A) rfl (pv 5)) (de_v 2 (q := .A) rfl (pv 2)))) (de_v 8 (q := .A) rfl (pv 8))) (pv 4) (de_v 5 (q := .A) rfl (pv 5)) hr) rfl)) (by decide)) (dss_clr (cl := [8, 9]) (dss_nil rfl) (by decide))) rfl) (by decide))
 (dss_cons (Γ1 := [.fz .A, .fz .A, .fz .A, .ow .A, .os (.dic .A), .no, .os (.dic .A), .no, .no, .no]) (ds_dnewK (i := 6) (q := .A) sc_lengths_ahead.nd rfl (by first | exact Or.inl rfl | exact Or.inr rfl))
 (dss_cons (Γ1 := [.fz .A, .fz .A, .fz .A, .ow .A, .os (.dic .A), .no, .os (.dic .A), .no, .no, .no]) (ds_lockK 4 (q := .A) rfl rfl rfl rfl nob_for fun _ => (ds_for (cl := [5, 7]) (Γ1 := [.fz .A, .fz .A, .fz .A, .ow .A, .os (.ldk .A), .fz .A, .os (.dic .A), .fz .A, .no, .no]) PassesOwn.never rfl (di_items 4 (q := .A) rfl (pv 4)) (pg_tup rfl (pgs_cons (pg_name (i := 5) sc_lengths_ahead.nd rfl (by first | exact Or.inl rfl | exact Or.inr rfl)) (pgs_cons (pg_name (i := 7) sc_lengths_ahead.nd rfl (by first | exact Or.inl rfl | exact Or.inr rfl)) pgs_nil))) (tgs_t (is := [5, 7]) (q := .A) (by decide)) (dss_one (Γ1 := [.fz .A, .fz .A, .fz .A, .ow .A, .os (.ldk .A), .fz .A, .os (.dic .A), .fz .A, .no, .no]) (ds_if (Γn := [.fz .A, .fz .A, .fz .A, .ow .A, .os (.ldk .A), .fz .A, .os (.dic .A), .fz .A, .no, .no]) (dt_cmp op_ne (de_v 7 (q := .A) rfl (pv 7)) (de_int (q := .A)) (nomark _) (cs_neS rfl)) (dss_one (Γ1 := [.fz .A, .fz .A, .fz .A, .ow .A, .os (.ldk .A), .fz .A, .os (.dic .A), .fz .A, .no, .no]) (ds_dput 6 (q := .A) (.inl rfl) (de_v 7 (q := .A) rfl (pv 7)) (pv 6) (de_div (q := .A) (de_v 2 (q := .A) rfl (pv 2)) (de_v 5 (q := .A) rfl (pv 5))) hr) rfl) (dss_nil rfl)) rfl) (by decide)))
 (dss_one (Γ1 := [.fz .A, .fz .A, .no, .no, .no, .no, .no, .no, .no, .no]) (ds_wk (Γ1 := [.fz .A, .fz .A, .fz .A, .ow .A, .os (.dic .A), .no, .fz .L, .no, .no, .no]) rfl (ds_ret (q := .L) (de_v 6 (q := .L) rfl (pv 6)))) rfl)))))))
theorem fn_law {f : Addr} {fd : FuncData} (F : Fun K "law" "law" (topS 33) f fd) (o__law_cell : OkF P w K mg base (tb a_Order a_NoField a_NoCount a_NoPair) 1 "_law_cell" ["_law_script", "_law_k"] den__law_cell (.q .A)) (o_lengths_ahead_X : OkFX P w K mg base (tb a_Order a_NoField a_NoCount a_NoPair) 7 "lengths_ahead" ["a", "b"] den_lengths_ahead_X (.od (.dic .A))) (o__law_whole : OkF P w K mg base (tb a_Order a_NoField a_NoCount a_NoPair) 1 "_law_whole" ["_law_found"] den__law_whole (.q .A)) (o__law_lengths : OkF P w K mg base (tb a_Order a_NoField a_NoCount a_NoPair) 2 "_law_lengths" ["_law_below"] den__law_lengths (.q .L)) (o__law_below_of : OkF P w K mg base (tb a_Order a_NoField a_NoCount a_NoPair) 1 "_law_below_of" ["_law_a", "_law_b", "_law_thing"] den__law_below_of (.ol .A)) (o_lengths_ahead : OkF P w K mg base (tb a_Order a_NoField a_NoCount a_NoPair) 6 "lengths_ahead" ["a", "b"] den_lengths_ahead (.q .L)) (m_ToggleError : mg "ToggleError" = some (.ref a_ToggleError)) (xm_NoField_ToggleError : PySem.W.exmOne K (.ref a_NoField) (.ref a_ToggleError) = some true) (xm_NoPair_ToggleError : PySem.W.exmOne K (.ref a_NoPair) (.ref a_ToggleError) = some true) (xm_NoCount_ToggleError : PySem.W.exmOne K (.ref a_NoCount) (.ref a_ToggleError) = some true) (z_isinstance : mg "isinstance" = none) (m_NoField : mg "NoField" = some (.ref a_NoField)) (X_NoField : L2.ExcC K a_NoField) (kt_NoField_NoField : PySem.W.kitOne K (.ref a_NoField) (.ref a_NoField) = some true) (X_NoPair : L2.ExcC K a_NoPair) (kt_NoPair_NoField : PySem.W.kitOne K (.ref a_NoPair) (.ref a_NoField) = some false) (X_NoCount : L2.ExcC K a_NoCount) (kt_NoCount_NoField : PySem.W.kitOne K (.ref a_NoCount) (.ref a_NoField) = some false) (kn_NoField : PySem.W.kitOne K (.type "NoneType") (.ref a_NoField) = some false) (z_ValueError : mg "ValueError" = none) (kt_NoField_ValueError : PySem.W.kitOne K (.ref a_NoField) (.type "ValueError") = some true) (kt_NoPair_ValueError : PySem.W.kitOne K (.ref a_NoPair) (.type "ValueError") = some true) (kt_NoCount_ValueError : PySem.W.kitOne K (.ref a_NoCount) (.type "ValueError") = some true) (kn_ValueError : PySem.W.kitOne K (.type "NoneType") (.type "ValueError") = some false) (m_NoNumber : mg "NoNumber" = some (.ref a_NoNumber)) (kt_NoField_NoNumber : PySem.W.kitOne K (.ref a_NoField) (.ref a_NoNumber) = some false) (kt_NoPair_NoNumber : PySem.W.kitOne K (.ref a_NoPair) (.ref a_NoNumber) = some false) (kt_NoCount_NoNumber : PySem.W.kitOne K (.ref a_NoCount) (.ref a_NoNumber) = some false) (kn_NoNumber : PySem.W.kitOne K (.type "NoneType") (.ref a_NoNumber) = some false) (z_dict : mg "dict" = none) (z_range : mg "range" = none) : FnOk P w K mg base CX0 8 f fd ["_law_script"] (spD K (tb a_Order a_NoField a_NoCount a_NoPair) 1 den_law (.q .A)) :=
 fn_body (k := 7) (Γn := [.fz .U, .no, .no, .no, .no, .no, .no, .no, .no]) F sc_law rfl rfl (fun _ => ⟨_, rfl⟩) fun f cdv A outer s H E hr =>
 (dss_cons (Γ1 := [.fz .U, .fz .A, .no, .no, .no, .no, .no, .no, .no]) (ds_set (i := 1) (q := .A) sc_law.nd rfl (by first | exact Or.inl rfl | exact Or.inr rfl) (de_sub (q := .A) (de_mod (q := .A) (de_call o__law_cell hr (by rfl) (da_cons (de_v 0 (q := .U) rfl (pv 0)) (da_cons (de_int (q := .A)) da_nil)) (aCons_len (aCons_len aNil_len))) (de_int (q := .A))) (de_int (q := .A))))
 (dss_cons (Γ1 := [.fz .U, .fz .A, .fz .A, .no, .no, .no, .no, .no, .no]) (ds_set (i := 2) (q := .A) sc_law.nd rfl (by first | exact Or.inl rfl | exact Or.inr rfl) (de_sub (q := .A) (de_mod (q := .A) (de_call o__law_cell hr (by rfl) (da_cons (de_v 0 (q := .U) rfl (pv 0)) (da_cons (de_int (q := .A)) da_nil)) (aCons_len (aCons_len aNil_len))) (de_int (q := .A))) (de_int (q := .A))))
 (dss_cons (Γ1 := [.fz .U, .fz .A, .fz .A, .no, .no, .no, .no, .no, .no]) (ds_if (Γn := [.fz .U, .fz .A, .fz .A, .no, .no, .no, .no, .no, .no]) (dt_cmp op_gt (de_mod (q := .A) (de_call o__law_cell hr (by rfl) (da_cons (de_v 0 (q := .U) rfl (pv 0)) (da_cons (de_int (q := .A)) da_nil)) (aCons_len (aCons_len aNil_len))) (de_int (q := .A))) (de_int (q := .A)) (nomark _) (cs_gt rfl)) (dss_cons (Γ1 := [.fz .U, .fz .A, .fz .A, .no, .no, .no, .no, .no, .no]) (ds_set (i := 1) (q := .A) sc_law.nd rfl (by first | exact Or.inl rfl | exact Or.inr rfl) (de_add (q := .A) (de_int (q := .A)) (de_mod (q := .A) (de_call o__law_cell hr (by rfl) (da_cons (de_v 0 (q := .U) rfl (pv 0)) (da_cons (de_int (q := .A)) da_nil)) (aCons_len (aCons_len aNil_len))) (de_int (q := .A)))))
 (dss_cons (Γ1 := [.fz .U, .fz .A, .fz .A, .no, .no, .no, .no, .no, .no]) (ds_set (i := 2) (q := .A) sc_law.nd rfl (by first | exact Or.inl rfl | exact Or.inr rfl) (de_add (q := .A) (de_int (q := .A)) (de_mod (q := .A) (de_call o__law_cell hr (by rfl) (da_cons (de_v 0 (q := .U) rfl (pv 0)) (da_cons (de_int (q := .A)) da_nil)) (aCons_len (aCons_len aNil_len))) (de_div (q := .A) (de_int (q := .A)) (de_v 1 (q := .A) rfl (pv 1))))))
 (dss_one (Γ1 := [.fz .U, .fz .A, .fz .A, .no, .no, .no, .no, .no, .no]) (ds_if (Γn := [.fz .U, .fz .A, .fz .A, .no, .no, .no, .no, .no, .no]) (dt_cmp op_eq (de_mod (q := .A) (de_div (q := .A) (de_call o__law_cell hr (by rfl) (da_cons (de_v 0 (q := .U) rfl (pv 0)) (da_cons (de_int (q := .A)) da_nil)) (aCons_len (aCons_len aNil_len))) (de_int (q := .A))) (de_int (q := .A))) (de_int (q := .A)) (nomark _) (cs_eqS rfl)) (dss_one (Γ1 := [.fz .U, .fz .A, .fz .A, .no, .no, .no, .no, .no, .no]) (ds_tg (q := .A) (Γ1 := [.fz .U, .fz .A, .fz .A, .no, .no, .no, .no, .no, .no]) (de_tup (q := .A) (dq_cons (q := .A) (de_v 2 (q := .A) rfl (pv 2)) (dq_cons (q := .A) (de_v 1 (q := .A) rfl (pv 1)) dq_nil))) (pg_tup rfl (pgs_cons (pg_name (i := 1) sc_law.nd rfl (by first | exact Or.inl rfl | exact Or.inr rfl)) (pgs_cons (pg_name (i := 2) sc_law.nd rfl (by first | exact Or.inl rfl | exact Or.inr rfl)) pgs_nil))) (tgs_t (is := [1, 2]) (q := .A) (by decide))) rfl) (dss_nil rfl)) rfl))) (dss_nil rfl))
 (dss_cons (Γ1 := [.fz .U, .fz .A, .fz .A, .fz .A, .no, .no, .no, .no, .no]) (ds_set (i := 3) (q := .A) sc_law.nd rfl (by first | exact Or.inl rfl | exact Or.inr rfl) (de_non (q := .A)))
 (dss_cons (Γ1 := [.fz .U, .fz .A, .fz .A, .fz .A, .os (.odn .A), .no, .no, .no, .no]) (ds_setNd (i := 4) (q := .A) sc_law.nd rfl (by first | exact Or.inl rfl | exact Or.inr rfl) (de_non (q := .A)))
 (dss_cons (Γ1 := [.fz .U, .fz .A, .fz .A, .fz .A, .os (.odn .A), .no, .no, .no, .no]) (ds_try (Γx := [.fz .U, .fz .A, .fz .A, .fz .A, .os (.odn .A), .no, .no, .no, .no]) (Γn := [.fz .U, .fz .A, .fz .A, .fz .A, .os (.odn .A), .no, .no, .no, .no]) rfl rfl sc_law.nd rfl (fun W pn xe tk PO => (dss_one (Γ1 := [.fz .U, .fz .A, .fz .A, .fz .A, .os (.dic .A), .no, .no, .no, .no]) (ds_callodX (i := 4) sc_law.nd rfl (by first | exact Or.inl rfl | exact Or.inr rfl) o_lengths_ahead_X tk hr (by rfl) (da_cons (de_v 1 (q := .A) rfl (pv 1)) (da_cons (de_v 2 (q := .A) rfl (pv 2)) da_nil)) (aCons_len (aCons_len aNil_len)) rfl) rfl)) (HOk.cons (yes := [8, 9, 18]) (no := []) (i := 5) (Γg := [.fz .U, .fz .A, .fz .A, .fz .A, .os (.odn .A), .fz .A, .no, .no, .no]) ⟨rfl, by decide, .inl m_ToggleError⟩ (allc xm_NoCount_ToggleError (allc xm_NoPair_ToggleError (allc xm_NoField_ToggleError alln))) alln rfl rfl (by decide) (fun a pn => (dss_one (Γ1 := [.fz .U, .fz .A, .fz .A, .fz .A, .os (.odn .A), .fz .A, .no, .no, .no]) (ds_set (i := 3) (q := .A) sc_law.nd rfl (by first | exact Or.inl rfl | exact Or.inr rfl) (de_v 5 (q := .A) rfl (pv 5))) rfl)) rfl
 HOk.nil) (List.cons_ne_nil _ _))
 (dss_cons (Γ1 := [.fz .U, .fz .A, .fz .A, .fz .A, .os (.odn .A), .no, .no, .no, .no]) (ds_if (Γn := [.fz .U, .fz .A, .fz .A, .fz .A, .os (.odn .A), .no, .no, .no, .no]) (PW.pt (dw_or (dt_cmp op_lt (de_v 1 (q := .A) rfl (pv 1)) (de_int (q := .A)) (nomark _) (cs_lt rfl)) (dw_or (dt_cmp op_lt (de_v 2 (q := .A) rfl (pv 2)) (de_int (q := .A)) (nomark _) (cs_lt rfl)) (dw_or1 (dt_cmp op_gt (de_mul (q := .A) (de_v 1 (q := .A) rfl (pv 1)) (de_v 2 (q := .A) rfl (pv 2))) (de_int (q := .A)) (nomark _) (cs_gt rfl)))))) (dss_one (Γ1 := [.fz .U, .fz .A, .fz .A, .fz .A, .os (.odn .A), .no, .no, .no, .no]) (ds_ret (q := .A) (de_andV (q := .A) (de_isC (q := .A) (ti := []) (te := [(8, false), (9, false), (18, true)]) (nn := (some false)) (cv := (.ref a_NoField)) (by rfl) z_isinstance (.own a_NoField) alln (allc ⟨X_NoCount, kt_NoCount_NoField⟩ (allc ⟨X_NoPair, kt_NoPair_NoField⟩ (allc ⟨X_NoField, kt_NoField_NoField⟩ alln))) (fun _ h => by cases h; exact kn_NoField) (de_v 3 (q := .A) rfl (pv 3)) (pe_glob (by rfl) m_NoField rfl)) (de_andV (q := .A) (de_isC (q := .A) (ti := []) (te := [(8, true), (9, true), (18, true)]) (nn := (some false)) (cv := (.type "ValueError")) (by rfl) z_isinstance (.ty "ValueError") alln (allc ⟨X_NoCount, kt_NoCount_ValueError⟩ (allc ⟨X_NoPair, kt_NoPair_ValueError⟩ (allc ⟨X_NoField, kt_NoField_ValueError⟩ alln))) (fun _ h => by cases h; exact kn_ValueError) (de_v 3 (q := .A) rfl (pv 3)) (pe_bltn (v := .ty "ValueError") (by rfl) z_ValueError (by decide +kernel) rfl)) (de_one (de_notV (q := .A) (de_isC (q := .A) (ti := []) (te := [(8, false), (9, false), (18, false)]) (nn := (some false)) (cv := (.ref a_NoNumber)) (by rfl) z_isinstance (.own a_NoNumber) alln (allc ⟨X_NoCount, kt_NoCount_NoNumber⟩ (allc ⟨X_NoPair, kt_NoPair_NoNumber⟩ (allc ⟨X_NoField, kt_NoField_NoNumber⟩ alln))) (fun _ h => by cases h; exact kn_NoNumber) (de_v 3 (q := .A) rfl (pv 3)) (pe_glob (by rfl) m_NoNumber rfl))))))) rfl) (dss_nil rfl))
 (dss_cons (Γ1 := [.fz .U, .fz .A, .fz .A, .fz .A, .os (.odn .A), .no, .no, .no, .no]) (ds_if (Γn := [.fz .U, .fz .A, .fz .A, .fz .A, .os (.odn .A), .no, .no, .no, .no]) (PW.pt (dw_or (dt_cmp op_notN (de_v 3 (q := .A) rfl (pv 3)) (de_non (q := .A)) (nomark _) (cs_not0 rfl)) (dw_or1 (dt_not (dt_val (de_isi (q := .A) (by rfl) z_isinstance (de_vs 4 rfl (pv 4)) (pe_bltn (v := .ty "dict") (by rfl) z_dict (by decide +kernel) rfl))))))) (dss_one (Γ1 := [.fz .U, .fz .A, .fz .A, .fz .A, .os (.odn .A), .no, .no, .no, .no]) (ds_ret (q := .A) (de_bl (q := .A))) rfl) (dss_nil rfl))
 (dss_narw (i := 4) (q := .A) rfl (dss_cons (Γ1 := [.fz .U, .fz .A, .fz .A, .fz .A, .os (.dic .A), .no, .no, .no, .no]) (ds_lockK 4 (q := .A) rfl rfl rfl rfl nob_for fun _ => (ds_for (cl := [6]) (Γ1 := [.fz .U, .fz .A, .fz .A, .fz .A, .os (.ldk .A), .no, .fz .A, .no, .no]) PassesOwn.never rfl (di_keys 4 (q := .A) (p := .A) rfl (pv 4)) (pg_name (i := 6) sc_law.nd rfl (by first | exact Or.inl rfl | exact Or.inr rfl)) (tgs_n (q := .A) (by decide)) (dss_one (Γ1 := [.fz .U, .fz .A, .fz .A, .fz .A, .os (.ldk .A), .no, .fz .A, .no, .no]) (ds_if (Γn := [.fz .U, .fz .A, .fz .A, .fz .A, .os (.ldk .A), .no, .fz .A, .no, .no]) (PW.pt (dw_or (dt_not (dt_val (de_call o__law_whole hr (by rfl) (da_cons (de_v 6 (q := .A) rfl (pv 6)) da_nil) (aCons_len aNil_len)))) (dw_or1 (dt_not (dt_val (de_call o__law_whole hr (by rfl) (da_cons (de_dget (q := .A) (dd_lk 4 (q := .A) rfl (pv 4)) (de_v 6 (q := .A) rfl (pv 6)) hr) da_nil) (aCons_len aNil_len))))))) (dss_one (Γ1 := [.fz .U, .fz .A, .fz .A, .fz .A, .os (.ldk .A), .no, .fz .A, .no, .no]) (ds_ret (q := .A) (de_bl (q := .A))) rfl) (dss_nil rfl)) rfl) (by decide)))
 (dss_cons (Γ1 := [.fz .U, .fz .A, .fz .A, .fz .A, .os (.dic .A), .no, .no, .fz .L, .no]) (ds_set (i := 7) (q := .L) sc_law.nd rfl (by first | exact Or.inl rfl | exact Or.inr rfl) (de_call o__law_lengths hr (by rfl) (da_cons (de_comp (p := .L) (Γ1 := [.fz .U, .fz .A, .fz .A, .fz .A, .os (.dic .A), .no, .no, .no, .fz .A]) (own := [("_law_thing", 8)]) rfl sc_law.nd (di_range1 (q := .A) (by rfl) z_range (de_mul (q := .A) (de_v 1 (q := .A) rfl (pv 1)) (de_v 2 (q := .A) rfl (pv 2)))) (blkOk_by (N := nm_law) (sc := defScope (topS 33)) (own := [("_law_thing", 8)]) (by first | decide +kernel | kernel_rfl | rfl)) (fun _ _ _ _ _ => (pg_name (i := 8) sc_law.nd rfl (by first | exact Or.inl rfl | exact Or.inr rfl))) (tgs_n (q := .A) (by decide)) (fun _ _ _ _ _ => pts_no) (fun _ _ _ _ _ => (de_oq (q := .L) (de_call o__law_below_of (rblk hr) (by rfl) (da_cons (de_v 1 (q := .A) rfl (pv 1)) (da_cons (de_v 2 (q := .A) rfl (pv 2)) (da_cons (de_v 8 (q := .A) rfl (pv 8)) da_nil))) (aCons_len (aCons_len (aCons_len aNil_len)))))) (by decide) (by decide)) da_nil) (aCons_len aNil_len)))
 (dss_cons (Γ1 := [.fz .U, .fz .A, .fz .A, .fz .A, .os (.dic .A), .no, .no, .fz .L, .no]) (ds_if (Γn := [.fz .U, .fz .A, .fz .A, .fz .A, .os (.dic .A), .no, .no, .fz .L, .no]) (dt_cmp (op_neDI hr.units) (de_vs 4 rfl (pv 4)) (de_v 7 (q := .L) rfl (pv 7)) (nomark _) (cs_neDI rfl)) (dss_one (Γ1 := [.fz .U, .fz .A, .fz .A, .fz .A, .os (.dic .A), .no, .no, .fz .L, .no]) (ds_ret (q := .A) (de_bl (q := .A))) rfl) (dss_nil rfl))
 (dss_cons (Γ1 := [.fz .U, .fz .A, .fz .A, .fz .A, .os (.dic .A), .no, .no, .fz .L, .no]) (ds_clearD 4 (q := .A) rfl (pe_dclear (pv 4)))
 (dss_one (Γ1 := [.fz .U, .no, .no, .no, .no, .no, .no, .no, .no]) (ds_ret (q := .A) (de_cmp (q := .A) (op_eqDI hr.units) (de_call o_lengths_ahead hr (by rfl) (da_cons (de_v 1 (q := .A) rfl (pv 1)) (da_cons (de_v 2 (q := .A) rfl (pv 2)) da_nil)) (aCons_len (aCons_len aNil_len))) (de_v 7 (q := .L) rfl (pv 7)) (nomark _) (cs_eqDI rfl))) rfl))))))))))))))
end
theorem all_mk {l : PySem.W.OpenLaw} {w : World} {K : PySem.W.Frag} {h : Heap} {mg : Str → Option Value} {fa : Addr} (X : K.In h) (G : h.Ns mainGlobals mg) (hfa : mg "law" = some (.ref fa))
 (hφ : ∀ ns : List Int, ns.length ≤ 63 → den_law [.scr (ns.map .int)] = some (.bl true))
 {a_ToggleError : Addr}
 {a_NoNumber : Addr}
 {a_NoField : Addr}
 {a_NoCount : Addr}
 {a_NoPair : Addr}
 (a_c_ToggleError : PySem.W.nsIn K mainGlobals "ToggleError" = some (some (.ref a_ToggleError)))
 (a_c_NoNumber : PySem.W.nsIn K mainGlobals "NoNumber" = some (some (.ref a_NoNumber)))
 (a_c_NoField : PySem.W.nsIn K mainGlobals "NoField" = some (some (.ref a_NoField)))
 (a_c_NoCount : PySem.W.nsIn K mainGlobals "NoCount" = some (some (.ref a_NoCount)))
 (a_c_NoPair : PySem.W.nsIn K mainGlobals "NoPair" = some (some (.ref a_NoPair)))
 {a_Order : Addr}
 (a_c_Order : PySem.W.nsIn K mainGlobals "Order" = some (some (.ref a_Order))) (pg_Order : PySem.W.plainGet K a_Order Str.empty = true) (hd_Order : PySem.W.hasDictIn K a_Order = true) (po_Order : PySem.W.plainOver K a_Order = true) (sa_Order : PySem.W.findIn K (.ref a_Order) "__setattr__" = some (some (.builtin "object.__setattr__"))) (mk_Order : PySem.W.makesIn K a_Order = true) (kc_Order : PySem.W.keepIn K (.ref a_Order) = true)
 (xs_NoField : PySem.W.subIn K (.ref a_NoField) (.type "BaseException") = some true)
 (xy_NoField : PySem.W.typeIn K (.ref a_NoField) = some (.type "type"))
 (xk_NoField : PySem.W.keepIn K (.ref a_NoField) = true)
 (xi_NoField : PySem.W.excIn K a_NoField [.type "ValueError", .type "Exception", .type "BaseException", .type "object"] "ValueError.__new__" = true)
 (xs_NoCount : PySem.W.subIn K (.ref a_NoCount) (.type "BaseException") = some true)
 (xy_NoCount : PySem.W.typeIn K (.ref a_NoCount) = some (.type "type"))
 (xk_NoCount : PySem.W.keepIn K (.ref a_NoCount) = true)
 {nm_NoCount q_NoCount : Str} {N_NoCount : Addr} {bs_NoCount bm_NoCount : List Value} {sn_NoCount : List Str} {su_NoCount : List Value} {ab_NoCount : Bool} {co_NoCount : Option Bool} {dd_NoCount : Option Addr} {m0_NoCount m1_NoCount m2_NoCount m3_NoCount m5_NoCount : Option Value}
 (xl_NoCount : K.lookup a_NoCount = some (excClassObj nm_NoCount q_NoCount a_NoCount N_NoCount bs_NoCount bm_NoCount true sn_NoCount su_NoCount ab_NoCount co_NoCount dd_NoCount m0_NoCount m1_NoCount m2_NoCount m3_NoCount m5_NoCount "ValueError.__new__"))
 (rv_NoCount : PySem.HandSPX.refsVE bm_NoCount = true)
 (xe_NoCount : PySem.W.findIn K (.ref a_NoCount) "__setattr__" = some (some (.builtin "object.__setattr__")))
 (xf_NoCount_number : PySem.W.findIn K (.ref a_NoCount) "number" = some none)
 {f_NoCount_init : Addr} {od_NoCount_init an_NoCount_init : Option Addr} {sl_NoCount_init : Array (Option Value)} {oc_NoCount_init kV_NoCount_init dc_NoCount_init pm_NoCount_init ct_NoCount_init cd_NoCount_init : Value}
 (a_NoCount_init : PySem.W.findIn K (.ref a_NoCount) "__init__" = some (some (.ref f_NoCount_init)))
 (ty_NoCount_init : PySem.W.typeIn K (.ref f_NoCount_init) = some (.type "function"))
 (l_NoCount_init : K.lookup f_NoCount_init = some ⟨oc_NoCount_init, od_NoCount_init, .func (PySem.W.fnOf "__init__" "NoCount.__init__" (defArgs (inClass (topS 3) 0)) (defBody (inClass (topS 3) 0)) (defScope (inClass (topS 3) 0)) .none kV_NoCount_init dc_NoCount_init pm_NoCount_init an_NoCount_init cd_NoCount_init ct_NoCount_init), sl_NoCount_init⟩)
 (c_NoCount_init : PySem.W.codeIn K cd_NoCount_init "NoCount.__init__" = true)
 (k_NoCount_init : PySem.W.keepIn K (.ref f_NoCount_init) = true)
 (xs_NoPair : PySem.W.subIn K (.ref a_NoPair) (.type "BaseException") = some true)
 (xy_NoPair : PySem.W.typeIn K (.ref a_NoPair) = some (.type "type"))
 (xk_NoPair : PySem.W.keepIn K (.ref a_NoPair) = true)
 {nm_NoPair q_NoPair : Str} {N_NoPair : Addr} {bs_NoPair bm_NoPair : List Value} {sn_NoPair : List Str} {su_NoPair : List Value} {ab_NoPair : Bool} {co_NoPair : Option Bool} {dd_NoPair : Option Addr} {m0_NoPair m1_NoPair m2_NoPair m3_NoPair m5_NoPair : Option Value}
 (xl_NoPair : K.lookup a_NoPair = some (excClassObj nm_NoPair q_NoPair a_NoPair N_NoPair bs_NoPair bm_NoPair true sn_NoPair su_NoPair ab_NoPair co_NoPair dd_NoPair m0_NoPair m1_NoPair m2_NoPair m3_NoPair m5_NoPair "ValueError.__new__"))
 (rv_NoPair : PySem.HandSPX.refsVE bm_NoPair = true)
 (xe_NoPair : PySem.W.findIn K (.ref a_NoPair) "__setattr__" = some (some (.builtin "object.__setattr__")))
 (xf_NoPair_low : PySem.W.findIn K (.ref a_NoPair) "low" = some none)
 (xf_NoPair_high : PySem.W.findIn K (.ref a_NoPair) "high" = some none)
 {f_NoPair_init : Addr} {od_NoPair_init an_NoPair_init : Option Addr} {sl_NoPair_init : Array (Option Value)} {oc_NoPair_init kV_NoPair_init dc_NoPair_init pm_NoPair_init ct_NoPair_init cd_NoPair_init : Value}
 (a_NoPair_init : PySem.W.findIn K (.ref a_NoPair) "__init__" = some (some (.ref f_NoPair_init)))
 (ty_NoPair_init : PySem.W.typeIn K (.ref f_NoPair_init) = some (.type "function"))
 (l_NoPair_init : K.lookup f_NoPair_init = some ⟨oc_NoPair_init, od_NoPair_init, .func (PySem.W.fnOf "__init__" "NoPair.__init__" (defArgs (inClass (topS 4) 0)) (defBody (inClass (topS 4) 0)) (defScope (inClass (topS 4) 0)) .none kV_NoPair_init dc_NoPair_init pm_NoPair_init an_NoPair_init cd_NoPair_init ct_NoPair_init), sl_NoPair_init⟩)
 (c_NoPair_init : PySem.W.codeIn K cd_NoPair_init "NoPair.__init__" = true)
 (k_NoPair_init : PySem.W.keepIn K (.ref f_NoPair_init) = true)
 (xm_NoField_ToggleError : PySem.W.exmOne K (.ref a_NoField) (.ref a_ToggleError) = some true)
 (xm_NoPair_ToggleError : PySem.W.exmOne K (.ref a_NoPair) (.ref a_ToggleError) = some true)
 (xm_NoCount_ToggleError : PySem.W.exmOne K (.ref a_NoCount) (.ref a_ToggleError) = some true)
 (xa_NoField : PySem.W.findIn K (.ref a_NoField) "__getattribute__" = some (some (.builtin "BaseException.__getattribute__")))
 (xb_NoField : PySem.W.findIn K (.ref a_NoField) "__getattr__" = some none)
 (xd_NoField : PySem.W.hasDictIn K a_NoField = true)
 (xc_NoField : PySem.W.findIn K (.ref a_NoField) "__class__" = some (some (.builtin "object.__class__")))
 (xg : PySem.W.specialIn K (.builtin "object.__class__") "__get__" = some (some (.builtin "getset_descriptor.__get__")))
 (xt : PySem.W.takesIn K (.builtin "object.__class__") = some true)
 (xo_NoField : PySem.W.mroIn K a_NoField (.type "object") = some true)
 (kt_NoField_NoField : PySem.W.kitOne K (.ref a_NoField) (.ref a_NoField) = some true)
 (xa_NoPair : PySem.W.findIn K (.ref a_NoPair) "__getattribute__" = some (some (.builtin "BaseException.__getattribute__")))
 (xb_NoPair : PySem.W.findIn K (.ref a_NoPair) "__getattr__" = some none)
 (xd_NoPair : PySem.W.hasDictIn K a_NoPair = true)
 (xc_NoPair : PySem.W.findIn K (.ref a_NoPair) "__class__" = some (some (.builtin "object.__class__")))
 (xo_NoPair : PySem.W.mroIn K a_NoPair (.type "object") = some true)
 (kt_NoPair_NoField : PySem.W.kitOne K (.ref a_NoPair) (.ref a_NoField) = some false)
 (xa_NoCount : PySem.W.findIn K (.ref a_NoCount) "__getattribute__" = some (some (.builtin "BaseException.__getattribute__")))
 (xb_NoCount : PySem.W.findIn K (.ref a_NoCount) "__getattr__" = some none)
 (xd_NoCount : PySem.W.hasDictIn K a_NoCount = true)
 (xc_NoCount : PySem.W.findIn K (.ref a_NoCount) "__class__" = some (some (.builtin "object.__class__")))
 (xo_NoCount : PySem.W.mroIn K a_NoCount (.type "object") = some true)
 (kt_NoCount_NoField : PySem.W.kitOne K (.ref a_NoCount) (.ref a_NoField) = some false)
 (kn_NoField : PySem.W.kitOne K (.type "NoneType") (.ref a_NoField) = some false)
 (kt_NoField_ValueError : PySem.W.kitOne K (.ref a_NoField) (.type "ValueError") = some true)
 (kt_NoPair_ValueError : PySem.W.kitOne K (.ref a_NoPair) (.type "ValueError") = some true)
 (kt_NoCount_ValueError : PySem.W.kitOne K (.ref a_NoCount) (.type "ValueError") = some true)
 (kn_ValueError : PySem.W.kitOne K (.type "NoneType") (.type "ValueError") = some false)
 (kt_NoField_NoNumber : PySem.W.kitOne K (.ref a_NoField) (.ref a_NoNumber) = some false)
 (kt_NoPair_NoNumber : PySem.W.kitOne K (.ref a_NoPair) (.ref a_NoNumber) = some false)
 (kt_NoCount_NoNumber : PySem.W.kitOne K (.ref a_NoCount) (.ref a_NoNumber) = some false)
 (kn_NoNumber : PySem.W.kitOne K (.type "NoneType") (.ref a_NoNumber) = some false)
 (n_Order_kept_many : PySem.W.findIn K (.ref a_Order) "kept_many" = some none)
 (n_Order_kept_lows : PySem.W.findIn K (.ref a_Order) "kept_lows" = some none)
 {f__law_cell : Addr} {od__law_cell an__law_cell : Option Addr} {sl__law_cell : Array (Option Value)} {oc__law_cell kV__law_cell dc__law_cell pm__law_cell ct__law_cell : Value} {cd__law_cell : Value}
 (a__law_cell : PySem.W.nsIn K mainGlobals "_law_cell" = some (some (.ref f__law_cell)))
 (l__law_cell : K.lookup f__law_cell = some ⟨oc__law_cell, od__law_cell, .func (PySem.W.fnOf "_law_cell" "_law_cell" (defArgs (topS 27)) (defBody (topS 27)) (defScope (topS 27)) .none kV__law_cell dc__law_cell pm__law_cell an__law_cell cd__law_cell ct__law_cell), sl__law_cell⟩) (c__law_cell : PySem.W.codeIn K cd__law_cell "_law_cell" = true) (k__law_cell : PySem.W.keepIn K (.ref f__law_cell) = true)
 {f_look_at_field : Addr} {od_look_at_field an_look_at_field : Option Addr} {sl_look_at_field : Array (Option Value)} {oc_look_at_field kV_look_at_field dc_look_at_field pm_look_at_field ct_look_at_field : Value} {cd_look_at_field : Value}
 (a_look_at_field : PySem.W.nsIn K mainGlobals "look_at_field" = some (some (.ref f_look_at_field)))
 (l_look_at_field : K.lookup f_look_at_field = some ⟨oc_look_at_field, od_look_at_field, .func (PySem.W.fnOf "look_at_field" "look_at_field" (defArgs (topS 19)) (defBody (topS 19)) (defScope (topS 19)) .none kV_look_at_field dc_look_at_field pm_look_at_field an_look_at_field cd_look_at_field ct_look_at_field), sl_look_at_field⟩) (c_look_at_field : PySem.W.codeIn K cd_look_at_field "look_at_field" = true) (k_look_at_field : PySem.W.keepIn K (.ref f_look_at_field) = true)
 {f_bit_of : Addr} {od_bit_of an_bit_of : Option Addr} {sl_bit_of : Array (Option Value)} {oc_bit_of kV_bit_of dc_bit_of pm_bit_of ct_bit_of : Value} {cd_bit_of : Value}
 (a_bit_of : PySem.W.nsIn K mainGlobals "bit_of" = some (some (.ref f_bit_of)))
 (l_bit_of : K.lookup f_bit_of = some ⟨oc_bit_of, od_bit_of, .func (PySem.W.fnOf "bit_of" "bit_of" (defArgs (topS 11)) (defBody (topS 11)) (defScope (topS 11)) .none kV_bit_of dc_bit_of pm_bit_of an_bit_of cd_bit_of ct_bit_of), sl_bit_of⟩) (c_bit_of : PySem.W.codeIn K cd_bit_of "bit_of" = true) (k_bit_of : PySem.W.keepIn K (.ref f_bit_of) = true)
 {f_Order_init : Addr} {od_Order_init an_Order_init : Option Addr} {sl_Order_init : Array (Option Value)} {oc_Order_init kV_Order_init dc_Order_init pm_Order_init ct_Order_init : Value} {cd_Order_init : Value}
 (a_Order_init : PySem.W.findIn K (.ref a_Order) "__init__" = some (some (.ref f_Order_init))) (i_Order_init : PySem.W.isFn K (.ref f_Order_init) = true)
 (l_Order_init : K.lookup f_Order_init = some ⟨oc_Order_init, od_Order_init, .func (PySem.W.fnOf "__init__" "Order.__init__" (defArgs (inClass (topS 12) 0)) (defBody (inClass (topS 12) 0)) (defScope (inClass (topS 12) 0)) .none kV_Order_init dc_Order_init pm_Order_init an_Order_init cd_Order_init ct_Order_init), sl_Order_init⟩) (c_Order_init : PySem.W.codeIn K cd_Order_init "Order.__init__" = true) (k_Order_init : PySem.W.keepIn K (.ref f_Order_init) = true)
 {f_order_of_cells : Addr} {od_order_of_cells an_order_of_cells : Option Addr} {sl_order_of_cells : Array (Option Value)} {oc_order_of_cells kV_order_of_cells dc_order_of_cells pm_order_of_cells ct_order_of_cells : Value} {cd_order_of_cells : Value}
 (a_order_of_cells : PySem.W.nsIn K mainGlobals "order_of_cells" = some (some (.ref f_order_of_cells)))
 (l_order_of_cells : K.lookup f_order_of_cells = some ⟨oc_order_of_cells, od_order_of_cells, .func (PySem.W.fnOf "order_of_cells" "order_of_cells" (defArgs (topS 20)) (defBody (topS 20)) (defScope (topS 20)) .none kV_order_of_cells dc_order_of_cells pm_order_of_cells an_order_of_cells cd_order_of_cells ct_order_of_cells), sl_order_of_cells⟩) (c_order_of_cells : PySem.W.codeIn K cd_order_of_cells "order_of_cells" = true) (k_order_of_cells : PySem.W.keepIn K (.ref f_order_of_cells) = true)
 {f_field : Addr} {od_field an_field : Option Addr} {sl_field : Array (Option Value)} {oc_field kV_field dc_field pm_field ct_field : Value} {cd_field : Value}
 (a_field : PySem.W.nsIn K mainGlobals "field" = some (some (.ref f_field)))
 (l_field : K.lookup f_field = some ⟨oc_field, od_field, .func (PySem.W.fnOf "field" "field" (defArgs (topS 21)) (defBody (topS 21)) (defScope (topS 21)) .none kV_field dc_field pm_field an_field cd_field ct_field), sl_field⟩) (c_field : PySem.W.codeIn K cd_field "field" = true) (k_field : PySem.W.keepIn K (.ref f_field) = true)
 {f_Order_size : Addr} {od_Order_size an_Order_size : Option Addr} {sl_Order_size : Array (Option Value)} {oc_Order_size kV_Order_size dc_Order_size pm_Order_size ct_Order_size : Value} {cd_Order_size : Value}
 (a_Order_size : PySem.W.findIn K (.ref a_Order) "size" = some (some (.ref f_Order_size))) (i_Order_size : PySem.W.isFn K (.ref f_Order_size) = true)
 (l_Order_size : K.lookup f_Order_size = some ⟨oc_Order_size, od_Order_size, .func (PySem.W.fnOf "size" "Order.size" (defArgs (inClass (topS 12) 1)) (defBody (inClass (topS 12) 1)) (defScope (inClass (topS 12) 1)) .none kV_Order_size dc_Order_size pm_Order_size an_Order_size cd_Order_size ct_Order_size), sl_Order_size⟩) (c_Order_size : PySem.W.codeIn K cd_Order_size "Order.size" = true) (k_Order_size : PySem.W.keepIn K (.ref f_Order_size) = true)
 {f_Order_lows_of : Addr} {od_Order_lows_of an_Order_lows_of : Option Addr} {sl_Order_lows_of : Array (Option Value)} {oc_Order_lows_of kV_Order_lows_of dc_Order_lows_of pm_Order_lows_of ct_Order_lows_of : Value} {cd_Order_lows_of : Value}
 (a_Order_lows_of : PySem.W.findIn K (.ref a_Order) "lows_of" = some (some (.ref f_Order_lows_of))) (i_Order_lows_of : PySem.W.isFn K (.ref f_Order_lows_of) = true)
 (l_Order_lows_of : K.lookup f_Order_lows_of = some ⟨oc_Order_lows_of, od_Order_lows_of, .func (PySem.W.fnOf "lows_of" "Order.lows_of" (defArgs (inClass (topS 12) 3)) (defBody (inClass (topS 12) 3)) (defScope (inClass (topS 12) 3)) .none kV_Order_lows_of dc_Order_lows_of pm_Order_lows_of an_Order_lows_of cd_Order_lows_of ct_Order_lows_of), sl_Order_lows_of⟩) (c_Order_lows_of : PySem.W.codeIn K cd_Order_lows_of "Order.lows_of" = true) (k_Order_lows_of : PySem.W.keepIn K (.ref f_Order_lows_of) = true)
 {f_has_lows : Addr} {od_has_lows an_has_lows : Option Addr} {sl_has_lows : Array (Option Value)} {oc_has_lows kV_has_lows dc_has_lows pm_has_lows ct_has_lows : Value} {cd_has_lows : Value}
 (a_has_lows : PySem.W.nsIn K mainGlobals "has_lows" = some (some (.ref f_has_lows)))
 (l_has_lows : K.lookup f_has_lows = some ⟨oc_has_lows, od_has_lows, .func (PySem.W.fnOf "has_lows" "has_lows" (defArgs (topS 15)) (defBody (topS 15)) (defScope (topS 15)) .none kV_has_lows dc_has_lows pm_has_lows an_has_lows cd_has_lows ct_has_lows), sl_has_lows⟩) (c_has_lows : PySem.W.codeIn K cd_has_lows "has_lows" = true) (k_has_lows : PySem.W.keepIn K (.ref f_has_lows) = true)
 {f_downsets : Addr} {od_downsets an_downsets : Option Addr} {sl_downsets : Array (Option Value)} {oc_downsets kV_downsets dc_downsets pm_downsets ct_downsets : Value} {cd_downsets : Value}
 (a_downsets : PySem.W.nsIn K mainGlobals "downsets" = some (some (.ref f_downsets)))
 (l_downsets : K.lookup f_downsets = some ⟨oc_downsets, od_downsets, .func (PySem.W.fnOf "downsets" "downsets" (defArgs (topS 16)) (defBody (topS 16)) (defScope (topS 16)) .none kV_downsets dc_downsets pm_downsets an_downsets cd_downsets ct_downsets), sl_downsets⟩) (c_downsets : PySem.W.codeIn K cd_downsets "downsets" = true) (k_downsets : PySem.W.keepIn K (.ref f_downsets) = true)
 {f_things_of : Addr} {od_things_of an_things_of : Option Addr} {sl_things_of : Array (Option Value)} {oc_things_of kV_things_of dc_things_of pm_things_of ct_things_of : Value} {cd_things_of : Value}
 (a_things_of : PySem.W.nsIn K mainGlobals "things_of" = some (some (.ref f_things_of)))
 (l_things_of : K.lookup f_things_of = some ⟨oc_things_of, od_things_of, .func (PySem.W.fnOf "things_of" "things_of" (defArgs (topS 14)) (defBody (topS 14)) (defScope (topS 14)) .none kV_things_of dc_things_of pm_things_of an_things_of cd_things_of ct_things_of), sl_things_of⟩) (c_things_of : PySem.W.codeIn K cd_things_of "things_of" = true) (k_things_of : PySem.W.keepIn K (.ref f_things_of) = true)
 {f_by_size : Addr} {od_by_size an_by_size : Option Addr} {sl_by_size : Array (Option Value)} {oc_by_size kV_by_size dc_by_size pm_by_size ct_by_size : Value} {cd_by_size : Value}
 (a_by_size : PySem.W.nsIn K mainGlobals "by_size" = some (some (.ref f_by_size)))
 (l_by_size : K.lookup f_by_size = some ⟨oc_by_size, od_by_size, .func (PySem.W.fnOf "by_size" "by_size" (defArgs (topS 23)) (defBody (topS 23)) (defScope (topS 23)) .none kV_by_size dc_by_size pm_by_size an_by_size cd_by_size ct_by_size), sl_by_size⟩) (c_by_size : PySem.W.codeIn K cd_by_size "by_size" = true) (k_by_size : PySem.W.keepIn K (.ref f_by_size) = true)
 {f_folded : Addr} {od_folded an_folded : Option Addr} {sl_folded : Array (Option Value)} {oc_folded kV_folded dc_folded pm_folded ct_folded : Value} {cd_folded : Value}
 (a_folded : PySem.W.nsIn K mainGlobals "folded" = some (some (.ref f_folded)))
 (l_folded : K.lookup f_folded = some ⟨oc_folded, od_folded, .func (PySem.W.fnOf "folded" "folded" (defArgs (topS 24)) (defBody (topS 24)) (defScope (topS 24)) .none kV_folded dc_folded pm_folded an_folded cd_folded ct_folded), sl_folded⟩) (c_folded : PySem.W.codeIn K cd_folded "folded" = true) (k_folded : PySem.W.keepIn K (.ref f_folded) = true)
 {f_lengths_ahead : Addr} {od_lengths_ahead an_lengths_ahead : Option Addr} {sl_lengths_ahead : Array (Option Value)} {oc_lengths_ahead kV_lengths_ahead dc_lengths_ahead pm_lengths_ahead ct_lengths_ahead : Value} {cd_lengths_ahead : Value}
 (a_lengths_ahead : PySem.W.nsIn K mainGlobals "lengths_ahead" = some (some (.ref f_lengths_ahead)))
 (l_lengths_ahead : K.lookup f_lengths_ahead = some ⟨oc_lengths_ahead, od_lengths_ahead, .func (PySem.W.fnOf "lengths_ahead" "lengths_ahead" (defArgs (topS 25)) (defBody (topS 25)) (defScope (topS 25)) .none kV_lengths_ahead dc_lengths_ahead pm_lengths_ahead an_lengths_ahead cd_lengths_ahead ct_lengths_ahead), sl_lengths_ahead⟩) (c_lengths_ahead : PySem.W.codeIn K cd_lengths_ahead "lengths_ahead" = true) (k_lengths_ahead : PySem.W.keepIn K (.ref f_lengths_ahead) = true)
 {f__law_whole : Addr} {od__law_whole an__law_whole : Option Addr} {sl__law_whole : Array (Option Value)} {oc__law_whole kV__law_whole dc__law_whole pm__law_whole ct__law_whole : Value} {cd__law_whole : Value}
 (a__law_whole : PySem.W.nsIn K mainGlobals "_law_whole" = some (some (.ref f__law_whole)))
 (l__law_whole : K.lookup f__law_whole = some ⟨oc__law_whole, od__law_whole, .func (PySem.W.fnOf "_law_whole" "_law_whole" (defArgs (topS 28)) (defBody (topS 28)) (defScope (topS 28)) .none kV__law_whole dc__law_whole pm__law_whole an__law_whole cd__law_whole ct__law_whole), sl__law_whole⟩) (c__law_whole : PySem.W.codeIn K cd__law_whole "_law_whole" = true) (k__law_whole : PySem.W.keepIn K (.ref f__law_whole) = true)
 {f__law_all : Addr} {od__law_all an__law_all : Option Addr} {sl__law_all : Array (Option Value)} {oc__law_all kV__law_all dc__law_all pm__law_all ct__law_all : Value} {cd__law_all : Value}
 (a__law_all : PySem.W.nsIn K mainGlobals "_law_all" = some (some (.ref f__law_all)))
 (l__law_all : K.lookup f__law_all = some ⟨oc__law_all, od__law_all, .func (PySem.W.fnOf "_law_all" "_law_all" (defArgs (topS 31)) (defBody (topS 31)) (defScope (topS 31)) .none kV__law_all dc__law_all pm__law_all an__law_all cd__law_all ct__law_all), sl__law_all⟩) (c__law_all : PySem.W.codeIn K cd__law_all "_law_all" = true) (k__law_all : PySem.W.keepIn K (.ref f__law_all) = true)
 {f__law_turned : Addr} {od__law_turned an__law_turned : Option Addr} {sl__law_turned : Array (Option Value)} {oc__law_turned kV__law_turned dc__law_turned pm__law_turned ct__law_turned : Value} {cd__law_turned : Value}
 (a__law_turned : PySem.W.nsIn K mainGlobals "_law_turned" = some (some (.ref f__law_turned)))
 (l__law_turned : K.lookup f__law_turned = some ⟨oc__law_turned, od__law_turned, .func (PySem.W.fnOf "_law_turned" "_law_turned" (defArgs (topS 30)) (defBody (topS 30)) (defScope (topS 30)) .none kV__law_turned dc__law_turned pm__law_turned an__law_turned cd__law_turned ct__law_turned), sl__law_turned⟩) (c__law_turned : PySem.W.codeIn K cd__law_turned "_law_turned" = true) (k__law_turned : PySem.W.keepIn K (.ref f__law_turned) = true)
 {f__law_lengths : Addr} {od__law_lengths an__law_lengths : Option Addr} {sl__law_lengths : Array (Option Value)} {oc__law_lengths kV__law_lengths dc__law_lengths pm__law_lengths ct__law_lengths : Value} {cd__law_lengths : Value}
 (a__law_lengths : PySem.W.nsIn K mainGlobals "_law_lengths" = some (some (.ref f__law_lengths)))
 (l__law_lengths : K.lookup f__law_lengths = some ⟨oc__law_lengths, od__law_lengths, .func (PySem.W.fnOf "_law_lengths" "_law_lengths" (defArgs (topS 32)) (defBody (topS 32)) (defScope (topS 32)) .none kV__law_lengths dc__law_lengths pm__law_lengths an__law_lengths cd__law_lengths ct__law_lengths), sl__law_lengths⟩) (c__law_lengths : PySem.W.codeIn K cd__law_lengths "_law_lengths" = true) (k__law_lengths : PySem.W.keepIn K (.ref f__law_lengths) = true)
 {f__law_below_of : Addr} {od__law_below_of an__law_below_of : Option Addr} {sl__law_below_of : Array (Option Value)} {oc__law_below_of kV__law_below_of dc__law_below_of pm__law_below_of ct__law_below_of : Value} {cd__law_below_of : Value}
 (a__law_below_of : PySem.W.nsIn K mainGlobals "_law_below_of" = some (some (.ref f__law_below_of)))
 (l__law_below_of : K.lookup f__law_below_of = some ⟨oc__law_below_of, od__law_below_of, .func (PySem.W.fnOf "_law_below_of" "_law_below_of" (defArgs (topS 29)) (defBody (topS 29)) (defScope (topS 29)) .none kV__law_below_of dc__law_below_of pm__law_below_of an__law_below_of cd__law_below_of ct__law_below_of), sl__law_below_of⟩) (c__law_below_of : PySem.W.codeIn K cd__law_below_of "_law_below_of" = true) (k__law_below_of : PySem.W.keepIn K (.ref f__law_below_of) = true)
 {f_law : Addr} {od_law an_law : Option Addr} {sl_law : Array (Option Value)} {oc_law kV_law dc_law pm_law ct_law : Value} {cd_law : Value}
 (a_law : PySem.W.nsIn K mainGlobals "law" = some (some (.ref f_law)))
 (l_law : K.lookup f_law = some ⟨oc_law, od_law, .func (PySem.W.fnOf "law" "law" (defArgs (topS 33)) (defBody (topS 33)) (defScope (topS 33)) .none kV_law dc_law pm_law an_law cd_law ct_law), sl_law⟩) (c_law : PySem.W.codeIn K cd_law "law" = true) (k_law : PySem.W.keepIn K (.ref f_law) = true)
 (y_len : PySem.W.nsIn K mainGlobals "len" = some none)
 (y_range : PySem.W.nsIn K mainGlobals "range" = some none)
 (y_enumerate : PySem.W.nsIn K mainGlobals "enumerate" = some none)
 (y_sum : PySem.W.nsIn K mainGlobals "sum" = some none)
 (y_isinstance : PySem.W.nsIn K mainGlobals "isinstance" = some none)
 (y_int : PySem.W.nsIn K mainGlobals "int" = some none)
 (y_bool : PySem.W.nsIn K mainGlobals "bool" = some none)
 (y_all : PySem.W.nsIn K mainGlobals "all" = some none)
 (y_sorted : PySem.W.nsIn K mainGlobals "sorted" = some none)
 (y_set : PySem.W.nsIn K mainGlobals "set" = some none)
 (y_ValueError : PySem.W.nsIn K mainGlobals "ValueError" = some none)
 (y_dict : PySem.W.nsIn K mainGlobals "dict" = some none)
 {t_MOST_THINGS_fields : Tok} (d_MOST_THINGS_fields : PySem.W.nsIn K mainGlobals "MOST_THINGS_fields" = some (some (.int 9 t_MOST_THINGS_fields)))
 {p_BITS : Addr} (d_BITS : PySem.W.nsIn K mainGlobals "BITS" = some (some (.ref p_BITS))) (r_BITS : TupK K p_BITS [1, 2, 4, 8, 16, 32, 64, 128, 256, 512])
 {t_MOST_THINGS_orders : Tok} (d_MOST_THINGS_orders : PySem.W.nsIn K mainGlobals "MOST_THINGS_orders" = some (some (.int 9 t_MOST_THINGS_orders))) :
 ∃ fd : FuncData, (∀ (s : Shared) (v : Value), BindsTo s fd ⟨[v], []⟩ [("_law_script", v)]) ∧ ∀ base : Heap, K.In base → base.Ns mainGlobals mg → FnOk l.prog w K mg base CX0 8 fa fd ["_law_script"] (spLaw K 63) := by
  have z_len := PySem.W.mg_none_of X G y_len
  have z_range := PySem.W.mg_none_of X G y_range
  have z_enumerate := PySem.W.mg_none_of X G y_enumerate
  have z_sum := PySem.W.mg_none_of X G y_sum
  have z_isinstance := PySem.W.mg_none_of X G y_isinstance
  have z_int := PySem.W.mg_none_of X G y_int
  have z_bool := PySem.W.mg_none_of X G y_bool
  have z_all := PySem.W.mg_none_of X G y_all
  have z_sorted := PySem.W.mg_none_of X G y_sorted
  have z_set := PySem.W.mg_none_of X G y_set
  have z_ValueError := PySem.W.mg_none_of X G y_ValueError
  have z_dict := PySem.W.mg_none_of X G y_dict
  have g_MOST_THINGS_fields := PySem.W.mg_of X G d_MOST_THINGS_fields
  have g_BITS := PySem.W.mg_of X G d_BITS
  have g_MOST_THINGS_orders := PySem.W.mg_of X G d_MOST_THINGS_orders
  have cl_Order : Cls K a_Order := ⟨pg_Order, hd_Order, po_Order, sa_Order⟩
  have C_Order_kept_many : ClsF K (tb a_Order a_NoField a_NoCount a_NoPair) 0 0 "kept_many" := ⟨cl_Order, n_Order_kept_many, rfl, fd_Order⟩
  have C_Order_kept_lows : ClsF K (tb a_Order a_NoField a_NoCount a_NoPair) 0 1 "kept_lows" := ⟨cl_Order, n_Order_kept_lows, rfl, fd_Order⟩
  have m_ToggleError := PySem.W.mg_of X G a_c_ToggleError
  have m_NoNumber := PySem.W.mg_of X G a_c_NoNumber
  have m_NoField := PySem.W.mg_of X G a_c_NoField
  have m_NoCount := PySem.W.mg_of X G a_c_NoCount
  have m_NoPair := PySem.W.mg_of X G a_c_NoPair
  have E_NoField : OkE0 K mg (tb a_Order a_NoField a_NoCount a_NoPair) 18 "NoField" := ⟨m_NoField, xk_NoField, xy_NoField, xs_NoField, ⟨_, xi_NoField, _, _, PySem.F.excBase_ValueError⟩, rfl⟩
  have X_NoField : L2.ExcC K a_NoField := ⟨xa_NoField, xb_NoField, xs_NoField, xd_NoField, xc_NoField, xg, xt, xo_NoField⟩
  have X_NoPair : L2.ExcC K a_NoPair := ⟨xa_NoPair, xb_NoPair, xs_NoPair, xd_NoPair, xc_NoPair, xg, xt, xo_NoPair⟩
  have X_NoCount : L2.ExcC K a_NoCount := ⟨xa_NoCount, xb_NoCount, xs_NoCount, xd_NoCount, xc_NoCount, xg, xt, xo_NoCount⟩
  have F__law_cell : FtF K mg "_law_cell" "_law_cell" (topS 27) ["_law_script", "_law_k"] := ft_mk X G ⟨_, _, _, _, _, _, _, _, _, _, a__law_cell, l__law_cell, c__law_cell, k__law_cell⟩ fun _ _ _ _ _ _ us hl => match us, hl with | [_, _], _ => rfl
  have F_look_at_field : FtF K mg "look_at_field" "look_at_field" (topS 19) ["a", "b"] := ft_mk X G ⟨_, _, _, _, _, _, _, _, _, _, a_look_at_field, l_look_at_field, c_look_at_field, k_look_at_field⟩ fun _ _ _ _ _ _ us hl => match us, hl with | [_, _], _ => rfl
  have F_bit_of : FtF K mg "bit_of" "bit_of" (topS 11) ["thing"] := ft_mk X G ⟨_, _, _, _, _, _, _, _, _, _, a_bit_of, l_bit_of, c_bit_of, k_bit_of⟩ fun _ _ _ _ _ _ us hl => match us, hl with | [_], _ => rfl
  have F_Order_init : FtI K mg (tb a_Order a_NoField a_NoCount a_NoPair) 0 "Order" "Order.__init__" (inClass (topS 12) 0) ["self", "many", "pairs"] := ⟨⟨f_Order_init, _, fun_mk l_Order_init c_Order_init k_Order_init, (fun_mk l_Order_init c_Order_init k_Order_init).binds (fun _ _ _ _ _ _ us hl => match us, hl with | [_, _, _], _ => rfl), ⟨mk_Order, a_Order_init, i_Order_init, kc_Order⟩⟩, PySem.W.mg_of X G a_c_Order⟩
  have F_order_of_cells : FtF K mg "order_of_cells" "order_of_cells" (topS 20) ["cells"] := ft_mk X G ⟨_, _, _, _, _, _, _, _, _, _, a_order_of_cells, l_order_of_cells, c_order_of_cells, k_order_of_cells⟩ fun _ _ _ _ _ _ us hl => match us, hl with | [_], _ => rfl
  have F_field : FtF K mg "field" "field" (topS 21) ["a", "b"] := ft_mk X G ⟨_, _, _, _, _, _, _, _, _, _, a_field, l_field, c_field, k_field⟩ fun _ _ _ _ _ _ us hl => match us, hl with | [_, _], _ => rfl
  have F_Order_size : FtM K (tb a_Order a_NoField a_NoCount a_NoPair) 0 "size" "Order.size" (inClass (topS 12) 1) ["self"] := ⟨⟨f_Order_size, _, fun_mk l_Order_size c_Order_size k_Order_size, (fun_mk l_Order_size c_Order_size k_Order_size).binds (fun _ _ _ _ _ _ us hl => match us, hl with | [_], _ => rfl), ⟨a_Order_size, i_Order_size, k_Order_size⟩⟩, cl_Order, no_Order_size⟩
  have F_Order_lows_of : FtM K (tb a_Order a_NoField a_NoCount a_NoPair) 0 "lows_of" "Order.lows_of" (inClass (topS 12) 3) ["self", "thing"] := ⟨⟨f_Order_lows_of, _, fun_mk l_Order_lows_of c_Order_lows_of k_Order_lows_of, (fun_mk l_Order_lows_of c_Order_lows_of k_Order_lows_of).binds (fun _ _ _ _ _ _ us hl => match us, hl with | [_, _], _ => rfl), ⟨a_Order_lows_of, i_Order_lows_of, k_Order_lows_of⟩⟩, cl_Order, no_Order_lows_of⟩
  have F_has_lows : FtF K mg "has_lows" "has_lows" (topS 15) ["order", "bits", "thing"] := ft_mk X G ⟨_, _, _, _, _, _, _, _, _, _, a_has_lows, l_has_lows, c_has_lows, k_has_lows⟩ fun _ _ _ _ _ _ us hl => match us, hl with | [_, _, _], _ => rfl
  have F_downsets : FtF K mg "downsets" "downsets" (topS 16) ["order"] := ft_mk X G ⟨_, _, _, _, _, _, _, _, _, _, a_downsets, l_downsets, c_downsets, k_downsets⟩ fun _ _ _ _ _ _ us hl => match us, hl with | [_], _ => rfl
  have F_things_of : FtF K mg "things_of" "things_of" (topS 14) ["bits"] := ft_mk X G ⟨_, _, _, _, _, _, _, _, _, _, a_things_of, l_things_of, c_things_of, k_things_of⟩ fun _ _ _ _ _ _ us hl => match us, hl with | [_], _ => rfl
  have F_by_size : FtF K mg "by_size" "by_size" (topS 23) ["order"] := ft_mk X G ⟨_, _, _, _, _, _, _, _, _, _, a_by_size, l_by_size, c_by_size, k_by_size⟩ fun _ _ _ _ _ _ us hl => match us, hl with | [_], _ => rfl
  have F_folded : FtF K mg "folded" "folded" (topS 24) ["poly", "m"] := ft_mk X G ⟨_, _, _, _, _, _, _, _, _, _, a_folded, l_folded, c_folded, k_folded⟩ fun _ _ _ _ _ _ us hl => match us, hl with | [_, _], _ => rfl
  have F_lengths_ahead : FtF K mg "lengths_ahead" "lengths_ahead" (topS 25) ["a", "b"] := ft_mk X G ⟨_, _, _, _, _, _, _, _, _, _, a_lengths_ahead, l_lengths_ahead, c_lengths_ahead, k_lengths_ahead⟩ fun _ _ _ _ _ _ us hl => match us, hl with | [_, _], _ => rfl
  have F__law_whole : FtF K mg "_law_whole" "_law_whole" (topS 28) ["_law_found"] := ft_mk X G ⟨_, _, _, _, _, _, _, _, _, _, a__law_whole, l__law_whole, c__law_whole, k__law_whole⟩ fun _ _ _ _ _ _ us hl => match us, hl with | [_], _ => rfl
  have F__law_all : FtF K mg "_law_all" "_law_all" (topS 31) ["_law_below"] := ft_mk X G ⟨_, _, _, _, _, _, _, _, _, _, a__law_all, l__law_all, c__law_all, k__law_all⟩ fun _ _ _ _ _ _ us hl => match us, hl with | [_], _ => rfl
  have F__law_turned : FtF K mg "_law_turned" "_law_turned" (topS 30) ["_law_below", "_law_things"] := ft_mk X G ⟨_, _, _, _, _, _, _, _, _, _, a__law_turned, l__law_turned, c__law_turned, k__law_turned⟩ fun _ _ _ _ _ _ us hl => match us, hl with | [_, _], _ => rfl
  have F__law_lengths : FtF K mg "_law_lengths" "_law_lengths" (topS 32) ["_law_below"] := ft_mk X G ⟨_, _, _, _, _, _, _, _, _, _, a__law_lengths, l__law_lengths, c__law_lengths, k__law_lengths⟩ fun _ _ _ _ _ _ us hl => match us, hl with | [_], _ => rfl
  have F__law_below_of : FtF K mg "_law_below_of" "_law_below_of" (topS 29) ["_law_a", "_law_b", "_law_thing"] := ft_mk X G ⟨_, _, _, _, _, _, _, _, _, _, a__law_below_of, l__law_below_of, c__law_below_of, k__law_below_of⟩ fun _ _ _ _ _ _ us hl => match us, hl with | [_, _, _], _ => rfl
  refine ft_law X G hfa ⟨_, _, _, _, _, _, _, _, _, _, a_law, l_law, c_law, k_law⟩ (fun _ _ _ _ _ _ s v => .of_eq rfl) fun fd base F => ?_
  have E_NoCount : OkE l.prog w K mg base (tb a_Order a_NoField a_NoCount a_NoPair) 8 "NoCount" ["number"] := ⟨⟨⟨_, _, _, _, _, _, _, _, _, _, _, _, _, _, _, xl_NoCount, rv_NoCount⟩, xe_NoCount, xs_NoCount, xy_NoCount, xk_NoCount⟩, m_NoCount, rfl, xf_NoCount_number, ⟨f_NoCount_init, _, ["self", "number"], a_NoCount_init, ty_NoCount_init, (fun_mk l_NoCount_init c_NoCount_init k_NoCount_init).binds (fun _ _ _ _ _ _ us hl => match us, hl with | [_, _], _ => rfl), fn_e1 (N := ["self", "number"]) (ps := ["self", "number"]) (fun_mk l_NoCount_init c_NoCount_init k_NoCount_init) ⟨rfl, rfl, rfl, by decide +kernel, rfl, by decide +kernel, by decide +kernel⟩ rfl fun f cdv A outer s H E => pss_one (ps_ost (pv 0) (pv 1))⟩⟩
  have E_NoPair : OkE l.prog w K mg base (tb a_Order a_NoField a_NoCount a_NoPair) 9 "NoPair" ["high", "low"] := ⟨⟨⟨_, _, _, _, _, _, _, _, _, _, _, _, _, _, _, xl_NoPair, rv_NoPair⟩, xe_NoPair, xs_NoPair, xy_NoPair, xk_NoPair⟩, m_NoPair, rfl, ⟨xf_NoPair_low, xf_NoPair_high⟩, ⟨f_NoPair_init, _, ["self", "low", "high"], a_NoPair_init, ty_NoPair_init, (fun_mk l_NoPair_init c_NoPair_init k_NoPair_init).binds (fun _ _ _ _ _ _ us hl => match us, hl with | [_, _, _], _ => rfl), fn_e2 (N := ["self", "low", "high"]) (ps := ["self", "low", "high"]) (fun_mk l_NoPair_init c_NoPair_init k_NoPair_init) ⟨rfl, rfl, rfl, by decide +kernel, rfl, by decide +kernel, by decide +kernel⟩ rfl fun f cdv A outer s H E => pss_cons (ps_ost (pv 0) (pv 1)) (pss_one (ps_ost (pv 0) (pv 2)))⟩⟩
  have o__law_cell := ok__law_cell (P := l.prog) (w := w) (base := base) (mg := mg) (a_Order := a_Order) (a_NoField := a_NoField) (a_NoCount := a_NoCount) (a_NoPair := a_NoPair) F__law_cell  z_len
  have o_look_at_field_X := ok_look_at_field_X (P := l.prog) (w := w) (base := base) (mg := mg) (a_Order := a_Order) (a_NoField := a_NoField) (a_NoCount := a_NoCount) (a_NoPair := a_NoPair) F_look_at_field  g_MOST_THINGS_fields E_NoField
  have o_bit_of := ok_bit_of (P := l.prog) (w := w) (base := base) (mg := mg) (a_Order := a_Order) (a_NoField := a_NoField) (a_NoCount := a_NoCount) (a_NoPair := a_NoPair) F_bit_of  g_BITS r_BITS
  have o_Order_init_X := ok_Order_init_X (P := l.prog) (w := w) (base := base) (mg := mg) (a_Order := a_Order) (a_NoField := a_NoField) (a_NoCount := a_NoCount) (a_NoPair := a_NoPair) F_Order_init  o_bit_of g_MOST_THINGS_orders E_NoCount E_NoPair C_Order_kept_many C_Order_kept_lows z_range
  have o_order_of_cells_X := ok_order_of_cells_X (P := l.prog) (w := w) (base := base) (mg := mg) (a_Order := a_Order) (a_NoField := a_NoField) (a_NoCount := a_NoCount) (a_NoPair := a_NoPair) F_order_of_cells  o_Order_init_X z_enumerate z_range z_len
  have o_field_X := ok_field_X (P := l.prog) (w := w) (base := base) (mg := mg) (a_Order := a_Order) (a_NoField := a_NoField) (a_NoCount := a_NoCount) (a_NoPair := a_NoPair) F_field  o_look_at_field_X o_order_of_cells_X z_range
  have o_Order_size := ok_Order_size (P := l.prog) (w := w) (base := base) (mg := mg) (a_Order := a_Order) (a_NoField := a_NoField) (a_NoCount := a_NoCount) (a_NoPair := a_NoPair) F_Order_size  C_Order_kept_many
  have o_Order_lows_of := ok_Order_lows_of (P := l.prog) (w := w) (base := base) (mg := mg) (a_Order := a_Order) (a_NoField := a_NoField) (a_NoCount := a_NoCount) (a_NoPair := a_NoPair) F_Order_lows_of  C_Order_kept_lows
  have o_has_lows := ok_has_lows (P := l.prog) (w := w) (base := base) (mg := mg) (a_Order := a_Order) (a_NoField := a_NoField) (a_NoCount := a_NoCount) (a_NoPair := a_NoPair) F_has_lows  o_Order_lows_of
  have o_downsets := ok_downsets (P := l.prog) (w := w) (base := base) (mg := mg) (a_Order := a_Order) (a_NoField := a_NoField) (a_NoCount := a_NoCount) (a_NoPair := a_NoPair) F_downsets  o_Order_size o_bit_of o_has_lows z_range
  have o_things_of := ok_things_of (P := l.prog) (w := w) (base := base) (mg := mg) (a_Order := a_Order) (a_NoField := a_NoField) (a_NoCount := a_NoCount) (a_NoPair := a_NoPair) F_things_of  z_range g_MOST_THINGS_orders g_BITS r_BITS
  have o_by_size := ok_by_size (P := l.prog) (w := w) (base := base) (mg := mg) (a_Order := a_Order) (a_NoField := a_NoField) (a_NoCount := a_NoCount) (a_NoPair := a_NoPair) F_by_size  o_Order_size o_downsets o_things_of z_range z_len
  have o_folded := ok_folded (P := l.prog) (w := w) (base := base) (mg := mg) (a_Order := a_Order) (a_NoField := a_NoField) (a_NoCount := a_NoCount) (a_NoPair := a_NoPair) F_folded  z_range z_enumerate
  have o_lengths_ahead_X := ok_lengths_ahead_X (P := l.prog) (w := w) (base := base) (mg := mg) (a_Order := a_Order) (a_NoField := a_NoField) (a_NoCount := a_NoCount) (a_NoPair := a_NoPair) F_lengths_ahead  o_field_X o_by_size o_folded z_range z_sum
  have o__law_whole := ok__law_whole (P := l.prog) (w := w) (base := base) (mg := mg) (a_Order := a_Order) (a_NoField := a_NoField) (a_NoCount := a_NoCount) (a_NoPair := a_NoPair) F__law_whole  z_isinstance z_int z_bool
  have o__law_all := ok__law_all (P := l.prog) (w := w) (base := base) (mg := mg) (a_Order := a_Order) (a_NoField := a_NoField) (a_NoCount := a_NoCount) (a_NoPair := a_NoPair) F__law_all  z_range z_len z_all
  have o__law_turned := ok__law_turned (P := l.prog) (w := w) (base := base) (mg := mg) (a_Order := a_Order) (a_NoField := a_NoField) (a_NoCount := a_NoCount) (a_NoPair := a_NoPair) F__law_turned  z_range z_len z_all z_sorted z_set
  have o__law_lengths := ok__law_lengths (P := l.prog) (w := w) (base := base) (mg := mg) (a_Order := a_Order) (a_NoField := a_NoField) (a_NoCount := a_NoCount) (a_NoPair := a_NoPair) F__law_lengths  o__law_all o__law_turned
  have o__law_below_of := ok__law_below_of (P := l.prog) (w := w) (base := base) (mg := mg) (a_Order := a_Order) (a_NoField := a_NoField) (a_NoCount := a_NoCount) (a_NoPair := a_NoPair) F__law_below_of  z_range
  have o_look_at_field := ok_look_at_field (P := l.prog) (w := w) (base := base) (mg := mg) (a_Order := a_Order) (a_NoField := a_NoField) (a_NoCount := a_NoCount) (a_NoPair := a_NoPair) F_look_at_field  g_MOST_THINGS_fields
  have o_Order_init := ok_Order_init (P := l.prog) (w := w) (base := base) (mg := mg) (a_Order := a_Order) (a_NoField := a_NoField) (a_NoCount := a_NoCount) (a_NoPair := a_NoPair) F_Order_init  o_bit_of g_MOST_THINGS_orders C_Order_kept_many C_Order_kept_lows z_range
  have o_order_of_cells := ok_order_of_cells (P := l.prog) (w := w) (base := base) (mg := mg) (a_Order := a_Order) (a_NoField := a_NoField) (a_NoCount := a_NoCount) (a_NoPair := a_NoPair) F_order_of_cells  o_Order_init z_enumerate z_range z_len
  have o_field := ok_field (P := l.prog) (w := w) (base := base) (mg := mg) (a_Order := a_Order) (a_NoField := a_NoField) (a_NoCount := a_NoCount) (a_NoPair := a_NoPair) F_field  o_look_at_field o_order_of_cells z_range
  have o_lengths_ahead := ok_lengths_ahead (P := l.prog) (w := w) (base := base) (mg := mg) (a_Order := a_Order) (a_NoField := a_NoField) (a_NoCount := a_NoCount) (a_NoPair := a_NoPair) F_lengths_ahead  o_folded o_by_size o_field z_range z_sum
  exact law_ok (fn_law (a_Order := a_Order) (a_NoField := a_NoField) (a_NoCount := a_NoCount) (a_NoPair := a_NoPair) F o__law_cell o_lengths_ahead_X o__law_whole o__law_lengths o__law_below_of o_lengths_ahead m_ToggleError xm_NoField_ToggleError xm_NoPair_ToggleError xm_NoCount_ToggleError z_isinstance m_NoField X_NoField kt_NoField_NoField X_NoPair kt_NoPair_NoField X_NoCount kt_NoCount_NoField kn_NoField z_ValueError kt_NoField_ValueError kt_NoPair_ValueError kt_NoCount_ValueError kn_ValueError m_NoNumber kt_NoField_NoNumber kt_NoPair_NoNumber kt_NoCount_NoNumber kn_NoNumber z_dict z_range) hφ
end Lw
open PySem PySem.W PyProof.Rows
set_option maxHeartbeats 0 in
theorem PySem.Challenge.cw_toggleclock_k86_whole_rounds_counted_ahe_holds : PySem.Challenge.rw_toggleclock_k86_whole_rounds_counted_ahe.Holds := by
  w_on; o_law; k_head; (case hw => w_witness2)
  k_fill
  refine L2.walk_of (l := PySem.Challenge.rw_toggleclock_k86_whole_rounds_counted_ahe) (n := 63) (k := 8) (x := "_law_script") (CX := fun _ => L2.CX0) (sp := fun w => DL.spLaw _ 63) rfl (by decide) rfl ⟨rfl, by decide, by decide⟩ (fun w h Y => PySem.W.kIn_of Y) ?F (fun _ _ a ns hl hO hS => DL.law_sp hl hO hS) (fun _ _ _ _ _ h => h)
  case F =>
    intro w mg fa h KX G hmg
    refine' Lw.all_mk KX G hmg Lw.law_true ?a_c_ToggleError ?a_c_NoNumber ?a_c_NoField ?a_c_NoCount ?a_c_NoPair ?a_c_Order ?pg_Order ?hd_Order ?po_Order ?sa_Order ?mk_Order ?kc_Order ?xs_NoField ?xy_NoField ?xk_NoField ?xi_NoField ?xs_NoCount ?xy_NoCount ?xk_NoCount ?xl_NoCount ?rv_NoCount ?xe_NoCount ?xf_NoCount_number ?a_NoCount_init ?ty_NoCount_init ?l_NoCount_init ?c_NoCount_init ?k_NoCount_init ?xs_NoPair ?xy_NoPair ?xk_NoPair ?xl_NoPair ?rv_NoPair ?xe_NoPair ?xf_NoPair_low ?xf_NoPair_high ?a_NoPair_init ?ty_NoPair_init ?l_NoPair_init ?c_NoPair_init ?k_NoPair_init ?xm_NoField_ToggleError ?xm_NoPair_ToggleError ?xm_NoCount_ToggleError ?xa_NoField ?xb_NoField ?xd_NoField ?xc_NoField ?xg ?xt ?xo_NoField ?kt_NoField_NoField ?xa_NoPair ?xb_NoPair ?xd_NoPair ?xc_NoPair ?xo_NoPair ?kt_NoPair_NoField ?xa_NoCount ?xb_NoCount ?xd_NoCount ?xc_NoCount ?xo_NoCount ?kt_NoCount_NoField ?kn_NoField ?kt_NoField_ValueError ?kt_NoPair_ValueError ?kt_NoCount_ValueError ?kn_ValueError ?kt_NoField_NoNumber ?kt_NoPair_NoNumber ?kt_NoCount_NoNumber ?kn_NoNumber ?n_Order_kept_many ?n_Order_kept_lows ?a__law_cell ?l__law_cell ?c__law_cell ?k__law_cell ?a_look_at_field ?l_look_at_field ?c_look_at_field ?k_look_at_field ?a_bit_of ?l_bit_of ?c_bit_of ?k_bit_of ?a_Order_init ?i_Order_init ?l_Order_init ?c_Order_init ?k_Order_init ?a_order_of_cells ?l_order_of_cells ?c_order_of_cells ?k_order_of_cells ?a_field ?l_field ?c_field ?k_field ?a_Order_size ?i_Order_size ?l_Order_size ?c_Order_size ?k_Order_size ?a_Order_lows_of ?i_Order_lows_of ?l_Order_lows_of ?c_Order_lows_of ?k_Order_lows_of ?a_has_lows ?l_has_lows ?c_has_lows ?k_has_lows ?a_downsets ?l_downsets ?c_downsets ?k_downsets ?a_things_of ?l_things_of ?c_things_of ?k_things_of ?a_by_size ?l_by_size ?c_by_size ?k_by_size ?a_folded ?l_folded ?c_folded ?k_folded ?a_lengths_ahead ?l_lengths_ahead ?c_lengths_ahead ?k_lengths_ahead ?a__law_whole ?l__law_whole ?c__law_whole ?k__law_whole ?a__law_all ?l__law_all ?c__law_all ?k__law_all ?a__law_turned ?l__law_turned ?c__law_turned ?k__law_turned ?a__law_lengths ?l__law_lengths ?c__law_lengths ?k__law_lengths ?a__law_below_of ?l__law_below_of ?c__law_below_of ?k__law_below_of ?a_law ?l_law ?c_law ?k_law ?y_len ?y_range ?y_enumerate ?y_sum ?y_isinstance ?y_int ?y_bool ?y_all ?y_sorted ?y_set ?y_ValueError ?y_dict ?d_MOST_THINGS_fields ?d_BITS ?r_BITS ?d_MOST_THINGS_orders
    (case a_c_ToggleError => k_is)
    (case a_c_NoNumber => k_is)
    (case a_c_NoField => k_is)
    (case a_c_NoCount => k_is)
    (case a_c_NoPair => k_is)
    (case a_c_Order => k_is)
    (case pg_Order => k_is)
    (case hd_Order => k_is)
    (case po_Order => k_is)
    (case sa_Order => k_is)
    (case mk_Order => k_is)
    (case kc_Order => k_is)
    (case xs_NoField => k_is)
    (case xy_NoField => k_is)
    (case xk_NoField => k_is)
    (case xi_NoField => k_exc)
    (case xs_NoCount => k_is)
    (case xy_NoCount => k_is)
    (case xk_NoCount => k_is)
    (case xl_NoCount => k_is)
    (case rv_NoCount => decide +kernel)
    (case xe_NoCount => k_is)
    (case xf_NoCount_number => k_is)
    (case a_NoCount_init => k_is)
    (case ty_NoCount_init => k_is)
    (case l_NoCount_init => k_is)
    (case c_NoCount_init => k_is)
    (case k_NoCount_init => k_is)
    (case xs_NoPair => k_is)
    (case xy_NoPair => k_is)
    (case xk_NoPair => k_is)
    (case xl_NoPair => k_is)
    (case rv_NoPair => decide +kernel)
    (case xe_NoPair => k_is)
    (case xf_NoPair_low => k_is)
    (case xf_NoPair_high => k_is)
    (case a_NoPair_init => k_is)
    (case ty_NoPair_init => k_is)
    (case l_NoPair_init => k_is)
    (case c_NoPair_init => k_is)
    (case k_NoPair_init => k_is)
    (case xm_NoField_ToggleError => first | k_is | rfl | kernel_rfl)
    (case xm_NoPair_ToggleError => first | k_is | rfl | kernel_rfl)
    (case xm_NoCount_ToggleError => first | k_is | rfl | kernel_rfl)
    (case xa_NoField => k_is)
    (case xb_NoField => k_is)
    (case xd_NoField => k_is)
    (case xc_NoField => k_is)
    (case xg => k_is)
    (case xt => k_is)
    (case xo_NoField => k_is)
    (case kt_NoField_NoField => first | k_is | rfl | kernel_rfl)
    (case xa_NoPair => k_is)
    (case xb_NoPair => k_is)
    (case xd_NoPair => k_is)
    (case xc_NoPair => k_is)
    (case xo_NoPair => k_is)
    (case kt_NoPair_NoField => first | k_is | rfl | kernel_rfl)
    (case xa_NoCount => k_is)
    (case xb_NoCount => k_is)
    (case xd_NoCount => k_is)
    (case xc_NoCount => k_is)
    (case xo_NoCount => k_is)
    (case kt_NoCount_NoField => first | k_is | rfl | kernel_rfl)
    (case kn_NoField => first | k_is | rfl | kernel_rfl)
    (case kt_NoField_ValueError => first | k_is | rfl | kernel_rfl)
    (case kt_NoPair_ValueError => first | k_is | rfl | kernel_rfl)
    (case kt_NoCount_ValueError => first | k_is | rfl | kernel_rfl)
    (case kn_ValueError => first | k_is | rfl | kernel_rfl)
    (case kt_NoField_NoNumber => first | k_is | rfl | kernel_rfl)
    (case kt_NoPair_NoNumber => first | k_is | rfl | kernel_rfl)
    (case kt_NoCount_NoNumber => first | k_is | rfl | kernel_rfl)
    (case kn_NoNumber => first | k_is | rfl | kernel_rfl)
    (case n_Order_kept_many => k_is)
    (case n_Order_kept_lows => k_is)
    (case a__law_cell => k_is)
    (case l__law_cell => k_is)
    (case c__law_cell => k_is)
    (case k__law_cell => k_is)
    (case a_look_at_field => k_is)
    (case l_look_at_field => k_is)
    (case c_look_at_field => k_is)
    (case k_look_at_field => k_is)
    (case a_bit_of => k_is)
    (case l_bit_of => k_is)
    (case c_bit_of => k_is)
    (case k_bit_of => k_is)
    (case a_Order_init => k_is)
    (case i_Order_init => k_is)
    (case l_Order_init => k_is)
    (case c_Order_init => k_is)
    (case k_Order_init => k_is)
    (case a_order_of_cells => k_is)
    (case l_order_of_cells => k_is)
    (case c_order_of_cells => k_is)
    (case k_order_of_cells => k_is)
    (case a_field => k_is)
    (case l_field => k_is)
    (case c_field => k_is)
    (case k_field => k_is)
    (case a_Order_size => k_is)
    (case i_Order_size => k_is)
    (case l_Order_size => k_is)
    (case c_Order_size => k_is)
    (case k_Order_size => k_is)
    (case a_Order_lows_of => k_is)
    (case i_Order_lows_of => k_is)
    (case l_Order_lows_of => k_is)
    (case c_Order_lows_of => k_is)
    (case k_Order_lows_of => k_is)
    (case a_has_lows => k_is)
    (case l_has_lows => k_is)
    (case c_has_lows => k_is)
    (case k_has_lows => k_is)
    (case a_downsets => k_is)
    (case l_downsets => k_is)
    (case c_downsets => k_is)
    (case k_downsets => k_is)
    (case a_things_of => k_is)
    (case l_things_of => k_is)
    (case c_things_of => k_is)
    (case k_things_of => k_is)
    (case a_by_size => k_is)
    (case l_by_size => k_is)
    (case c_by_size => k_is)
    (case k_by_size => k_is)
    (case a_folded => k_is)
    (case l_folded => k_is)
    (case c_folded => k_is)
    (case k_folded => k_is)
    (case a_lengths_ahead => k_is)
    (case l_lengths_ahead => k_is)
    (case c_lengths_ahead => k_is)
    (case k_lengths_ahead => k_is)
    (case a__law_whole => k_is)
    (case l__law_whole => k_is)
    (case c__law_whole => k_is)
    (case k__law_whole => k_is)
    (case a__law_all => k_is)
    (case l__law_all => k_is)
    (case c__law_all => k_is)
    (case k__law_all => k_is)
    (case a__law_turned => k_is)
    (case l__law_turned => k_is)
    (case c__law_turned => k_is)
    (case k__law_turned => k_is)
    (case a__law_lengths => k_is)
    (case l__law_lengths => k_is)
    (case c__law_lengths => k_is)
    (case k__law_lengths => k_is)
    (case a__law_below_of => k_is)
    (case l__law_below_of => k_is)
    (case c__law_below_of => k_is)
    (case k__law_below_of => k_is)
    (case a_law => k_is)
    (case l_law => k_is)
    (case c_law => k_is)
    (case k_law => k_is)
    (case y_len => k_is)
    (case y_range => k_is)
    (case y_enumerate => k_is)
    (case y_sum => k_is)
    (case y_isinstance => k_is)
    (case y_int => k_is)
    (case y_bool => k_is)
    (case y_all => k_is)
    (case y_sorted => k_is)
    (case y_set => k_is)
    (case y_ValueError => k_is)
    (case y_dict => k_is)
    (case d_MOST_THINGS_fields => k_is)
    (case d_BITS => k_is)
    (case r_BITS => exact ⟨_, _, _, by k_is, rfl, rfl, by decide, by first | exact .nil | (repeat' constructor)⟩)
    (case d_MOST_THINGS_orders => k_is)
#print axioms PySem.Challenge.cw_toggleclock_k86_whole_rounds_counted_ahe_holds
