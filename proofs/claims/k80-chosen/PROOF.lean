import PyProof.Rows.All
import Wide.All
import OpenK.AllK
import Wide.FinOn
import HandS.ForMost
import HandS.Wide
import HandS.IsInst
import HandS.TupAny
import HandS.Deep
import HandS.SortInts
import HandS.SortRule
import HandS.Conv
import HandS.Zip
import HandS.Rev
import HandS.RevRange
import HandS.Strs
import PySem.Challenge.RW_toggleclock_k80_chosen
set_option Elab.async false
set_option linter.all false
set_option maxRecDepth 100000
set_option maxHeartbeats 8000000
/-! DL: a value-semantics layer over HandS -/
namespace DL
open PySem PySem.Spec PyProof.Rows L2

/-- plain data -/
inductive D where
  | non | bl (b : Bool) | int (i : Int) | str (s : Str)
  | tup (ds : List D) | lst (ds : List D) | scr (ds : List D)
  | ins (c : Nat) (ds : List D)
  | dic (ks : List Key) (ds : List D) | dit (ks : List (List Key)) (ds : List D)
deriving Inhabited

abbrev Tb := Nat → Addr × List Str
def isMut : HO → Bool
  | .lst _ => true
  | .dK _ => true
  | .dT _ => true
  | .ins _ _ _ => true
  | _ => false

/-- a list that no one writes: the script -/
def SqS (K : PySem.W.Frag) (H : Hp) (a : Addr) (xs : List V) : Prop := (∃ o, H a = some (.frz o (.lst xs))) ∨
  ∃ (o : Obj) (its : Array Value) (n : Nat), K.lookup a = some o ∧ o.cls = .type "list" ∧ o.dict = none ∧ o.data = .seq its n ∧ its.size ≤ sizeLine ∧ Vals xs its.toList
theorem SqS.seq {K : PySem.W.Frag} {H : Hp} {a : Addr} {xs : List V} (h : SqS K H a xs) : SqL K H a xs := by
  rcases h with h | h
  · exact .inl (.inr h)
  · exact .inr h
mutual
/-- in the heap F the value v is the data d; every mutable object within stands at an address of N -/
inductive RepG (K : PySem.W.Frag) (T : Tb) (N : Addr → Prop) (F : Hp) : V → D → Prop
  | non : RepG K T N F .non .non
  | bl (b : Bool) : RepG K T N F (.bl b) (.bl b)
  | int (i : Int) : RepG K T N F (.int i) (.int i)
  | str (s : Str) : RepG K T N F (.str s) (.str s)
  | tup {a : Addr} {vs : List V} {ds : List D} : SqT K F a vs → RepsG K T N F vs ds → RepG K T N F (.ref a) (.tup ds)
  | lst {a : Addr} {vs : List V} {ds : List D} : F a = some (.lst vs) → N a → RepsG K T N F vs ds → RepG K T N F (.ref a) (.lst ds)
  | scr {a : Addr} {vs : List V} {ds : List D} : SqS K F a vs → RepsG K T N F vs ds → RepG K T N F (.ref a) (.scr ds)
  | ins {a dx : Addr} {c : Nat} {fs : List (Str × V)} {ds : List D} : F a = some (.ins (T c).1 dx fs) → N a → fs.map (·.1) = (T c).2 → RepsG K T N F (fs.map (·.2)) ds → RepG K T N F (.ref a) (.ins c ds)
  | dic {a : Addr} {kvs : List (Key × V)} {ds : List D} : F a = some (.dK kvs) → N a → RepsG K T N F (kvs.map (·.2)) ds → RepG K T N F (.ref a) (.dic (kvs.map (·.1)) ds)
  | dit {a : Addr} {kvs : List (List Key × V)} {ds : List D} : F a = some (.dT kvs) → N a → RepsG K T N F (kvs.map (·.2)) ds → RepG K T N F (.ref a) (.dit (kvs.map (·.1)) ds)
inductive RepsG (K : PySem.W.Frag) (T : Tb) (N : Addr → Prop) (F : Hp) : List V → List D → Prop
  | nil : RepsG K T N F [] []
  | cons {v : V} {vs : List V} {d : D} {ds : List D} : RepG K T N F v d → RepsG K T N F vs ds → RepsG K T N F (v :: vs) (d :: ds)
end

section
variable {K : PySem.W.Frag} {T : Tb} {N N' : Addr → Prop} {F F' : Hp}
theorem same_rd {a : Addr} {u : HO} (e : Same F F') (h : Rd F a u) : Rd F' a u := by
  rcases h with h | ⟨o, h⟩
  · exact .inl (e _ _ h)
  · exact .inr ⟨o, e _ _ h⟩
theorem same_sqT {a : Addr} {xs : List V} (e : Same F F') (h : SqT K F a xs) : SqT K F' a xs := by
  rcases h with h | h
  · exact .inl (same_rd e h)
  · exact .inr h
theorem same_sqS {a : Addr} {xs : List V} (e : Same F F') (h : SqS K F a xs) : SqS K F' a xs := by
  rcases h with ⟨o, h⟩ | h
  · exact .inl ⟨o, e _ _ h⟩
  · exact .inr h
mutual
theorem RepG.mono (e : Same F F') (hn : ∀ a, N a → N' a) : ∀ {v : V} {d : D}, RepG K T N F v d → RepG K T N' F' v d
  | _, _, .non => .non
  | _, _, .bl b => .bl b
  | _, _, .int b => .int b
  | _, _, .str b => .str b
  | _, _, .tup h r => .tup (same_sqT e h) (RepsG.mono e hn r)
  | _, _, .lst h n r => .lst (e _ _ h) (hn _ n) (RepsG.mono e hn r)
  | _, _, .scr h r => .scr (same_sqS e h) (RepsG.mono e hn r)
  | _, _, .ins h n q r => .ins (e _ _ h) (hn _ n) q (RepsG.mono e hn r)
  | _, _, .dic h n r => .dic (e _ _ h) (hn _ n) (RepsG.mono e hn r)
  | _, _, .dit h n r => .dit (e _ _ h) (hn _ n) (RepsG.mono e hn r)
theorem RepsG.mono (e : Same F F') (hn : ∀ a, N a → N' a) : ∀ {vs : List V} {ds : List D}, RepsG K T N F vs ds → RepsG K T N' F' vs ds
  | _, _, .nil => .nil
  | _, _, .cons h r => .cons (RepG.mono e hn h) (RepsG.mono e hn r)
end
/-- the heap without the addresses of S -/
noncomputable def cut (F : Hp) (S : Addr → Prop) : Hp := fun b => open Classical in if S b then none else F b
theorem cut_in {S : Addr → Prop} {b : Addr} (h : S b) : cut F S b = none := by unfold cut; rw [if_pos h]
theorem cut_out {S : Addr → Prop} {b : Addr} (h : ¬ S b) : cut F S b = F b := by unfold cut; rw [if_neg h]
section
variable {S : Addr → Prop}
theorem cut_sqT (hT : ∀ a o, F a = some o → isMut o = false → ¬ S a) {a : Addr} {xs : List V} (h : SqT K F a xs) : SqT K (cut F S) a xs := by
  rcases h with h | h
  · refine .inl ?_
    rcases h with h | ⟨o, h⟩
    · exact .inl (by rw [cut_out (hT a _ h rfl)]; exact h)
    · exact .inr ⟨o, by rw [cut_out (hT a _ h rfl)]; exact h⟩
  · exact .inr h
theorem cut_sqS (hT : ∀ a o, F a = some o → isMut o = false → ¬ S a) {a : Addr} {xs : List V} (h : SqS K F a xs) : SqS K (cut F S) a xs := by
  rcases h with ⟨o, h⟩ | h
  · exact .inl ⟨o, by rw [cut_out (hT a _ h rfl)]; exact h⟩
  · exact .inr h
mutual
theorem RepG.cut (hn : ∀ a, N a → ¬ S a) (hT : ∀ a o, F a = some o → isMut o = false → ¬ S a) : ∀ {v : V} {d : D}, RepG K T N F v d → RepG K T N (cut F S) v d
  | _, _, .non => .non
  | _, _, .bl b => .bl b
  | _, _, .int b => .int b
  | _, _, .str b => .str b
  | _, _, .tup h r => .tup (cut_sqT hT h) (RepsG.cut hn hT r)
  | _, _, .lst h n r => .lst (by rw [cut_out (hn _ n)]; exact h) n (RepsG.cut hn hT r)
  | _, _, .scr h r => .scr (cut_sqS hT h) (RepsG.cut hn hT r)
  | _, _, .ins h n q r => .ins (by rw [cut_out (hn _ n)]; exact h) n q (RepsG.cut hn hT r)
  | _, _, .dic h n r => .dic (by rw [cut_out (hn _ n)]; exact h) n (RepsG.cut hn hT r)
  | _, _, .dit h n r => .dit (by rw [cut_out (hn _ n)]; exact h) n (RepsG.cut hn hT r)
theorem RepsG.cut (hn : ∀ a, N a → ¬ S a) (hT : ∀ a o, F a = some o → isMut o = false → ¬ S a) : ∀ {vs : List V} {ds : List D}, RepsG K T N F vs ds → RepsG K T N (cut F S) vs ds
  | _, _, .nil => .nil
  | _, _, .cons h r => .cons (RepG.cut hn hT h) (RepsG.cut hn hT r)
end
end
theorem RepsG.length : ∀ {vs : List V} {ds : List D}, RepsG K T N F vs ds → vs.length = ds.length
  | _, _, .nil => rfl
  | _, _, .cons _ r => by rw [List.length_cons, List.length_cons, r.length]
theorem RepsG.get : ∀ {vs : List V} {ds : List D} {i : Nat} {d : D}, RepsG K T N F vs ds → ds[i]? = some d → ∃ v, vs[i]? = some v ∧ RepG K T N F v d
  | _, _, _, _, .nil, e => by simp at e
  | _, _, 0, _, .cons h _, e => by simp at e; subst e; exact ⟨_, rfl, h⟩
  | _, _, i + 1, _, .cons _ r, e => by
    obtain ⟨v, h1, h2⟩ := RepsG.get (i := i) r (by simpa using e)
    exact ⟨v, by simpa using h1, h2⟩
theorem RepsG.get' : ∀ {vs : List V} {ds : List D} {i : Nat} {v : V}, RepsG K T N F vs ds → vs[i]? = some v → ∃ d, ds[i]? = some d ∧ RepG K T N F v d
  | _, _, _, _, .nil, e => by simp at e
  | _, _, 0, _, .cons h _, e => by simp at e; subst e; exact ⟨_, rfl, h⟩
  | _, _, i + 1, _, .cons _ r, e => by
    obtain ⟨v, h1, h2⟩ := RepsG.get' (i := i) r (by simpa using e)
    exact ⟨v, by simpa using h1, h2⟩
theorem RepsG.append : ∀ {vs ws : List V} {ds es : List D}, RepsG K T N F vs ds → RepsG K T N F ws es → RepsG K T N F (vs ++ ws) (ds ++ es)
  | _, _, _, _, .nil, s => s
  | _, _, _, _, .cons h r, s => .cons h (r.append s)
theorem RepsG.set {v : V} {d : D} (h : RepG K T N F v d) : ∀ {vs : List V} {ds : List D} (i : Nat), RepsG K T N F vs ds → RepsG K T N F (vs.set i v) (ds.set i d)
  | _, _, _, .nil => .nil
  | _, _, 0, .cons _ r => .cons h r
  | _, _, i + 1, .cons q r => .cons q (RepsG.set h i r)
theorem RepsG.take : ∀ {vs : List V} {ds : List D} (n : Nat), RepsG K T N F vs ds → RepsG K T N F (vs.take n) (ds.take n)
  | _, _, 0, _ => .nil
  | _, _, _ + 1, .nil => .nil
  | _, _, n + 1, .cons h r => .cons h (RepsG.take n r)
theorem RepsG.drop : ∀ {vs : List V} {ds : List D} (n : Nat), RepsG K T N F vs ds → RepsG K T N F (vs.drop n) (ds.drop n)
  | _, _, 0, r => r
  | _, _, _ + 1, .nil => .nil
  | _, _, n + 1, .cons _ r => RepsG.drop n r
theorem RepsG.reverse {vs : List V} {ds : List D} (r : RepsG K T N F vs ds) : RepsG K T N F vs.reverse ds.reverse := by
  induction vs generalizing ds with
  | nil => cases r; exact .nil
  | cons v vs ih =>
    cases r with
    | cons h r =>
      rw [List.reverse_cons, List.reverse_cons]
      exact (ih r).append (.cons h .nil)
end

/-! ### kinds and modes -/
/-- A: nothing mutable within; L: what is mutable within was made since the entry; U: anything -/
inductive Q3 where | A | L | U
deriving DecidableEq
def Q3.le : Q3 → Q3 → Bool
  | .A, _ => true
  | .L, .A => false
  | .L, _ => true
  | .U, .U => true
  | .U, _ => false
def NK (H0 : Hp) : Q3 → Addr → Prop
  | .A => fun _ => False
  | .L => fun a => H0 a = none
  | .U => fun _ => True
theorem NK.le {H0 : Hp} : ∀ {p q : Q3}, p.le q = true → ∀ a, NK H0 p a → NK H0 q a
  | .A, _, _, _, h => h.elim
  | .L, .L, _, _, h => h
  | .L, .U, _, _, _ => trivial
  | .U, .U, _, _, h => h
/-- what an expression gives: q: frozen; B: as the heap stands; bl: a list as it stands, its items frozen; fl: a frozen list; ol: a new list of nobody's -/
inductive Knd where
  | q (q : Q3) | B | bl (q : Q3) | fl (q : Q3) | ol (q : Q3)
deriving DecidableEq
/-- what a slot holds: fz: frozen; fl: a frozen list with items of kind q; ow: a list of the def's own -/
inductive Mode where
  | no | fz (q : Q3) | fl (q : Q3) | ow (q : Q3)
deriving DecidableEq
abbrev Own := Nat → Addr → Prop

section
variable (K : PySem.W.Frag) (T : Tb) (H0 : Hp)
abbrev Rq (q : Q3) (F : Hp) : V → D → Prop := RepG K T (NK H0 q) F
abbrev Rqs (q : Q3) (F : Hp) : List V → List D → Prop := RepsG K T (NK H0 q) F
abbrev RU (F : Hp) : V → D → Prop := RepG K T (fun _ => True) F
abbrev RUs (F : Hp) : List V → List D → Prop := RepsG K T (fun _ => True) F
def Rp (F H : Hp) (O : Own) : Knd → V → D → Prop
  | .q k, v, d => Rq K T H0 k F v d
  | .B, v, d => RU K T H v d
  | .bl k, v, d => ∃ a vs ds, v = .ref a ∧ d = .lst ds ∧ H a = some (.lst vs) ∧ Rqs K T H0 k F vs ds
  | .fl k, v, d => ∃ a vs ds, v = .ref a ∧ d = .lst ds ∧ F a = some (.lst vs) ∧ Rqs K T H0 k F vs ds
  | .ol k, v, d => ∃ a vs ds, v = .ref a ∧ d = .lst ds ∧ H a = some (.lst vs) ∧ F a = none ∧ (∀ i, ¬ O i a) ∧ Rqs K T H0 k F vs ds
def SlotR (F H : Hp) (o : Addr → Prop) (sv : Option (Option V)) (dv : Option D) : Mode → Prop
  | .no => True
  | .fz k => ∃ v d, sv = some (some v) ∧ dv = some d ∧ Rq K T H0 k F v d
  | .fl k => ∃ a vs ds, sv = some (some (.ref a)) ∧ dv = some (.lst ds) ∧ F a = some (.lst vs) ∧ Rqs K T H0 k F vs ds
  | .ow k => ∃ a vs ds, sv = some (some (.ref a)) ∧ dv = some (.lst ds) ∧ H a = some (.lst vs) ∧ o a ∧ Rqs K T H0 k F vs ds
/-- the frame's slots σ and the heap H are the data ρ, by the modes Γ: F is what never changes, O what the slots own -/
structure Rl (Γ : List Mode) (F : Hp) (O : Own) (σ : L2.St) (H : Hp) (ρ : List D) : Prop where
  h0 : Same H0 F
  fh : Same F H
  on : ∀ i a, O i a → F a = none ∧ ∃ o, H a = some o ∧ isMut o = true
  od : ∀ i j a, O i a → O j a → i = j
  ls : σ.length = Γ.length
  lr : ρ.length = Γ.length
  sl : ∀ i m, Γ[i]? = some m → SlotR K T H0 F H (O i) σ[i]? ρ[i]? m
end

section
variable {K : PySem.W.Frag} {T : Tb} {H0 : Hp} {F F' H H' : Hp} {O O' : Own} {σ : L2.St} {ρ : List D} {Γ Γ' : List Mode} {q : Q3}
theorem Rl.U_of (R : Rl K T H0 Γ F O σ H ρ) {v : V} {d : D} (h : Rq K T H0 q F v d) : RU K T H v d := h.mono R.fh fun _ _ => trivial
theorem Rl.Us_of (R : Rl K T H0 Γ F O σ H ρ) {v : List V} {d : List D} (h : Rqs K T H0 q F v d) : RUs K T H v d := h.mono R.fh fun _ _ => trivial
/-- any kind as the heap stands -/
theorem Rl.toB (R : Rl K T H0 Γ F O σ H ρ) {k : Knd} {v : V} {d : D} (h : Rp K T H0 F H O k v d) : RU K T H v d := by
  cases k with
  | q k => exact R.U_of h
  | B => exact h
  | bl k =>
    obtain ⟨a, vs, ds, rfl, rfl, h1, h2⟩ := h
    exact .lst h1 trivial (R.Us_of h2)
  | fl k =>
    obtain ⟨a, vs, ds, rfl, rfl, h1, h2⟩ := h
    exact .lst (R.fh _ _ h1) trivial (R.Us_of h2)
  | ol k =>
    obtain ⟨a, vs, ds, rfl, rfl, h1, _, _, h2⟩ := h
    exact .lst h1 trivial (R.Us_of h2)
theorem _root_.L2.Same.rq (e : Same F F') {v : V} {d : D} (h : Rq K T H0 q F v d) : Rq K T H0 q F' v d := h.mono e fun _ h => h
theorem _root_.L2.Same.rqs (e : Same F F') {v : List V} {d : List D} (h : Rqs K T H0 q F v d) : Rqs K T H0 q F' v d := h.mono e fun _ h => h
theorem _root_.L2.Same.rU (e : Same F F') {v : V} {d : D} (h : RU K T F v d) : RU K T F' v d := h.mono e fun _ h => h
theorem _root_.L2.Same.rUs (e : Same F F') {v : List V} {d : List D} (h : RUs K T F v d) : RUs K T F' v d := h.mono e fun _ h => h
/-- what lasts while more is reckoned -/
def Knd.pers : Knd → Bool
  | .ol _ => false
  | _ => true
theorem Rp.pers {k : Knd} (hk : k.pers = true) (e : Same F F') (e' : Same H H') {v : V} {d : D} (h : Rp K T H0 F H O k v d) : Rp K T H0 F' H' O k v d := by
  cases k with
  | q k => exact e.rq h
  | B => exact e'.rU h
  | bl k =>
    obtain ⟨a, vs, ds, rfl, rfl, h1, h2⟩ := h
    exact ⟨a, vs, ds, rfl, rfl, e' _ _ h1, e.rqs h2⟩
  | fl k =>
    obtain ⟨a, vs, ds, rfl, rfl, h1, h2⟩ := h
    exact ⟨a, vs, ds, rfl, rfl, e _ _ h1, e.rqs h2⟩
  | ol k => cases hk
/-- the heap grows by what is of no one -/
theorem Rl.grow (R : Rl K T H0 Γ F O σ H ρ) (e : Same H H') : Rl K T H0 Γ F O σ H' ρ where
  h0 := R.h0
  fh := R.fh.trans e
  on := fun i a h => let ⟨h1, o, h2, h3⟩ := R.on i a h; ⟨h1, o, e _ _ h2, h3⟩
  od := R.od
  ls := R.ls
  lr := R.lr
  sl := fun i m hm => by
    have h := R.sl i m hm
    cases m with
    | no => trivial
    | fz k => exact h
    | fl k => exact h
    | ow k =>
      obtain ⟨a, vs, ds, h1, h2, h3, h4, h5⟩ := h
      exact ⟨a, vs, ds, h1, h2, e _ _ h3, h4, h5⟩
/-- more is frozen, nothing of what is owned -/
theorem Rl.more (R : Rl K T H0 Γ F O σ H ρ) (e : Same F F') (e' : Same F' H) (ho : ∀ i a, O i a → F' a = none) : Rl K T H0 Γ F' O σ H ρ where
  h0 := R.h0.trans e
  fh := e'
  on := fun i a h => ⟨ho i a h, (R.on i a h).2⟩
  od := R.od
  ls := R.ls
  lr := R.lr
  sl := fun i m hm => by
    have h := R.sl i m hm
    cases m with
    | no => trivial
    | fz k =>
      obtain ⟨v, d, h1, h2, h3⟩ := h
      exact ⟨v, d, h1, h2, e.rq h3⟩
    | fl k =>
      obtain ⟨a, vs, ds, h1, h2, h3, h4⟩ := h
      exact ⟨a, vs, ds, h1, h2, e _ _ h3, e.rqs h4⟩
    | ow k =>
      obtain ⟨a, vs, ds, h1, h2, h3, h4, h5⟩ := h
      exact ⟨a, vs, ds, h1, h2, h3, h4, e.rqs h5⟩
/-- a new object at p, frozen at once -/
theorem Rl.laid (R : Rl K T H0 Γ F O σ H ρ) {p : Addr} {o : HO} (hp : H p = none) : Rl K T H0 Γ (upd F p o) O σ (upd H p o) ρ ∧ Same F (upd F p o) ∧ Same H (upd H p o) := by
  have sH : Same H (upd H p o) := fun b u e => by rw [upd_ne (ne_of_none e hp)]; exact e
  have fp : F p = none := R.fh.free hp
  have sF : Same F (upd F p o) := fun b u e => by rw [upd_ne (ne_of_none e fp)]; exact e
  refine ⟨(R.grow sH).more sF (fun b u e => ?_) (fun i a h => ?_), sF, sH⟩
  · by_cases hb : b = p
    · subst hb; rw [upd_same] at e ⊢; exact e
    · rw [upd_ne hb] at e ⊢; exact R.fh _ _ e
  · obtain ⟨h1, u, h2, _⟩ := R.on i a h
    rw [upd_ne (ne_of_none h2 hp)]; exact h1
/-- a new object at p, of no one -/
theorem Rl.junk (R : Rl K T H0 Γ F O σ H ρ) {p : Addr} {o : HO} (hp : H p = none) : Rl K T H0 Γ F O σ (upd H p o) ρ ∧ Same H (upd H p o) := by
  have sH : Same H (upd H p o) := fun b u e => by rw [upd_ne (ne_of_none e hp)]; exact e
  exact ⟨R.grow sH, sH⟩
theorem Rl.notOwn (R : Rl K T H0 Γ F O σ H ρ) {p : Addr} (hp : H p = none) : ∀ i, ¬ O i p := fun i h => by
  obtain ⟨_, u, h2, _⟩ := R.on i p h
  rw [hp] at h2; cases h2

/-! ### weakening -/
def wkM : Mode → Mode → Bool
  | _, .no => true
  | .fz p, .fz q => p.le q
  | .fl p, .fl q => p.le q
  | .fl _, .fz .U => true
  | .ow p, .ow q => p.le q
  | .ow p, .fl q => p.le q
  | .ow p, .fz .L => p.le .L
  | .ow _, .fz .U => true
  | _, _ => false
def isOw : Option Mode → Bool
  | some (.ow _) => true
  | _ => false
def Wk (K : PySem.W.Frag) (T : Tb) (H0 : Hp) (Γ Γ' : List Mode) : Prop := ∀ F O σ H ρ, Rl K T H0 Γ F O σ H ρ → ∃ F' O', Same F F' ∧ Rl K T H0 Γ' F' O' σ H ρ
def wkAll : List Mode → List Mode → Bool
  | [], [] => true
  | m :: r, m' :: r' => wkM m m' && wkAll r r'
  | _, _ => false
theorem wkAll.len : ∀ {Γ Γ' : List Mode}, wkAll Γ Γ' = true → Γ.length = Γ'.length
  | [], [], _ => rfl
  | m :: r, m' :: r', h => by
    unfold wkAll at h
    rw [Bool.and_eq_true] at h
    rw [List.length_cons, List.length_cons, wkAll.len h.2]
theorem wkAll.get : ∀ {Γ Γ' : List Mode} {i : Nat} {m' : Mode}, wkAll Γ Γ' = true → Γ'[i]? = some m' → ∃ m, Γ[i]? = some m ∧ wkM m m' = true
  | [], [], _, _, _, e => by simp at e
  | m :: r, m' :: r', 0, _, h, e => by
    unfold wkAll at h
    rw [Bool.and_eq_true] at h
    simp at e; subst e
    exact ⟨m, rfl, h.1⟩
  | m :: r, m' :: r', i + 1, x, h, e => by
    unfold wkAll at h
    rw [Bool.and_eq_true] at h
    obtain ⟨y, h1, h2⟩ := wkAll.get (i := i) h.2 (by simpa using e)
    exact ⟨y, by simpa using h1, h2⟩
theorem wk_of (h : wkAll Γ Γ' = true) : Wk K T H0 Γ Γ' := by
  intro F O σ H ρ R
  classical
  let fr : Addr → Prop := fun b => ∃ i, O i b ∧ isOw Γ'[i]? = false
  let F' : Hp := fun b => if fr b then H b else F b
  have sF : Same F F' := fun b u e => by
    show (if fr b then H b else F b) = some u
    rw [if_neg]
    · exact e
    · rintro ⟨i, hi, _⟩
      rw [(R.on i b hi).1] at e; cases e
  have sH : Same F' H := fun b u e => by
    have e : (if fr b then H b else F b) = some u := e
    split at e
    · exact e
    · exact R.fh _ _ e
  refine ⟨F', fun i a => O i a ∧ isOw Γ'[i]? = true, sF, R.h0.trans sF, sH, fun i a ⟨h1, h2⟩ => ⟨?_, (R.on i a h1).2⟩, fun i j a h1 h2 => R.od i j a h1.1 h2.1, by rw [R.ls, wkAll.len h], by rw [R.lr, wkAll.len h], fun i m' hm' => ?_⟩
  · show (if fr a then H a else F a) = none
    rw [if_neg]
    · exact (R.on i a h1).1
    · rintro ⟨j, hj, hn⟩
      have := R.od i j a h1 hj
      subst this
      rw [h2] at hn; cases hn
  · obtain ⟨m, hm, hw⟩ := wkAll.get h hm'
    have s := R.sl i m hm
    have froz : ∀ {a : Addr} {vs : List V}, H a = some (.lst vs) → O i a → isOw (some m') = false → F' a = some (.lst vs) := fun {a vs} h1 h2 h3 => by
      show (if fr a then H a else F a) = _
      rw [if_pos ⟨i, h2, by rw [hm']; exact h3⟩]; exact h1
    have hnew : ∀ {a : Addr}, O i a → H0 a = none := fun {a} h2 => R.h0.free (R.on i a h2).1
    cases m' with
    | no => trivial
    | fz q =>
      cases m with
      | no => cases hw
      | fz p =>
        obtain ⟨v, d, h1, h2, h3⟩ := s
        exact ⟨v, d, h1, h2, h3.mono sF (NK.le hw)⟩
      | fl p =>
        obtain ⟨a, vs, ds, h1, h2, h3, h4⟩ := s
        cases q with
        | A => cases hw
        | L => cases hw
        | U => exact ⟨_, _, h1, h2, .lst (sF _ _ h3) trivial (h4.mono sF fun _ _ => trivial)⟩
      | ow p =>
        obtain ⟨a, vs, ds, h1, h2, h3, h4, h5⟩ := s
        cases q with
        | A => cases hw
        | L => exact ⟨_, _, h1, h2, .lst (froz h3 h4 rfl) (hnew h4) (h5.mono sF (NK.le hw))⟩
        | U => exact ⟨_, _, h1, h2, .lst (froz h3 h4 rfl) trivial (h5.mono sF fun _ _ => trivial)⟩
    | fl q =>
      cases m with
      | no => cases hw
      | fz p => cases hw
      | fl p =>
        obtain ⟨a, vs, ds, h1, h2, h3, h4⟩ := s
        exact ⟨_, _, _, h1, h2, sF _ _ h3, h4.mono sF (NK.le hw)⟩
      | ow p =>
        obtain ⟨a, vs, ds, h1, h2, h3, h4, h5⟩ := s
        exact ⟨_, _, _, h1, h2, froz h3 h4 rfl, h5.mono sF (NK.le hw)⟩
    | ow q =>
      cases m with
      | no => cases hw
      | fz p => cases hw
      | fl p => cases hw
      | ow p =>
        obtain ⟨a, vs, ds, h1, h2, h3, h4, h5⟩ := s
        exact ⟨_, _, _, h1, h2, h3, ⟨h4, by rw [hm']; rfl⟩, h5.mono sF (NK.le hw)⟩
end
end DL

namespace DL
open PySem PySem.Spec PyProof.Rows L2

abbrev EF := List D → Option D
/-- the reading of an expression that computes f -/
def tD (K : PySem.W.Frag) (T : Tb) (H0 : Hp) (Γ : List Mode) (f : EF) (k : Knd) : TE := fun σ H Q =>
  ∃ F O ρ d, Rl K T H0 Γ F O σ H ρ ∧ f ρ = some d ∧ ∀ F' H' v, Rl K T H0 Γ F' O σ H' ρ → Same F F' → Same H H' → Rp K T H0 F' H' O k v d → Q v H'
abbrev DE (X : Cx) (T : Tb) (H0 : Hp) (Γ : List Mode) (e : Expr) (f : EF) (k : Knd) : Prop := PE X e (tD X.K T H0 Γ f k)
def tDA (K : PySem.W.Frag) (T : Tb) (H0 : Hp) (Γ : List Mode) (f : List D → Option (List D)) : TA := fun σ H Q =>
  ∃ F O ρ ds, Rl K T H0 Γ F O σ H ρ ∧ f ρ = some ds ∧ ∀ F' H' vs, Rl K T H0 Γ F' O σ H' ρ → Same F F' → Same H H' → RUs K T H' vs ds → Q vs H'
/-- arguments, as the heap stands -/
abbrev DA (X : Cx) (T : Tb) (H0 : Hp) (Γ : List Mode) (es : List Expr) (f : List D → Option (List D)) : Prop := PA X es (tDA X.K T H0 Γ f)
def tDQ (K : PySem.W.Frag) (T : Tb) (H0 : Hp) (Γ : List Mode) (f : List D → Option (List D)) (q : Q3) : TA := fun σ H Q =>
  ∃ F O ρ ds, Rl K T H0 Γ F O σ H ρ ∧ f ρ = some ds ∧ ∀ F' H' vs, Rl K T H0 Γ F' O σ H' ρ → Same F F' → Same H H' → Rqs K T H0 q F' vs ds → Q vs H'
/-- the items of a display, frozen -/
abbrev DQ (X : Cx) (T : Tb) (H0 : Hp) (Γ : List Mode) (es : List Expr) (f : List D → Option (List D)) (q : Q3) : Prop := PA X es (tDQ X.K T H0 Γ f q)
def tDT (K : PySem.W.Frag) (T : Tb) (H0 : Hp) (Γ : List Mode) (f : List D → Option Bool) : TT := fun σ H Q =>
  ∃ F O ρ b, Rl K T H0 Γ F O σ H ρ ∧ f ρ = some b ∧ ∀ F' H', Rl K T H0 Γ F' O σ H' ρ → Same F F' → Same H H' → Q b H'
abbrev DT (X : Cx) (T : Tb) (H0 : Hp) (Γ : List Mode) (e : Expr) (f : List D → Option Bool) : Prop := PT X e (tDT X.K T H0 Γ f)
abbrev DW (X : Cx) (T : Tb) (H0 : Hp) (Γ : List Mode) (e : Expr) (f : List D → Option Bool) : Prop := PW X e (tDT X.K T H0 Γ f)

section
variable {X : Cx} {e : Expr} {es : List Expr} {st : Stmt} {sts : List Stmt}
theorem PE.wk {t t' : TE} (h : PE X e t) (i : ∀ σ H Q, t' σ H Q → t σ H Q) : PE X e t' := ⟨fun pins s σ H Q I q => h.run pins s σ H Q I (i _ _ _ q)⟩
theorem PA.wk {t t' : TA} (h : PA X es t) (i : ∀ σ H Q, t' σ H Q → t σ H Q) : PA X es t' := ⟨fun p pins s σ H Q I q => h.run p pins s σ H Q I (i _ _ _ q)⟩
theorem PT.wk {t t' : TT} (h : PT X e t) (i : ∀ σ H Q, t' σ H Q → t σ H Q) : PT X e t' := ⟨fun pins s σ H Q I q => h.run pins s σ H Q I (i _ _ _ q)⟩
theorem PW.wk {t t' : TT} (h : PW X e t) (i : ∀ σ H Q, t' σ H Q → t σ H Q) : PW X e t' := ⟨fun w pins s σ H Q I q => h.run w pins s σ H Q I (i _ _ _ q)⟩
theorem PS.wk {t t' : TS} (h : PS X st t) (i : ∀ D σ H, t' D σ H → t D σ H) : PS X st t' := ⟨fun pins s σ H D I q => h.run pins s σ H D I (i _ _ _ q)⟩
theorem PSs.wk {t t' : TS} (h : PSs X sts t) (i : ∀ D σ H, t' D σ H → t D σ H) : PSs X sts t' := ⟨fun pins s σ H D I q => h.run pins s σ H D I (i _ _ _ q)⟩
end

/-! ### data that is flat, data without mutable things -/
mutual
def D.lf : D → Bool
  | .non => true
  | .bl _ => true
  | .int _ => true
  | .str _ => true
  | .tup ds => D.lfs ds
  | .lst _ => false
  | .scr ds => D.lfs ds
  | .ins _ _ => false
  | .dic _ _ => false
  | .dit _ _ => false
def D.lfs : List D → Bool
  | [] => true
  | d :: ds => D.lf d && D.lfs ds
end
section
variable {K : PySem.W.Frag} {T : Tb} {N N' : Addr → Prop} {F : Hp}
mutual
theorem RepG.lf : ∀ {v : V} {d : D}, RepG K T N F v d → d.lf = true → RepG K T N' F v d
  | _, _, .non, _ => .non
  | _, _, .bl b, _ => .bl b
  | _, _, .int b, _ => .int b
  | _, _, .str b, _ => .str b
  | _, _, .tup h r, e => .tup h (RepsG.lf r (by simpa [D.lf] using e))
  | _, _, .lst h n r, e => by simp [D.lf] at e
  | _, _, .scr h r, e => .scr h (RepsG.lf r (by simpa [D.lf] using e))
  | _, _, .ins h n q r, e => by simp [D.lf] at e
  | _, _, .dic h n r, e => by simp [D.lf] at e
  | _, _, .dit h n r, e => by simp [D.lf] at e
theorem RepsG.lf : ∀ {vs : List V} {ds : List D}, RepsG K T N F vs ds → D.lfs ds = true → RepsG K T N' F vs ds
  | _, _, .nil, _ => .nil
  | _, _, .cons h r, e => by
    simp only [D.lfs, Bool.and_eq_true] at e
    exact .cons (RepG.lf h e.1) (RepsG.lf r e.2)
end
end

/-- data of one value that needs no heap -/
def atomV : D → Option V
  | .non => some .non
  | .bl b => some (.bl b)
  | .int i => some (.int i)
  | .str s => some (.str s)
  | _ => none
theorem atom_rep {K : PySem.W.Frag} {T : Tb} {N : Addr → Prop} {F : Hp} : ∀ {d : D} {v : V}, atomV d = some v → RepG K T N F v d
  | .non, _, h => by cases h; exact .non
  | .bl b, _, h => by cases h; exact .bl b
  | .int b, _, h => by cases h; exact .int b
  | .str b, _, h => by cases h; exact .str b
  | .tup _, _, h => nomatch h
  | .lst _, _, h => nomatch h
  | .scr _, _, h => nomatch h
  | .ins _ _, _, h => nomatch h
  | .dic _ _, _, h => nomatch h
  | .dit _ _, _, h => nomatch h

/-! ### the combinators -/
def eK (d : D) : EF := fun _ => some d
def eV (i : Nat) : EF := fun ρ => ρ[i]?
def e1 (g : D → Option D) (a : EF) : EF := fun ρ => (a ρ).bind g
def e2 (g : D → D → Option D) (a b : EF) : EF := fun ρ => (a ρ).bind fun x => (b ρ).bind fun y => g x y
/-- as data without mutable things -/
def eA (a : EF) : EF := fun ρ => (a ρ).bind fun d => if d.lf = true then some d else none
def aNil : List D → Option (List D) := fun _ => some []
def aCons (a : EF) (r : List D → Option (List D)) : List D → Option (List D) := fun ρ => (a ρ).bind fun x => (r ρ).bind fun xs => some (x :: xs)
def t2b (a : EF) : List D → Option Bool := fun ρ => (a ρ).bind fun d => match d with | .bl b => some b | _ => none
def b2e (a : List D → Option Bool) : EF := fun ρ => (a ρ).bind fun b => some (.bl b)
def bAnd (a b : List D → Option Bool) : List D → Option Bool := fun ρ => (a ρ).bind fun c => if c = true then b ρ else some false
def bOr (a b : List D → Option Bool) : List D → Option Bool := fun ρ => (a ρ).bind fun c => if c = true then some true else b ρ
def bNot (a : List D → Option Bool) : List D → Option Bool := fun ρ => (a ρ).bind fun c => some (!c)
def eIf (t : List D → Option Bool) (a b : EF) : EF := fun ρ => (t ρ).bind fun c => if c = true then a ρ else b ρ
def i2 (g : Int → Int → Option D) : D → D → Option D
  | .int i, .int j => g i j
  | _, _ => none
def i1 (g : Int → Option D) : D → Option D
  | .int i => g i
  | _ => none
/-- below 2 ^ n; no sum of a letter and a great number stands in a test, for the kernel's sake -/
def small (n : Nat) (i : Int) : Prop := i.natAbs.log2 < n
instance (n : Nat) (i : Int) : Decidable (small n i) := Nat.decLt _ _
theorem small_lt {n : Nat} {i : Int} (h : small n i) : i.natAbs < 2 ^ n := by
  unfold small at h
  by_cases h0 : i.natAbs = 0
  · rw [h0]; exact Nat.two_pow_pos n
  · exact (Nat.log2_lt h0).mp h
theorem small_of {n : Nat} {i : Int} (hn : 0 < n) (h : i.natAbs < 2 ^ n) : small n i := PySem.Flt.log2_lt_of hn h
def mulOk (i j : Int) : Prop := small 64 i ∨ small 64 j ∨ i.natAbs.log2 + j.natAbs.log2 < 1000000
instance (i j : Int) : Decidable (mulOk i j) := by unfold mulOk; infer_instance
theorem mulOk_C {i j : Int} (h : mulOk i j) : CMul i j ∨ CMulW i j := by
  have e : (2 : Nat) ^ 64 = 18446744073709551616 := by decide
  have e2 : (2 : Int) ^ 64 = 18446744073709551616 := by decide
  rcases h with h | h | h
  · have := small_lt h
    rw [e] at this
    exact .inl (.inl ⟨by rw [e2]; omega, by rw [e2]; omega⟩)
  · have := small_lt h
    rw [e] at this
    exact .inl (.inr ⟨by rw [e2]; omega, by rw [e2]; omega⟩)
  · exact .inr h
def gAdd (x y : D) : Option D := i2 (fun i j => some (.int (i + j))) x y
def gSbI (x y : D) : Option D := i2 (fun i j => some (.int (i - j))) x y
def gMul (x y : D) : Option D := i2 (fun i j => if mulOk i j then some (.int (i * j)) else none) x y
def gDiv (x y : D) : Option D := i2 (fun i j => if 0 < j ∧ small 9000 j then some (.int (i / j)) else none) x y
def gMod (x y : D) : Option D := i2 (fun i j => if 0 < j then some (.int (i % j)) else none) x y
def gPow (x y : D) : Option D := i2 (fun i j => if 0 ≤ j ∧ small 10 j ∧ small 64 i then some (.int (i ^ j.toNat)) else none) x y
def gAnd (x y : D) : Option D := i2 (fun i j => some (.int (Builtin.bitAnd i j))) x y
def gOr (x y : D) : Option D := i2 (fun i j => some (.int (Builtin.bitOr i j))) x y
def gXor (x y : D) : Option D := i2 (fun i j => some (.int (Builtin.bitXor i j))) x y
def gNeg (x : D) : Option D := i1 (fun i => some (.int (-i))) x
def gLt (x y : D) : Option D := i2 (fun i j => some (.bl (decide (i < j)))) x y
def gLe (x y : D) : Option D := i2 (fun i j => some (.bl (decide (i ≤ j)))) x y
def gGt (x y : D) : Option D := i2 (fun i j => some (.bl (decide (j < i)))) x y
def gGe (x y : D) : Option D := i2 (fun i j => some (.bl (decide (j ≤ i)))) x y
/-- == of scalars of one kind -/
def gEqS : D → D → Option D
  | .int i, .int j => some (.bl (decide (i = j)))
  | .bl i, .bl j => some (.bl (decide (i = j)))
  | .str i, .str j => some (.bl (decide (i = j)))
  | _, _ => none
def gNeS : D → D → Option D
  | .int i, .int j => some (.bl (!decide (i = j)))
  | .bl i, .bl j => some (.bl (!decide (i = j)))
  | .str i, .str j => some (.bl (!decide (i = j)))
  | _, _ => none

section
variable {X : Cx} {T : Tb} {H0 : Hp} {Γ : List Mode} {e a b : Expr} {es : List Expr} {f fa fb : EF} {k ka kb : Knd} {pos : Pos} {q : Q3}
theorem de_int {i : Int} {j} : DE X T H0 Γ (.Constant (.int i) j pos) (eK (.int i)) (.q q) := PE.wk pe_int fun σ H Q ⟨F, O, ρ, d, R, hf, hq⟩ => by
  cases hf; exact hq F H _ R (.refl _) (.refl _) (.int i)
theorem de_bl {i : Bool} {j} : DE X T H0 Γ (.Constant (.bool i) j pos) (eK (.bl i)) (.q q) := PE.wk pe_bl fun σ H Q ⟨F, O, ρ, d, R, hf, hq⟩ => by
  cases hf; exact hq F H _ R (.refl _) (.refl _) (.bl i)
theorem de_str {i : Str} {j} : DE X T H0 Γ (.Constant (.str i) j pos) (eK (.str i)) (.q q) := PE.wk pe_str fun σ H Q ⟨F, O, ρ, d, R, hf, hq⟩ => by
  cases hf; exact hq F H _ R (.refl _) (.refl _) (.str i)
theorem de_non {j} : DE X T H0 Γ (.Constant .none j pos) (eK .non) (.q q) := PE.wk pe_non fun σ H Q ⟨F, O, ρ, d, R, hf, hq⟩ => by
  cases hf; exact hq F H _ R (.refl _) (.refl _) .non
/-- a global whose value is an int -/
theorem de_gint {x : Str} {i : Int} {u : Value} (hg : Gl X x) (hm : X.mg x = some u) (r : RelV (.int i) u) (hd : (x == ("__debug__" : Str)) = false := by decide) : DE X T H0 Γ (.Name x pos) (eK (.int i)) (.q q) :=
  PE.wk (pe_glob hg hm r hd) fun σ H Q ⟨F, O, ρ, d, R, hf, hq⟩ => by cases hf; exact hq F H _ R (.refl _) (.refl _) (.int i)
theorem de_gstr {x : Str} {i : Str} {u : Value} (hg : Gl X x) (hm : X.mg x = some u) (r : RelV (.str i) u) (hd : (x == ("__debug__" : Str)) = false := by decide) : DE X T H0 Γ (.Name x pos) (eK (.str i)) (.q q) :=
  PE.wk (pe_glob hg hm r hd) fun σ H Q ⟨F, O, ρ, d, R, hf, hq⟩ => by cases hf; exact hq F H _ R (.refl _) (.refl _) (.str i)
theorem vals_reps {K : PySem.W.Frag} {T : Tb} {N : Addr → Prop} {F : Hp} : ∀ (ns : List Int), RepsG K T N F (ns.map V.int) (ns.map D.int)
  | [] => .nil
  | n :: ns => .cons (.int n) (vals_reps ns)
/-- a global that is a written tuple of ints -/
theorem de_gtup {x : Str} {ns : List Int} {p : Addr} {hd' : (x == ("__debug__" : Str)) = false} (hg : Gl X x) (hm : X.mg x = some (.ref p)) (r : ∃ (o : Obj) (its : Array Value) (n : Nat), X.K.lookup p = some o ∧ o.cls = .type "tuple" ∧ o.data = .seq its n ∧ its.size ≤ sizeLine ∧ Vals (ns.map V.int) its.toList) : DE X T H0 Γ (.Name x pos) (eK (.tup (ns.map D.int))) (.q q) :=
  PE.wk (pe_glob (v := .ref p) hg hm rfl hd') fun σ H Q ⟨F, O, ρ, d, R, hf, hq⟩ => by cases hf; exact hq F H _ R (.refl _) (.refl _) (.tup (.inr r) (vals_reps ns))

/-! ### names -/
theorem de_v (i : Nat) (hm : Γ[i]? = some (.fz q)) {x : Str} (h : PE X (.Name x pos) (tVar i)) : DE X T H0 Γ (.Name x pos) (eV i) (.q q) := PE.wk h fun σ H Q ⟨F, O, ρ, d, R, hf, hq⟩ => by
  obtain ⟨v, d', h1, h2, h3⟩ := R.sl i _ hm
  have : ρ[i]? = some d := hf
  rw [h2] at this; cases this
  exact ⟨v, h1, hq F H v R (.refl _) (.refl _) h3⟩
theorem de_vl (i : Nat) (hm : Γ[i]? = some (.fl q)) {x : Str} (h : PE X (.Name x pos) (tVar i)) : DE X T H0 Γ (.Name x pos) (eV i) (.fl q) := PE.wk h fun σ H Q ⟨F, O, ρ, d, R, hf, hq⟩ => by
  obtain ⟨a, vs, ds, h1, h2, h3, h4⟩ := R.sl i _ hm
  have : ρ[i]? = some d := hf
  rw [h2] at this; cases this
  exact ⟨_, h1, hq F H _ R (.refl _) (.refl _) ⟨a, vs, ds, rfl, rfl, h3, h4⟩⟩
theorem de_vlU (i : Nat) (hm : Γ[i]? = some (.fl q)) {x : Str} (h : PE X (.Name x pos) (tVar i)) : DE X T H0 Γ (.Name x pos) (eV i) (.q .U) := PE.wk h fun σ H Q ⟨F, O, ρ, d, R, hf, hq⟩ => by
  obtain ⟨a, vs, ds, h1, h2, h3, h4⟩ := R.sl i _ hm
  have : ρ[i]? = some d := hf
  rw [h2] at this; cases this
  exact ⟨_, h1, hq F H _ R (.refl _) (.refl _) (.lst h3 trivial (h4.mono (.refl _) fun _ _ => trivial))⟩
theorem de_vo (i : Nat) (hm : Γ[i]? = some (.ow q)) {x : Str} (h : PE X (.Name x pos) (tVar i)) : DE X T H0 Γ (.Name x pos) (eV i) (.bl q) := PE.wk h fun σ H Q ⟨F, O, ρ, d, R, hf, hq⟩ => by
  obtain ⟨a, vs, ds, h1, h2, h3, h4, h5⟩ := R.sl i _ hm
  have : ρ[i]? = some d := hf
  rw [h2] at this; cases this
  exact ⟨_, h1, hq F H _ R (.refl _) (.refl _) ⟨a, vs, ds, rfl, rfl, h3, h5⟩⟩

/-! ### kinds -/
theorem de_wk (h : DE X T H0 Γ e f k) {k' : Knd} (i : ∀ F O σ H ρ v d, Rl X.K T H0 Γ F O σ H ρ → Rp X.K T H0 F H O k v d → Rp X.K T H0 F H O k' v d) : DE X T H0 Γ e f k' :=
  PE.wk h fun σ H Q ⟨F, O, ρ, d, R, hf, hq⟩ => ⟨F, O, ρ, d, R, hf, fun F' H' v R' sF sH r => hq F' H' v R' sF sH (i _ _ _ _ _ _ _ R' r)⟩
theorem de_q {p : Q3} (h : DE X T H0 Γ e f (.q p)) (hl : p.le q = true := by rfl) : DE X T H0 Γ e f (.q q) := de_wk h fun F O σ H ρ v d R r => RepG.mono (.refl _) (NK.le hl) r
theorem de_B (h : DE X T H0 Γ e f k) : DE X T H0 Γ e f .B := de_wk h fun F O σ H ρ v d R r => R.toB r
/-- a new list, read as it stands -/
theorem de_ob (h : DE X T H0 Γ e f (.ol q)) : DE X T H0 Γ e f (.bl q) := de_wk h fun F O σ H ρ v d R ⟨a, vs, ds, h1, h2, h3, _, _, h4⟩ => ⟨a, vs, ds, h1, h2, h3, h4⟩
theorem de_oo {p : Q3} (h : DE X T H0 Γ e f (.ol p)) (hl : p.le q = true := by rfl) : DE X T H0 Γ e f (.ol q) := de_wk h fun F O σ H ρ v d R ⟨a, vs, ds, h1, h2, h3, h4, h5, h6⟩ => ⟨a, vs, ds, h1, h2, h3, h4, h5, RepsG.mono (.refl _) (NK.le hl) h6⟩
theorem de_bb {p : Q3} (h : DE X T H0 Γ e f (.bl p)) (hl : p.le q = true := by rfl) : DE X T H0 Γ e f (.bl q) := de_wk h fun F O σ H ρ v d R ⟨a, vs, ds, h1, h2, h3, h4⟩ => ⟨a, vs, ds, h1, h2, h3, RepsG.mono (.refl _) (NK.le hl) h4⟩
theorem de_fb (h : DE X T H0 Γ e f (.fl q)) : DE X T H0 Γ e f (.bl q) := de_wk h fun F O σ H ρ v d R ⟨a, vs, ds, h1, h2, h3, h4⟩ => ⟨a, vs, ds, h1, h2, R.fh _ _ h3, h4⟩
theorem de_fU (h : DE X T H0 Γ e f (.fl q)) : DE X T H0 Γ e f (.q .U) := de_wk h fun F O σ H ρ v d R ⟨a, vs, ds, h1, h2, h3, h4⟩ => by
  subst h1; subst h2
  exact .lst h3 trivial (h4.mono (.refl _) fun _ _ => trivial)
theorem de_ff {p : Q3} (h : DE X T H0 Γ e f (.fl p)) (hl : p.le q = true := by rfl) : DE X T H0 Γ e f (.fl q) := de_wk h fun F O σ H ρ v d R ⟨a, vs, ds, h1, h2, h3, h4⟩ => ⟨a, vs, ds, h1, h2, h3, RepsG.mono (.refl _) (NK.le hl) h4⟩
/-- a new list, frozen -/
theorem fz_new {F H : Hp} {O : Own} {σ : L2.St} {ρ : List D} {K : PySem.W.Frag} (R : Rl K T H0 Γ F O σ H ρ) {a : Addr} {o : HO} (ha : H a = some o) (hF : F a = none) (hO : ∀ i, ¬ O i a) : Rl K T H0 Γ (upd F a o) O σ H ρ ∧ Same F (upd F a o) := by
  have sF : Same F (upd F a o) := fun b u e => by rw [upd_ne (ne_of_none e hF)]; exact e
  refine ⟨R.more sF (fun b u e => ?_) (fun i b h => ?_), sF⟩
  · by_cases hb : b = a
    · subst hb; rw [upd_same] at e; rw [ha, ← e]
    · rw [upd_ne hb] at e; exact R.fh _ _ e
  · rw [upd_ne (fun z => by subst z; exact hO i h)]; exact (R.on i b h).1
theorem de_oq {p : Q3} (h : DE X T H0 Γ e f (.ol p)) (hl : p.le q = true := by rfl) (hL : Q3.L.le q = true := by rfl) : DE X T H0 Γ e f (.q q) :=
  PE.wk h fun σ H Q ⟨F, O, ρ, d, R, hf, hq⟩ => ⟨F, O, ρ, d, R, hf, fun F' H' v R' sF sH ⟨a, vs, ds, e1, e2, h1, h2, h3, h4⟩ => by
    subst e1; subst e2
    obtain ⟨R2, s2⟩ := fz_new R' h1 h2 h3
    refine hq _ H' _ R2 (sF.trans s2) sH (.lst upd_same (NK.le hL _ (R'.h0.free h2)) (h4.mono s2 (NK.le hl)))⟩
theorem de_of (h : DE X T H0 Γ e f (.ol q)) : DE X T H0 Γ e f (.fl q) :=
  PE.wk h fun σ H Q ⟨F, O, ρ, d, R, hf, hq⟩ => ⟨F, O, ρ, d, R, hf, fun F' H' v R' sF sH ⟨a, vs, ds, e1, e2, h1, h2, h3, h4⟩ => by
    obtain ⟨R2, s2⟩ := fz_new R' h1 h2 h3
    exact hq _ H' _ R2 (sF.trans s2) sH ⟨a, vs, ds, e1, e2, upd_same, s2.rqs h4⟩⟩
theorem de_A (h : DE X T H0 Γ e f k) (hk : k = .q .L ∨ k = .q .U ∨ k = .q .A := by first | exact .inl rfl | exact .inr (.inl rfl) | exact .inr (.inr rfl)) : DE X T H0 Γ e (eA f) (.q q) :=
  PE.wk h fun σ H Q ⟨F, O, ρ, d, R, hf, hq⟩ => by
    unfold eA at hf
    cases h1 : f ρ with
    | none => rw [h1] at hf; cases hf
    | some d' =>
      rw [h1] at hf
      simp only [Option.bind_some] at hf
      split at hf
      · rename_i hl
        cases hf
        refine ⟨F, O, ρ, _, R, h1, fun F' H' v R' sF sH r => hq F' H' v R' sF sH ?_⟩
        rcases hk with rfl | rfl | rfl <;> exact RepG.lf r hl
      · cases hf

/-! ### operators -/
theorem bin_sem {K : PySem.W.Frag} {r : R2} {g : D → D → Option D} (hp : ka.pers = true)
    (hr : ∀ F O σ H ρ v u x y d Q, Rl K T H0 Γ F O σ H ρ → Rp K T H0 F H O ka v x → Rp K T H0 F H O kb u y → g x y = some d → (∀ F' H' w, Rl K T H0 Γ F' O σ H' ρ → Same F F' → Same H H' → Rp K T H0 F' H' O k w d → Q w H') → r v u H Q) :
    ∀ σ H Q, tD K T H0 Γ (e2 g fa fb) k σ H Q → tOp r (tD K T H0 Γ fa ka) (tD K T H0 Γ fb kb) σ H Q := by
  rintro σ H Q ⟨F, O, ρ, d, R, hf, hq⟩
  unfold e2 at hf
  cases h1 : fa ρ with
  | none => rw [h1] at hf; cases hf
  | some x =>
    rw [h1] at hf
    simp only [Option.bind_some] at hf
    cases h2 : fb ρ with
    | none => rw [h2] at hf; cases hf
    | some y =>
      rw [h2] at hf
      simp only [Option.bind_some] at hf
      refine ⟨F, O, ρ, x, R, h1, fun F1 H1 v R1 s1 t1 r1 => ⟨F1, O, ρ, y, R1, h2, fun F2 H2 u R2 s2 t2 r2 => ?_⟩⟩
      exact hr F2 O σ H2 ρ v u x y d Q R2 (r1.pers hp s2 t2) r2 hf fun F' H' w R' s' t' rw => hq F' H' w R' ((s1.trans s2).trans s') ((t1.trans t2).trans t') rw
/-- the value of an int -/
theorem Rp.int {K : PySem.W.Frag} {F H : Hp} {O : Own} {v : V} {i : Int} (h : Rp K T H0 F H O k v (.int i)) : v = .int i := by
  cases k with
  | q p => cases h; rfl
  | B => cases h; rfl
  | bl p => obtain ⟨_, _, _, _, e, _⟩ := h; cases e
  | fl p => obtain ⟨_, _, _, _, e, _⟩ := h; cases e
  | ol p => obtain ⟨_, _, _, _, e, _⟩ := h; cases e
theorem Rp.bl {K : PySem.W.Frag} {F H : Hp} {O : Own} {v : V} {i : Bool} (h : Rp K T H0 F H O k v (.bl i)) : v = .bl i := by
  cases k with
  | q p => cases h; rfl
  | B => cases h; rfl
  | bl p => obtain ⟨_, _, _, _, e, _⟩ := h; cases e
  | fl p => obtain ⟨_, _, _, _, e, _⟩ := h; cases e
  | ol p => obtain ⟨_, _, _, _, e, _⟩ := h; cases e
theorem Rp.str {K : PySem.W.Frag} {F H : Hp} {O : Own} {v : V} {i : Str} (h : Rp K T H0 F H O k v (.str i)) : v = .str i := by
  cases k with
  | q p => cases h; rfl
  | B => cases h; rfl
  | bl p => obtain ⟨_, _, _, _, e, _⟩ := h; cases e
  | fl p => obtain ⟨_, _, _, _, e, _⟩ := h; cases e
  | ol p => obtain ⟨_, _, _, _, e, _⟩ := h; cases e
theorem i2_some {g : Int → Int → Option D} {x y d : D} (h : i2 g x y = some d) : ∃ i j, x = .int i ∧ y = .int j ∧ g i j = some d := by
  unfold i2 at h
  split at h
  · exact ⟨_, _, rfl, rfl, h⟩
  · cases h
/-- an operator on two ints -/
theorem opI_sem {K : PySem.W.Frag} {r : R2} {g : Int → Int → Option D} (hp : ka.pers = true) (hr : ∀ i j d, g i j = some d → ∃ w, atomV d = some w ∧ ∀ H Q, Q w H → r (.int i) (.int j) H Q) :
    ∀ σ H Q, tD K T H0 Γ (e2 (i2 g) fa fb) (.q q) σ H Q → tOp r (tD K T H0 Γ fa ka) (tD K T H0 Γ fb kb) σ H Q :=
  bin_sem hp fun F O σ H ρ v u x y d Q R rv ru hg hq => by
    obtain ⟨i, j, rfl, rfl, hg⟩ := i2_some hg
    obtain ⟨w, hw, hr⟩ := hr i j d hg
    rw [rv.int, ru.int]
    exact hr H Q (hq F H w R (.refl _) (.refl _) (atom_rep hw))
theorem de_opI {op : Operator} {r : R2} {g : Int → Int → Option D} (ho : OpR X (binaryOp op) r) (ha : DE X T H0 Γ a fa ka) (hb : DE X T H0 Γ b fb kb) (hr : ∀ i j d, g i j = some d → ∃ w, atomV d = some w ∧ ∀ H Q, Q w H → r (.int i) (.int j) H Q) (hp : ka.pers = true := by rfl) :
    DE X T H0 Γ (.BinOp a op b pos) (e2 (i2 g) fa fb) (.q q) := PE.wk (pe_op ho ha hb) (opI_sem hp hr)
theorem de_add (ha : DE X T H0 Γ a fa ka) (hb : DE X T H0 Γ b fb kb) (hp : ka.pers = true := by rfl) : DE X T H0 Γ (.BinOp a .Add b pos) (e2 gAdd fa fb) (.q q) :=
  de_opI op_add ha hb (fun i j d h => by cases h; exact ⟨_, rfl, fun H Q z => ⟨i, j, rfl, rfl, z⟩⟩) hp
theorem de_sub (ha : DE X T H0 Γ a fa ka) (hb : DE X T H0 Γ b fb kb) (hp : ka.pers = true := by rfl) : DE X T H0 Γ (.BinOp a .Sub b pos) (e2 gSbI fa fb) (.q q) :=
  de_opI op_sub ha hb (fun i j d h => by cases h; exact ⟨_, rfl, fun H Q z => ⟨i, j, rfl, rfl, z⟩⟩) hp
theorem de_mul (ha : DE X T H0 Γ a fa ka) (hb : DE X T H0 Γ b fb kb) (hp : ka.pers = true := by rfl) : DE X T H0 Γ (.BinOp a .Mult b pos) (e2 gMul fa fb) (.q q) :=
  de_opI (OpR.or op_mul op_mulW) ha hb (fun i j d h => by
    split at h
    · rename_i c
      cases h
      refine ⟨_, rfl, fun H Q z => ?_⟩
      rcases mulOk_C c with c | c
      · exact .inl ⟨i, j, rfl, rfl, c, z⟩
      · exact .inr ⟨i, j, rfl, rfl, c, z⟩
    · cases h) hp
theorem de_div (ha : DE X T H0 Γ a fa ka) (hb : DE X T H0 Γ b fb kb) (hp : ka.pers = true := by rfl) : DE X T H0 Γ (.BinOp a .FloorDiv b pos) (e2 gDiv fa fb) (.q q) :=
  de_opI op_fdivW ha hb (fun i j d h => by
    split at h
    · rename_i c
      cases h
      exact ⟨_, rfl, fun H Q z => ⟨i, j, rfl, rfl, c, z⟩⟩
    · cases h) hp
theorem de_mod (ha : DE X T H0 Γ a fa ka) (hb : DE X T H0 Γ b fb kb) (hp : ka.pers = true := by rfl) : DE X T H0 Γ (.BinOp a .Mod b pos) (e2 gMod fa fb) (.q q) :=
  de_opI op_mod ha hb (fun i j d h => by
    split at h
    · rename_i c
      cases h
      exact ⟨_, rfl, fun H Q z => ⟨i, j, rfl, rfl, c, z⟩⟩
    · cases h) hp
theorem de_pow (ha : DE X T H0 Γ a fa ka) (hb : DE X T H0 Γ b fb kb) (hp : ka.pers = true := by rfl) : DE X T H0 Γ (.BinOp a .Pow b pos) (e2 gPow fa fb) (.q q) :=
  de_opI op_pow ha hb (fun i j d h => by
    split at h
    · rename_i c
      cases h
      have h1 := small_lt c.2.1
      rw [show (2 : Nat) ^ 10 = 1024 from by decide] at h1
      exact ⟨_, rfl, fun H Q z => ⟨i, j, rfl, rfl, ⟨c.1, by omega, small_lt c.2.2⟩, z⟩⟩
    · cases h) hp
theorem de_and (ha : DE X T H0 Γ a fa ka) (hb : DE X T H0 Γ b fb kb) (hp : ka.pers = true := by rfl) : DE X T H0 Γ (.BinOp a .BitAnd b pos) (e2 gAnd fa fb) (.q q) :=
  de_opI op_and ha hb (fun i j d h => by cases h; exact ⟨_, rfl, fun H Q z => ⟨i, j, rfl, rfl, z⟩⟩) hp
theorem de_or (ha : DE X T H0 Γ a fa ka) (hb : DE X T H0 Γ b fb kb) (hp : ka.pers = true := by rfl) : DE X T H0 Γ (.BinOp a .BitOr b pos) (e2 gOr fa fb) (.q q) :=
  de_opI op_or ha hb (fun i j d h => by cases h; exact ⟨_, rfl, fun H Q z => ⟨i, j, rfl, rfl, z⟩⟩) hp
theorem de_xor (ha : DE X T H0 Γ a fa ka) (hb : DE X T H0 Γ b fb kb) (hp : ka.pers = true := by rfl) : DE X T H0 Γ (.BinOp a .BitXor b pos) (e2 gXor fa fb) (.q q) :=
  de_opI op_xor ha hb (fun i j d h => by cases h; exact ⟨_, rfl, fun H Q z => ⟨i, j, rfl, rfl, z⟩⟩) hp
theorem un_sem {K : PySem.W.Frag} {r : V → Hp → VK → Prop} {g : D → Option D}
    (hr : ∀ F O σ H ρ v x d Q, Rl K T H0 Γ F O σ H ρ → Rp K T H0 F H O ka v x → g x = some d → (∀ F' H' w, Rl K T H0 Γ F' O σ H' ρ → Same F F' → Same H H' → Rp K T H0 F' H' O k w d → Q w H') → r v H Q) :
    ∀ σ H Q, tD K T H0 Γ (e1 g fa) k σ H Q → tUn r (tD K T H0 Γ fa ka) σ H Q := by
  rintro σ H Q ⟨F, O, ρ, d, R, hf, hq⟩
  unfold e1 at hf
  cases h1 : fa ρ with
  | none => rw [h1] at hf; cases hf
  | some x =>
    rw [h1] at hf
    simp only [Option.bind_some] at hf
    refine ⟨F, O, ρ, x, R, h1, fun F1 H1 v R1 s1 t1 r1 => ?_⟩
    exact hr F1 O σ H1 ρ v x d Q R1 r1 hf fun F' H' w R' s' t' rw => hq F' H' w R' (s1.trans s') (t1.trans t') rw
theorem de_neg (ha : DE X T H0 Γ a fa ka) : DE X T H0 Γ (.UnaryOp .USub a pos) (e1 gNeg fa) (.q q) :=
  PE.wk (pe_un un_neg ha) (un_sem fun F O σ H ρ v x d Q R rv hg hq => by
    unfold gNeg i1 at hg
    split at hg
    · rename_i i
      cases hg
      rw [rv.int]
      exact ⟨i, rfl, hq F H _ R (.refl _) (.refl _) (RepG.int _)⟩
    · cases hg)

/-! ### comparisons -/
theorem dec_int' {i j : Int} : decide (V.int i = V.int j) = decide (i = j) := decide_eq_decide.mpr ⟨fun h => V.int.inj h, fun h => by rw [h]⟩
theorem dec_bl' {i j : Bool} : decide (V.bl i = V.bl j) = decide (i = j) := decide_eq_decide.mpr ⟨fun h => V.bl.inj h, fun h => by rw [h]⟩
theorem dec_str' {i j : Str} : decide (V.str i = V.str j) = decide (i = j) := decide_eq_decide.mpr ⟨fun h => V.str.inj h, fun h => by rw [h]⟩
theorem de_cmp {op : CmpOp} {r : R2} {g : D → D → Option D} (ho : OpR X (compareOp op) r) (ha : DE X T H0 Γ a fa ka) (hb : DE X T H0 Γ b fb kb) (hm : behindInMarks op b = false)
    (hs : ∀ σ H Q, tD X.K T H0 Γ (e2 g fa fb) (.q q) σ H Q → tOp r (tD X.K T H0 Γ fa ka) (tD X.K T H0 Γ fb kb) σ H Q) : DE X T H0 Γ (.Compare a [op] [b] pos) (e2 g fa fb) (.q q) := PE.wk (pe_cmpR ho ha hb hm) hs
theorem dt_cmp {op : CmpOp} {r : R2} {g : D → D → Option D} (ho : OpR X (compareOp op) r) (ha : DE X T H0 Γ a fa ka) (hb : DE X T H0 Γ b fb kb) (hm : behindInMarks op b = false)
    (hs : ∀ σ H Q, tD X.K T H0 Γ (e2 g fa fb) (.q .A) σ H Q → tOp r (tD X.K T H0 Γ fa ka) (tD X.K T H0 Γ fb kb) σ H Q) : DT X T H0 Γ (.Compare a [op] [b] pos) (t2b (e2 g fa fb)) :=
  PT.wk (pt_cmpR ho ha hb hm) fun σ H Q ⟨F, O, ρ, d, R, hf, hq⟩ => by
    unfold t2b at hf
    cases h1 : e2 g fa fb ρ with
    | none => rw [h1] at hf; cases hf
    | some x =>
      rw [h1] at hf
      simp only [Option.bind_some] at hf
      split at hf
      · cases hf
        exact hs σ H _ ⟨F, O, ρ, _, R, h1, fun F' H' v R' s t r => ⟨_, Rp.bl r, hq F' H' R' s t⟩⟩
      · cases hf
theorem cs_lt {K : PySem.W.Frag} (hp : ka.pers = true) : ∀ σ H Q, tD K T H0 Γ (e2 gLt fa fb) (.q q) σ H Q → tOp (rI0 fun i j => .bl (decide (i < j))) (tD K T H0 Γ fa ka) (tD K T H0 Γ fb kb) σ H Q := opI_sem hp fun i j d h => by cases h; exact ⟨_, rfl, fun H Q z => ⟨i, j, rfl, rfl, z⟩⟩
theorem cs_le {K : PySem.W.Frag} (hp : ka.pers = true) : ∀ σ H Q, tD K T H0 Γ (e2 gLe fa fb) (.q q) σ H Q → tOp (rI0 fun i j => .bl (decide (i ≤ j))) (tD K T H0 Γ fa ka) (tD K T H0 Γ fb kb) σ H Q := opI_sem hp fun i j d h => by cases h; exact ⟨_, rfl, fun H Q z => ⟨i, j, rfl, rfl, z⟩⟩
theorem cs_gt {K : PySem.W.Frag} (hp : ka.pers = true) : ∀ σ H Q, tD K T H0 Γ (e2 gGt fa fb) (.q q) σ H Q → tOp (rI0 fun i j => .bl (decide (j < i))) (tD K T H0 Γ fa ka) (tD K T H0 Γ fb kb) σ H Q := opI_sem hp fun i j d h => by cases h; exact ⟨_, rfl, fun H Q z => ⟨i, j, rfl, rfl, z⟩⟩
theorem cs_ge {K : PySem.W.Frag} (hp : ka.pers = true) : ∀ σ H Q, tD K T H0 Γ (e2 gGe fa fb) (.q q) σ H Q → tOp (rI0 fun i j => .bl (decide (j ≤ i))) (tD K T H0 Γ fa ka) (tD K T H0 Γ fb kb) σ H Q := opI_sem hp fun i j d h => by cases h; exact ⟨_, rfl, fun H Q z => ⟨i, j, rfl, rfl, z⟩⟩
theorem cs_eqS {K : PySem.W.Frag} (hp : ka.pers = true) : ∀ σ H Q, tD K T H0 Γ (e2 gEqS fa fb) (.q q) σ H Q → tOp rEq (tD K T H0 Γ fa ka) (tD K T H0 Γ fb kb) σ H Q := bin_sem hp fun F O σ H ρ v u x y d Q R rv ru hg hq => by
  unfold gEqS at hg
  split at hg
  · cases hg
    rw [rv.int, ru.int]
    exact ⟨rfl, by rw [dec_int']; exact hq F H _ R (.refl _) (.refl _) (RepG.bl _)⟩
  · cases hg
    rw [rv.bl, ru.bl]
    exact ⟨rfl, by rw [dec_bl']; exact hq F H _ R (.refl _) (.refl _) (RepG.bl _)⟩
  · cases hg
    rw [rv.str, ru.str]
    exact ⟨rfl, by rw [dec_str']; exact hq F H _ R (.refl _) (.refl _) (RepG.bl _)⟩
  · cases hg
theorem cs_neS {K : PySem.W.Frag} (hp : ka.pers = true) : ∀ σ H Q, tD K T H0 Γ (e2 gNeS fa fb) (.q q) σ H Q → tOp rNe (tD K T H0 Γ fa ka) (tD K T H0 Γ fb kb) σ H Q := bin_sem hp fun F O σ H ρ v u x y d Q R rv ru hg hq => by
  unfold gNeS at hg
  split at hg
  · cases hg
    rw [rv.int, ru.int]
    exact ⟨rfl, by rw [dec_int']; exact hq F H _ R (.refl _) (.refl _) (RepG.bl _)⟩
  · cases hg
    rw [rv.bl, ru.bl]
    exact ⟨rfl, by rw [dec_bl']; exact hq F H _ R (.refl _) (.refl _) (RepG.bl _)⟩
  · cases hg
    rw [rv.str, ru.str]
    exact ⟨rfl, by rw [dec_str']; exact hq F H _ R (.refl _) (.refl _) (RepG.bl _)⟩
  · cases hg

/-! ### tests -/
/-- a bool's value, as a test -/
theorem dt_val (ha : DE X T H0 Γ e f k) (he : ∀ whole, isTrue e X.env whole = (do let v ← whole; standAt e.pos; holding [v] (truthy v)) := by intro _; rfl) : DT X T H0 Γ e (t2b f) :=
  PT.wk (pt_val ha he) fun σ H Q ⟨F, O, ρ, d, R, hf, hq⟩ => by
    unfold t2b at hf
    cases h1 : f ρ with
    | none => rw [h1] at hf; cases hf
    | some x =>
      rw [h1] at hf
      simp only [Option.bind_some] at hf
      split at hf
      · cases hf
        exact ⟨F, O, ρ, _, R, h1, fun F' H' v R' s t r => ⟨_, Rp.bl r, hq F' H' R' s t⟩⟩
      · cases hf
variable {ta tb tc : List D → Option Bool} {rest : List Expr}
theorem dw_and1 (ha : DT X T H0 Γ a ta) : DW X T H0 Γ (.BoolOp .And [a] pos) ta := pw_and1 ha
theorem dw_or1 (ha : DT X T H0 Γ a ta) : DW X T H0 Γ (.BoolOp .Or [a] pos) ta := pw_or1 ha
theorem dw_and (ha : DT X T H0 Γ a ta) (hb : DW X T H0 Γ (.BoolOp .And (b :: rest) pos) tb) : DW X T H0 Γ (.BoolOp .And (a :: b :: rest) pos) (bAnd ta tb) :=
  PW.wk (pw_and ha hb) fun σ H Q ⟨F, O, ρ, d, R, hf, hq⟩ => by
    unfold bAnd at hf
    cases h1 : ta ρ with
    | none => rw [h1] at hf; cases hf
    | some x =>
      rw [h1] at hf
      simp only [Option.bind_some] at hf
      refine ⟨F, O, ρ, x, R, h1, fun F1 H1 R1 s1 t1 => ?_⟩
      cases x with
      | true => exact ⟨F1, O, ρ, d, R1, by simpa using hf, fun F2 H2 R2 s2 t2 => hq F2 H2 R2 (s1.trans s2) (t1.trans t2)⟩
      | false =>
        simp at hf
        subst hf
        exact hq F1 H1 R1 s1 t1
theorem dw_or (ha : DT X T H0 Γ a ta) (hb : DW X T H0 Γ (.BoolOp .Or (b :: rest) pos) tb) : DW X T H0 Γ (.BoolOp .Or (a :: b :: rest) pos) (bOr ta tb) :=
  PW.wk (pw_or ha hb) fun σ H Q ⟨F, O, ρ, d, R, hf, hq⟩ => by
    unfold bOr at hf
    cases h1 : ta ρ with
    | none => rw [h1] at hf; cases hf
    | some x =>
      rw [h1] at hf
      simp only [Option.bind_some] at hf
      refine ⟨F, O, ρ, x, R, h1, fun F1 H1 R1 s1 t1 => ?_⟩
      cases x with
      | false => exact ⟨F1, O, ρ, d, R1, by simpa using hf, fun F2 H2 R2 s2 t2 => hq F2 H2 R2 (s1.trans s2) (t1.trans t2)⟩
      | true =>
        simp at hf
        subst hf
        exact hq F1 H1 R1 s1 t1
theorem dt_not (ha : DT X T H0 Γ a ta) : DT X T H0 Γ (.UnaryOp .Not a pos) (bNot ta) :=
  PT.wk (pt_not ha) fun σ H Q ⟨F, O, ρ, d, R, hf, hq⟩ => by
    unfold bNot at hf
    cases h1 : ta ρ with
    | none => rw [h1] at hf; cases hf
    | some x =>
      rw [h1] at hf
      simp only [Option.bind_some] at hf
      cases hf
      exact ⟨F, O, ρ, x, R, h1, fun F1 H1 R1 s1 t1 => hq F1 H1 R1 s1 t1⟩
/-- and, or, not as values of bools: the same computations -/
theorem de_one {op} (ha : DE X T H0 Γ a fa k) : DE X T H0 Γ (.BoolOp op [a] pos) fa k := pe_one ha
def eAnd (a b : EF) : EF := fun ρ => (a ρ).bind fun d => match d with | .bl c => if c = true then b ρ else some (.bl false) | _ => none
def eOr (a b : EF) : EF := fun ρ => (a ρ).bind fun d => match d with | .bl c => if c = true then some (.bl true) else b ρ | _ => none
def eNot (a : EF) : EF := fun ρ => (a ρ).bind fun d => match d with | .bl c => some (.bl (!c)) | _ => none
theorem de_andV (ha : DE X T H0 Γ a fa ka) (hb : DE X T H0 Γ (.BoolOp .And (b :: rest) pos) fb (.q q)) : DE X T H0 Γ (.BoolOp .And (a :: b :: rest) pos) (eAnd fa fb) (.q q) :=
  PE.wk (pe_and ha hb) fun σ H Q ⟨F, O, ρ, d, R, hf, hq⟩ => by
    unfold eAnd at hf
    cases h1 : fa ρ with
    | none => rw [h1] at hf; cases hf
    | some x =>
      rw [h1] at hf
      simp only [Option.bind_some] at hf
      split at hf
      · rename_i c
        refine ⟨F, O, ρ, _, R, h1, fun F1 H1 v R1 s1 t1 r1 => ⟨c, r1.bl, ?_⟩⟩
        cases c with
        | true => exact ⟨F1, O, ρ, d, R1, by simpa using hf, fun F2 H2 v R2 s2 t2 r2 => hq F2 H2 v R2 (s1.trans s2) (t1.trans t2) r2⟩
        | false =>
          simp at hf
          subst hf
          exact hq F1 H1 _ R1 s1 t1 (RepG.bl false)
      · cases hf
theorem de_orV (ha : DE X T H0 Γ a fa ka) (hb : DE X T H0 Γ (.BoolOp .Or (b :: rest) pos) fb (.q q)) : DE X T H0 Γ (.BoolOp .Or (a :: b :: rest) pos) (eOr fa fb) (.q q) :=
  PE.wk (pe_or ha hb) fun σ H Q ⟨F, O, ρ, d, R, hf, hq⟩ => by
    unfold eOr at hf
    cases h1 : fa ρ with
    | none => rw [h1] at hf; cases hf
    | some x =>
      rw [h1] at hf
      simp only [Option.bind_some] at hf
      split at hf
      · rename_i c
        refine ⟨F, O, ρ, _, R, h1, fun F1 H1 v R1 s1 t1 r1 => ⟨c, r1.bl, ?_⟩⟩
        cases c with
        | false => exact ⟨F1, O, ρ, d, R1, by simpa using hf, fun F2 H2 v R2 s2 t2 r2 => hq F2 H2 v R2 (s1.trans s2) (t1.trans t2) r2⟩
        | true =>
          simp at hf
          subst hf
          exact hq F1 H1 _ R1 s1 t1 (RepG.bl true)
      · cases hf
theorem de_notV (ha : DE X T H0 Γ a fa ka) : DE X T H0 Γ (.UnaryOp .Not a pos) (eNot fa) (.q q) :=
  PE.wk (L2.pe_not ha) fun σ H Q ⟨F, O, ρ, d, R, hf, hq⟩ => by
    unfold eNot at hf
    cases h1 : fa ρ with
    | none => rw [h1] at hf; cases hf
    | some x =>
      rw [h1] at hf
      simp only [Option.bind_some] at hf
      split at hf
      · rename_i c
        cases hf
        exact ⟨F, O, ρ, _, R, h1, fun F1 H1 v R1 s1 t1 r1 => ⟨c, r1.bl, hq F1 H1 _ R1 s1 t1 (RepG.bl _)⟩⟩
      · cases hf
theorem de_if {c : Expr} (hc : DT X T H0 Γ c tc) (ha : DE X T H0 Γ a fa k) (hb : DE X T H0 Γ b fb k) : DE X T H0 Γ (.IfExp c a b pos) (eIf tc fa fb) k :=
  PE.wk (pe_ifExp hc ha hb) fun σ H Q ⟨F, O, ρ, d, R, hf, hq⟩ => by
    unfold eIf at hf
    cases h1 : tc ρ with
    | none => rw [h1] at hf; cases hf
    | some x =>
      rw [h1] at hf
      simp only [Option.bind_some] at hf
      refine ⟨F, O, ρ, x, R, h1, fun F1 H1 R1 s1 t1 => ?_⟩
      cases x with
      | true => exact ⟨F1, O, ρ, d, R1, by simpa using hf, fun F2 H2 v R2 s2 t2 r2 => hq F2 H2 v R2 (s1.trans s2) (t1.trans t2) r2⟩
      | false => exact ⟨F1, O, ρ, d, R1, by simpa using hf, fun F2 H2 v R2 s2 t2 r2 => hq F2 H2 v R2 (s1.trans s2) (t1.trans t2) r2⟩

/-! ### arguments, displays -/
variable {fs : List D → Option (List D)}
theorem da_nil : DA X T H0 Γ [] aNil := PA.wk pa_nil fun σ H Q ⟨F, O, ρ, ds, R, hf, hq⟩ => by cases hf; exact hq F H _ R (.refl _) (.refl _) .nil
theorem da_cons (ha : DE X T H0 Γ e f k) (hr : DA X T H0 Γ es fs) (hs : starEach (e :: es) X.env = (false, eval e X.env) :: starEach es X.env := by rfl) : DA X T H0 Γ (e :: es) (aCons f fs) :=
  PA.wk (pa_cons ha hr hs) fun σ H Q ⟨F, O, ρ, ds, R, hf, hq⟩ => by
    unfold aCons at hf
    cases h1 : f ρ with
    | none => rw [h1] at hf; cases hf
    | some x =>
      rw [h1] at hf
      simp only [Option.bind_some] at hf
      cases h2 : fs ρ with
      | none => rw [h2] at hf; cases hf
      | some xs =>
        rw [h2] at hf
        cases hf
        refine ⟨F, O, ρ, x, R, h1, fun F1 H1 v R1 s1 t1 r1 => ⟨F1, O, ρ, xs, R1, h2, fun F2 H2 vs R2 s2 t2 r2 => ?_⟩⟩
        exact hq F2 H2 _ R2 (s1.trans s2) (t1.trans t2) (.cons (t2.rU (R1.toB r1)) r2)
theorem dq_nil : DQ X T H0 Γ [] aNil q := PA.wk pa_nil fun σ H Q ⟨F, O, ρ, ds, R, hf, hq⟩ => by cases hf; exact hq F H _ R (.refl _) (.refl _) .nil
theorem dq_cons (ha : DE X T H0 Γ e f (.q q)) (hr : DQ X T H0 Γ es fs q) (hs : starEach (e :: es) X.env = (false, eval e X.env) :: starEach es X.env := by rfl) : DQ X T H0 Γ (e :: es) (aCons f fs) q :=
  PA.wk (pa_cons ha hr hs) fun σ H Q ⟨F, O, ρ, ds, R, hf, hq⟩ => by
    unfold aCons at hf
    cases h1 : f ρ with
    | none => rw [h1] at hf; cases hf
    | some x =>
      rw [h1] at hf
      simp only [Option.bind_some] at hf
      cases h2 : fs ρ with
      | none => rw [h2] at hf; cases hf
      | some xs =>
        rw [h2] at hf
        cases hf
        refine ⟨F, O, ρ, x, R, h1, fun F1 H1 v R1 s1 t1 r1 => ⟨F1, O, ρ, xs, R1, h2, fun F2 H2 vs R2 s2 t2 r2 => ?_⟩⟩
        exact hq F2 H2 _ R2 (s1.trans s2) (t1.trans t2) (.cons (s2.rq r1) r2)
/-- the length line -/
def lenOk (ds : List D) : Prop := ds.length ≤ sizeLine
instance (ds : List D) : Decidable (lenOk ds) := by unfold lenOk; infer_instance
def eTup (fs : List D → Option (List D)) : EF := fun ρ => (fs ρ).bind fun ds => if ds.length ≤ 1000 then some (.tup ds) else none
def eLst (fs : List D → Option (List D)) : EF := fun ρ => (fs ρ).bind fun ds => if ds.length ≤ 1000 then some (.lst ds) else none
theorem de_tup {x1} (h : DQ X T H0 Γ es fs q) : DE X T H0 Γ (.Tuple es x1 pos) (eTup fs) (.q q) := PE.wk (pe_tup h) fun σ H Q ⟨F, O, ρ, d, R, hf, hq⟩ => by
  unfold eTup at hf
  cases h1 : fs ρ with
  | none => rw [h1] at hf; cases hf
  | some ds =>
    rw [h1] at hf
    simp only [Option.bind_some] at hf
    split at hf
    · rename_i hl
      cases hf
      refine ⟨F, O, ρ, ds, R, h1, fun F1 H1 vs R1 s1 t1 r1 => ⟨?_, fun p hp => ?_⟩⟩
      · rw [r1.length]; exact Nat.le_of_lt (small1000 hl)
      · obtain ⟨R2, s2, t2⟩ := R1.laid (o := .tup vs) hp
        exact hq _ _ _ R2 (s1.trans s2) (t1.trans t2) (.tup (SqT.of upd_same) (s2.rqs r1))
    · cases hf
theorem de_lst (h : DQ X T H0 Γ es fs q) : DE X T H0 Γ (.List es pos) (eLst fs) (.ol q) := PE.wk (pe_lst h) fun σ H Q ⟨F, O, ρ, d, R, hf, hq⟩ => by
  unfold eLst at hf
  cases h1 : fs ρ with
  | none => rw [h1] at hf; cases hf
  | some ds =>
    rw [h1] at hf
    simp only [Option.bind_some] at hf
    split at hf
    · rename_i hl
      cases hf
      refine ⟨F, O, ρ, ds, R, h1, fun F1 H1 vs R1 s1 t1 r1 => ⟨?_, fun p hp => ?_⟩⟩
      · rw [r1.length]; exact Nat.le_of_lt (small1000 hl)
      · obtain ⟨R2, t2⟩ := R1.junk (o := .lst vs) hp
        exact hq _ _ _ R2 s1 (t1.trans t2) ⟨p, vs, ds, rfl, rfl, upd_same, R1.fh.free hp, R1.notOwn hp, r1⟩
    · cases hf
end
end DL

namespace DL
open PySem PySem.Spec PyProof.Rows L2

/-! ### statements -/
inductive RK where
  | q (q : Q3) | ol (q : Q3)
deriving DecidableEq
inductive Out where
  | nx (ρ : List D) | bk (ρ : List D) | ct (ρ : List D) | rt (d : D)
abbrev SF := List D → Option Out
/-- the modes at break, at continue; the kind of what is handed back -/
structure Jm where
  b : List Mode
  c : List Mode
  r : RK
def RetOk (K : PySem.W.Frag) (T : Tb) (H0 H' : Hp) : RK → V → D → Prop
  | .q q, v, d => ∃ F, Same H0 F ∧ Same F H' ∧ Rq K T H0 q F v d
  | .ol q, v, d => ∃ F a vs ds, v = .ref a ∧ d = .lst ds ∧ Same H0 F ∧ Same F H' ∧ H' a = some (.lst vs) ∧ F a = none ∧ Rqs K T H0 q F vs ds
def Fin (K : PySem.W.Frag) (T : Tb) (H0 : Hp) (F : Hp) (Γn : List Mode) (J : Jm) (E : Ends) : Out → Prop
  | .nx ρ' => ∀ F' O' σ' H', Same F F' → Rl K T H0 Γn F' O' σ' H' ρ' → E.nx σ' H'
  | .bk ρ' => ∀ F' O' σ' H', Same F F' → Rl K T H0 J.b F' O' σ' H' ρ' → E.bk σ' H'
  | .ct ρ' => ∀ F' O' σ' H', Same F F' → Rl K T H0 J.c F' O' σ' H' ρ' → E.ct σ' H'
  | .rt d => ∀ H' v, RetOk K T H0 H' J.r v d → E.rt v H'
def tDS (K : PySem.W.Frag) (T : Tb) (H0 : Hp) (Γ : List Mode) (f : SF) (Γn : List Mode) (J : Jm) : TS := fun E σ H =>
  ∃ F O ρ out, Rl K T H0 Γ F O σ H ρ ∧ f ρ = some out ∧ Fin K T H0 F Γn J E out
abbrev DS (X : Cx) (T : Tb) (H0 : Hp) (Γ : List Mode) (st : Stmt) (f : SF) (Γn : List Mode) (J : Jm) : Prop := PS X st (tDS X.K T H0 Γ f Γn J)
abbrev DSs (X : Cx) (T : Tb) (H0 : Hp) (Γ : List Mode) (sts : List Stmt) (f : SF) (Γn : List Mode) (J : Jm) : Prop := PSs X sts (tDS X.K T H0 Γ f Γn J)

section
variable {K : PySem.W.Frag} {T : Tb} {H0 : Hp} {F F' H H' : Hp} {O O' : Own} {σ : L2.St} {ρ : List D} {Γ Γ' : List Mode} {q : Q3}
/-- a slot is set to what is frozen -/
theorem Rl.setM (R : Rl K T H0 Γ F O σ H ρ) {i : Nat} {v : V} {d : D} {m : Mode} (hi : i < Γ.length) (hm : SlotR K T H0 F H (fun _ => False) (some (some v)) (some d) m) : Rl K T H0 (Γ.set i m) F O (σ.set i (some v)) H (ρ.set i d) := by
  refine ⟨R.h0, R.fh, R.on, R.od, by simp [R.ls], by simp [R.lr], fun j mj hj => ?_⟩
  by_cases hji : j = i
  · subst hji
    rw [List.getElem?_set_self hi] at hj
    cases hj
    rw [List.getElem?_set_self (by rw [R.ls]; exact hi), List.getElem?_set_self (by rw [R.lr]; exact hi)]
    cases m with
    | no => trivial
    | fz k => exact hm
    | fl k => exact hm
    | ow k => obtain ⟨a, vs, ds, h1, h2, h3, h4, h5⟩ := hm; exact h4.elim
  · rw [List.getElem?_set_ne (Ne.symm hji)] at hj
    rw [List.getElem?_set_ne (Ne.symm hji), List.getElem?_set_ne (Ne.symm hji)]
    exact R.sl j mj hj
theorem Rl.setq (R : Rl K T H0 Γ F O σ H ρ) {i : Nat} {v : V} {d : D} (hi : i < Γ.length) (r : Rq K T H0 q F v d) : Rl K T H0 (Γ.set i (.fz q)) F O (σ.set i (some v)) H (ρ.set i d) := R.setM hi ⟨v, d, rfl, rfl, r⟩
/-- an address more is owned -/
def resv (O : Own) (i : Nat) (a : Addr) : Own := fun j b => O j b ∨ (j = i ∧ b = a)
theorem Rl.res (R : Rl K T H0 Γ F O σ H ρ) {i : Nat} {a : Addr} {o : HO} (ha : H a = some o) (hm : isMut o = true) (hF : F a = none) (hO : ∀ j, ¬ O j a) : Rl K T H0 Γ F (resv O i a) σ H ρ := by
  refine ⟨R.h0, R.fh, fun j b h => ?_, fun j k b h1 h2 => ?_, R.ls, R.lr, fun j m hj => ?_⟩
  · rcases h with h | ⟨_, h⟩
    · exact R.on j b h
    · subst h; exact ⟨hF, o, ha, hm⟩
  · rcases h1 with h1 | ⟨e1, h1⟩ <;> rcases h2 with h2 | ⟨e2, h2⟩
    · exact R.od j k b h1 h2
    · subst h2; exact (hO j h1).elim
    · subst h1; exact (hO k h2).elim
    · rw [e1, e2]
  · have s := R.sl j m hj
    cases m with
    | no => trivial
    | fz k => exact s
    | fl k => exact s
    | ow k =>
      obtain ⟨b, us, es, h1, h2, h3, h4, h5⟩ := s
      exact ⟨b, us, es, h1, h2, h3, .inl h4, h5⟩
theorem Rl.unres {a : Addr} (R : Rl K T H0 Γ F (resv O Γ.length a) σ H ρ) : Rl K T H0 Γ F O σ H ρ := by
  refine ⟨R.h0, R.fh, fun j b h => R.on j b (.inl h), fun j k b h1 h2 => R.od j k b (.inl h1) (.inl h2), R.ls, R.lr, fun j m hj => ?_⟩
  have s := R.sl j m hj
  cases m with
  | no => trivial
  | fz k => exact s
  | fl k => exact s
  | ow k =>
    obtain ⟨b, us, es, h1, h2, h3, h4, h5⟩ := s
    refine ⟨b, us, es, h1, h2, h3, ?_, h5⟩
    rcases h4 with h4 | ⟨h4, _⟩
    · exact h4
    · have := (List.getElem?_eq_some_iff.mp hj).1
      omega
theorem Rl.upRes {a : Addr} {o : HO} (R : Rl K T H0 Γ F (resv O Γ.length a) σ H ρ) (hm : isMut o = true) : Rl K T H0 Γ F (resv O Γ.length a) σ (upd H a o) ρ := by
  have fa : F a = none := (R.on Γ.length a (.inr ⟨rfl, rfl⟩)).1
  refine ⟨R.h0, fun b u e => ?_, fun j b h => ⟨(R.on j b h).1, ?_⟩, R.od, R.ls, R.lr, fun j m hj => ?_⟩
  · rw [upd_ne (ne_of_none e fa)]; exact R.fh _ _ e
  · obtain ⟨_, u, h1, h2⟩ := R.on j b h
    by_cases hb : b = a
    · subst hb; exact ⟨o, upd_same, hm⟩
    · exact ⟨u, by rw [upd_ne hb]; exact h1, h2⟩
  · have s := R.sl j m hj
    cases m with
    | no => trivial
    | fz k => exact s
    | fl k => exact s
    | ow k =>
      obtain ⟨b, us, es, h1, h2, h3, h4, h5⟩ := s
      refine ⟨b, us, es, h1, h2, ?_, h4, h5⟩
      have hj2 := (List.getElem?_eq_some_iff.mp hj).1
      rw [upd_ne (fun z => by
        subst z
        have := R.od _ _ _ h4 (.inr ⟨rfl, rfl⟩)
        omega)]
      exact h3
/-- a slot is set to a new list of its own -/
theorem Rl.seto (R : Rl K T H0 Γ F O σ H ρ) {i : Nat} {a : Addr} {vs : List V} {ds : List D} (hi : i < Γ.length) (ha : H a = some (.lst vs)) (hF : F a = none) (hO : ∀ j, ¬ O j a) (r : Rqs K T H0 q F vs ds) :
    Rl K T H0 (Γ.set i (.ow q)) F (resv O i a) (σ.set i (some (.ref a))) H (ρ.set i (.lst ds)) := by
  have R2 := R.res (i := i) ha rfl hF hO
  refine ⟨R2.h0, R2.fh, R2.on, R2.od, by simp [R.ls], by simp [R.lr], fun j mj hj => ?_⟩
  by_cases hji : j = i
  · subst hji
    rw [List.getElem?_set_self hi] at hj
    cases hj
    rw [List.getElem?_set_self (by rw [R.ls]; exact hi), List.getElem?_set_self (by rw [R.lr]; exact hi)]
    exact ⟨a, vs, ds, rfl, rfl, ha, .inr ⟨rfl, rfl⟩, r⟩
  · rw [List.getElem?_set_ne (Ne.symm hji)] at hj
    rw [List.getElem?_set_ne (Ne.symm hji), List.getElem?_set_ne (Ne.symm hji)]
    exact R2.sl j mj hj
/-- the list of slot i is changed -/
theorem Rl.upo {p : Q3} (R : Rl K T H0 Γ F O σ H ρ) {i : Nat} {a : Addr} {vs us : List V} {ds : List D} (hm : Γ[i]? = some (.ow p)) (hs : σ[i]? = some (some (.ref a))) (ha : H a = some (.lst vs)) (hO : O i a) (r : Rqs K T H0 q F us ds) :
    Rl K T H0 (Γ.set i (.ow q)) F O σ (upd H a (.lst us)) (ρ.set i (.lst ds)) := by
  have hi : i < Γ.length := (List.getElem?_eq_some_iff.mp hm).1
  have fa := (R.on i a hO).1
  refine ⟨R.h0, fun b o e => ?_, fun j b h => ⟨(R.on j b h).1, ?_⟩, R.od, by simp [R.ls], by simp [R.lr], fun j mj hj => ?_⟩
  · rw [upd_ne (ne_of_none e fa)]; exact R.fh _ _ e
  · obtain ⟨_, o, h1, h2⟩ := R.on j b h
    by_cases hb : b = a
    · subst hb; exact ⟨_, upd_same, rfl⟩
    · exact ⟨o, by rw [upd_ne hb]; exact h1, h2⟩
  · by_cases hji : j = i
    · subst hji
      rw [List.getElem?_set_self hi] at hj
      cases hj
      rw [List.getElem?_set_self (by rw [R.lr]; exact hi)]
      exact ⟨a, us, ds, hs, rfl, upd_same, hO, r⟩
    · rw [List.getElem?_set_ne (Ne.symm hji)] at hj
      rw [List.getElem?_set_ne (Ne.symm hji)]
      have s := R.sl j mj hj
      cases mj with
      | no => trivial
      | fz k => exact s
      | fl k => exact s
      | ow k =>
        obtain ⟨b, ws, es, h1, h2, h3, h4, h5⟩ := s
        refine ⟨b, ws, es, h1, h2, ?_, h4, h5⟩
        rw [upd_ne (fun z => by subst z; exact hji (R.od _ _ _ h4 hO))]
        exact h3
end

/-! ### blocks -/
def sNil : SF := fun ρ => some (.nx ρ)
def sSeq (f g : SF) : SF := fun ρ => (f ρ).bind fun o => match o with
  | .nx ρ' => g ρ'
  | o => some o
def sRet (f : EF) : SF := fun ρ => (f ρ).bind fun d => some (.rt d)
def sSet (i : Nat) (f : EF) : SF := fun ρ => (f ρ).bind fun d => some (.nx (ρ.set i d))
def sIf (t : List D → Option Bool) (f g : SF) : SF := fun ρ => (t ρ).bind fun c => if c = true then f ρ else g ρ
def sDrop (f : EF) : SF := fun ρ => (f ρ).bind fun _ => some (.nx ρ)
section
variable {X : Cx} {T : Tb} {H0 : Hp} {Γ Γ1 Γn Γm : List Mode} {J : Jm} {e a b : Expr} {es : List Expr} {st : Stmt} {sts : List Stmt} {f g : SF} {fe fa fb : EF} {k ka kb : Knd} {pos : Pos} {q p : Q3}
theorem Fin.from {K : PySem.W.Frag} {F F' : Hp} {E : Ends} {o : Out} (s : Same F F') (h : Fin K T H0 F Γn J E o) : Fin K T H0 F' Γn J E o := by
  cases o with
  | nx ρ => exact fun F2 O2 σ2 H2 s2 R => h F2 O2 σ2 H2 (s.trans s2) R
  | bk ρ => exact fun F2 O2 σ2 H2 s2 R => h F2 O2 σ2 H2 (s.trans s2) R
  | ct ρ => exact fun F2 O2 σ2 H2 s2 R => h F2 O2 σ2 H2 (s.trans s2) R
  | rt d => exact h

theorem dss_nil (h : wkAll Γ Γn = true) : DSs X T H0 Γ [] sNil Γn J := PSs.wk pss_nil fun E σ H ⟨F, O, ρ, out, R, hf, hq⟩ => by
  cases hf
  obtain ⟨F', O', s, R'⟩ := wk_of h F O σ H ρ R
  exact hq F' O' σ H s R'
theorem dss_cons (h1 : DS X T H0 Γ st f Γ1 J) (h2 : DSs X T H0 Γ1 sts g Γn J) : DSs X T H0 Γ (st :: sts) (sSeq f g) Γn J := PSs.wk (pss_cons h1 h2) fun E σ H ⟨F, O, ρ, out, R, hf, hq⟩ => by
  unfold sSeq at hf
  cases h1 : f ρ with
  | none => rw [h1] at hf; cases hf
  | some o =>
    rw [h1] at hf
    simp only [Option.bind_some] at hf
    refine ⟨F, O, ρ, o, R, h1, ?_⟩
    cases o with
    | nx ρ' => exact fun F' O' σ' H' s R' => ⟨F', O', ρ', out, R', hf, hq.from s⟩
    | bk ρ' => cases hf; exact hq
    | ct ρ' => cases hf; exact hq
    | rt d => cases hf; exact hq
/-- ahead of a block: modes weakened -/
theorem dss_wk (h : wkAll Γ Γ1 = true) (hs : DSs X T H0 Γ1 sts f Γn J) : DSs X T H0 Γ sts f Γn J := PSs.wk hs fun E σ H ⟨F, O, ρ, out, R, hf, hq⟩ => by
  obtain ⟨F', O', s, R'⟩ := wk_of h F O σ H ρ R
  exact ⟨F', O', ρ, out, R', hf, hq.from s⟩
theorem ds_wk (h : wkAll Γ Γ1 = true) (hs : DS X T H0 Γ1 st f Γn J) : DS X T H0 Γ st f Γn J := PS.wk hs fun E σ H ⟨F, O, ρ, out, R, hf, hq⟩ => by
  obtain ⟨F', O', s, R'⟩ := wk_of h F O σ H ρ R
  exact ⟨F', O', ρ, out, R', hf, hq.from s⟩
theorem ds_pass : DS X T H0 Γ (.Pass pos) sNil Γ J := PS.wk ps_pass fun E σ H ⟨F, O, ρ, out, R, hf, hq⟩ => by
  cases hf; exact hq F O σ H (.refl _) R
def sBrk : SF := fun ρ => some (.bk ρ)
def sCnt : SF := fun ρ => some (.ct ρ)
theorem ds_break (h : wkAll Γ J.b = true) : DS X T H0 Γ (.Break pos) sBrk Γn J := PS.wk ps_break fun E σ H ⟨F, O, ρ, out, R, hf, hq⟩ => by
  cases hf
  obtain ⟨F', O', s, R'⟩ := wk_of h F O σ H ρ R
  exact hq F' O' σ H s R'
theorem ds_cont (h : wkAll Γ J.c = true) : DS X T H0 Γ (.Continue pos) sCnt Γn J := PS.wk ps_continue fun E σ H ⟨F, O, ρ, out, R, hf, hq⟩ => by
  cases hf
  obtain ⟨F', O', s, R'⟩ := wk_of h F O σ H ρ R
  exact hq F' O' σ H s R'
def sNev : SF := fun _ => none
theorem ds_never : DS X T H0 Γ st sNev Γn J := ⟨fun _ _ _ _ _ _ ⟨_, _, _, _, _, hf, _⟩ => nomatch hf⟩
theorem dss_never : DSs X T H0 Γ sts sNev Γn J := ⟨fun _ _ _ _ _ _ ⟨_, _, _, _, _, hf, _⟩ => nomatch hf⟩
theorem ds_if {c : Expr} {t : List D → Option Bool} {as bs : List Stmt} (hc : DT X T H0 Γ c t) (ha : DSs X T H0 Γ as f Γn J) (hb : DSs X T H0 Γ bs g Γn J) : DS X T H0 Γ (.If c as bs pos) (sIf t f g) Γn J :=
  PS.wk (ps_if hc ha hb) fun E σ H ⟨F, O, ρ, out, R, hf, hq⟩ => by
    unfold sIf at hf
    cases h1 : t ρ with
    | none => rw [h1] at hf; cases hf
    | some c =>
      rw [h1] at hf
      simp only [Option.bind_some] at hf
      refine ⟨F, O, ρ, c, R, h1, fun F' H' R' s s' => ?_⟩
      cases c with
      | true => exact ⟨F', O, ρ, out, R', by simpa using hf, hq.from s⟩
      | false => exact ⟨F', O, ρ, out, R', by simpa using hf, hq.from s⟩
theorem ds_ret (he : DE X T H0 Γ e fe (.q q)) (hr : J.r = .q q := by rfl) : DS X T H0 Γ (.Return (some e) pos) (sRet fe) Γn J := PS.wk (ps_ret he) fun E σ H ⟨F, O, ρ, out, R, hf, hq⟩ => by
  unfold sRet at hf
  cases h1 : fe ρ with
  | none => rw [h1] at hf; cases hf
  | some d =>
    rw [h1] at hf
    cases hf
    refine ⟨F, O, ρ, d, R, h1, fun F' H' v R' s s' r => hq H' v ?_⟩
    rw [hr]
    exact ⟨F', R'.h0, R'.fh, r⟩
theorem ds_reto (he : DE X T H0 Γ e fe (.ol q)) (hr : J.r = .ol q := by rfl) : DS X T H0 Γ (.Return (some e) pos) (sRet fe) Γn J := PS.wk (ps_ret he) fun E σ H ⟨F, O, ρ, out, R, hf, hq⟩ => by
  unfold sRet at hf
  cases h1 : fe ρ with
  | none => rw [h1] at hf; cases hf
  | some d =>
    rw [h1] at hf
    cases hf
    refine ⟨F, O, ρ, d, R, h1, fun F' H' v R' s s' r => hq H' v ?_⟩
    rw [hr]
    obtain ⟨a, vs, ds, e1, e2, h1, h2, h3, h4⟩ := r
    exact ⟨F', a, vs, ds, e1, e2, R'.h0, R'.fh, h1, h2, h4⟩
/-- an own list is handed back -/
theorem ds_retv (i : Nat) (hm : Γ[i]? = some (.ow p)) {x : Str} {pos' : Pos} (h : PE X (.Name x pos') (tVar i)) (hl : p.le q = true := by rfl) (hr : J.r = .ol q := by rfl) : DS X T H0 Γ (.Return (some (.Name x pos')) pos) (sRet (eV i)) Γn J :=
  PS.wk (ps_ret h) fun E σ H ⟨F, O, ρ, out, R, hf, hq⟩ => by
    obtain ⟨a, vs, ds, h1, h2, h3, h4, h5⟩ := R.sl i _ hm
    have e : sRet (eV i) ρ = some (.rt (.lst ds)) := by unfold sRet eV; rw [h2]; rfl
    rw [e] at hf
    cases hf
    refine ⟨_, h1, hq H _ ?_⟩
    rw [hr]
    exact ⟨F, a, vs, ds, rfl, rfl, R.h0, R.fh, h3, (R.on i a h4).1, h5.mono (.refl _) (NK.le hl)⟩
theorem ds_retN (hr : J.r = .q q := by rfl) : DS X T H0 Γ (.Return none pos) (sRet (eK .non)) Γn J := PS.wk ps_retN fun E σ H ⟨F, O, ρ, out, R, hf, hq⟩ => by
  cases hf
  refine hq H .non ?_
  rw [hr]
  exact ⟨F, R.h0, R.fh, .non⟩
/-- name = e -/
theorem set_sem {K : PySem.W.Frag} {i : Nat} (hi : i < Γ.length) : ∀ E σ H, tDS K T H0 Γ (sSet i fe) (Γ.set i (.fz q)) J E σ H → tAsg (tD K T H0 Γ fe (.q q)) (gName i) E σ H := fun E σ H ⟨F, O, ρ, out, R, hf, hq⟩ => by
  unfold sSet at hf
  cases h1 : fe ρ with
  | none => rw [h1] at hf; cases hf
  | some d =>
    rw [h1] at hf
    cases hf
    refine ⟨F, O, ρ, d, R, h1, fun F' H' v R' s s' r => ?_⟩
    exact hq F' O _ H' s (R'.setq hi r)
theorem setf_sem {K : PySem.W.Frag} {i : Nat} (hi : i < Γ.length) : ∀ E σ H, tDS K T H0 Γ (sSet i fe) (Γ.set i (.fl q)) J E σ H → tAsg (tD K T H0 Γ fe (.fl q)) (gName i) E σ H := fun E σ H ⟨F, O, ρ, out, R, hf, hq⟩ => by
  unfold sSet at hf
  cases h1 : fe ρ with
  | none => rw [h1] at hf; cases hf
  | some d =>
    rw [h1] at hf
    cases hf
    refine ⟨F, O, ρ, d, R, h1, fun F' H' v R' s s' ⟨a, vs, ds, e1, e2, h3, h4⟩ => ?_⟩
    subst e1; subst e2
    exact hq F' O _ H' s (R'.setM (m := .fl q) hi ⟨a, vs, ds, rfl, rfl, h3, h4⟩)
theorem seto_sem {K : PySem.W.Frag} {i : Nat} (hi : i < Γ.length) : ∀ E σ H, tDS K T H0 Γ (sSet i fe) (Γ.set i (.ow q)) J E σ H → tAsg (tD K T H0 Γ fe (.ol q)) (gName i) E σ H := fun E σ H ⟨F, O, ρ, out, R, hf, hq⟩ => by
  unfold sSet at hf
  cases h1 : fe ρ with
  | none => rw [h1] at hf; cases hf
  | some d =>
    rw [h1] at hf
    cases hf
    refine ⟨F, O, ρ, d, R, h1, fun F' H' v R' s s' ⟨a, vs, ds, e1, e2, h2, h3, h4, h5⟩ => ?_⟩
    subst e1; subst e2
    exact hq F' _ _ H' s (R'.seto hi h2 h3 h4 h5)
variable {x : Str} {pos' : Pos} {i j : Nat}
theorem ds_set (hN : X.N.Nodup) (hi : X.N[i]? = some x) (hx : Loc X.env.scope x) (he : DE X T H0 Γ e fe (.q q)) (hl : i < Γ.length := by decide) (hs : swapsWith e (some (.Name x pos')) pos.line X.env = pure false := by rfl)
    (hf : X.fn x = true ∨ X.env.scope.names.lookup x = some .local := by first | exact .inl rfl | exact .inr rfl | assumption) : DS X T H0 Γ (.Assign [.Name x pos'] e pos) (sSet i fe) (Γ.set i (.fz q)) J := PS.wk (ps_set hN hi hx he hs hf) (set_sem hl)
theorem ds_setf (hN : X.N.Nodup) (hi : X.N[i]? = some x) (hx : Loc X.env.scope x) (he : DE X T H0 Γ e fe (.fl q)) (hl : i < Γ.length := by decide) (hs : swapsWith e (some (.Name x pos')) pos.line X.env = pure false := by rfl)
    (hf : X.fn x = true ∨ X.env.scope.names.lookup x = some .local := by first | exact .inl rfl | exact .inr rfl | assumption) : DS X T H0 Γ (.Assign [.Name x pos'] e pos) (sSet i fe) (Γ.set i (.fl q)) J := PS.wk (ps_set hN hi hx he hs hf) (setf_sem hl)
theorem ds_seto (hN : X.N.Nodup) (hi : X.N[i]? = some x) (hx : Loc X.env.scope x) (he : DE X T H0 Γ e fe (.ol q)) (hl : i < Γ.length := by decide) (hs : swapsWith e (some (.Name x pos')) pos.line X.env = pure false := by rfl)
    (hf : X.fn x = true ∨ X.env.scope.names.lookup x = some .local := by first | exact .inl rfl | exact .inr rfl | assumption) : DS X T H0 Γ (.Assign [.Name x pos'] e pos) (sSet i fe) (Γ.set i (.ow q)) J := PS.wk (ps_set hN hi hx he hs hf) (seto_sem hl)
theorem ds_drop (he : DE X T H0 Γ e fe k) (hs : swapsWith e none pos.line X.env = pure false := by rfl) : DS X T H0 Γ (.Expr e pos) (sDrop fe) Γ J := PS.wk (ps_expr he hs) fun E σ H ⟨F, O, ρ, out, R, hf, hq⟩ => by
  unfold sDrop at hf
  cases h1 : fe ρ with
  | none => rw [h1] at hf; cases hf
  | some d =>
    rw [h1] at hf
    cases hf
    exact ⟨F, O, ρ, d, R, h1, fun F' H' v R' s s' r => hq F' O σ H' s R'⟩

/-! ### targets -/
/-- the target g does tg upon slots, of vs alone -/
def TgS (K : PySem.W.Frag) (T : Tb) (H0 : Hp) (Γ : List Mode) (g : TG) (vs : List Nat) (tg : D → List D → Option (List D)) (q : Q3) (Γ' : List Mode) : Prop :=
  ∀ F O σ H ρ v d ρ' Q, Rl K T H0 Γ F O σ H ρ → Rq K T H0 q F v d → tg d ρ = some ρ' → (∀ σ', Rl K T H0 Γ' F O σ' H ρ' → (∀ j, j ∉ vs → σ'[j]? = σ[j]?) → σ'.length = σ.length → Q σ' H) → g v σ H Q
def tgN (i : Nat) : D → List D → Option (List D) := fun d ρ => some (ρ.set i d)
def setAll : List Nat → List D → List D → Option (List D)
  | [], [], ρ => some ρ
  | i :: is, d :: ds, ρ => setAll is ds (ρ.set i d)
  | _, _, _ => none
def tgT (is : List Nat) : D → List D → Option (List D) := fun d ρ => match d with
  | .tup ds => setAll is ds ρ
  | _ => none
def setMs (q : Q3) : List Nat → List Mode → List Mode
  | [], Γ => Γ
  | i :: is, Γ => setMs q is (Γ.set i (.fz q))
def gNames : List Nat → TGs
  | [] => gNil
  | i :: is => gCons (gName i) (gNames is)
theorem tgs_n {K : PySem.W.Frag} (hi : i < Γ.length) : TgS K T H0 Γ (gName i) [i] (tgN i) q (Γ.set i (.fz q)) := fun F O σ H ρ v d ρ' Q R r h hq => by
  cases h
  refine hq _ (R.setq hi r) (fun j hj => ?_) (by simp)
  rw [List.getElem?_set_ne (fun z => hj (by simp [z]))]
theorem gNames_sem {K : PySem.W.Frag} : ∀ (is : List Nat) {Γ : List Mode} (hl : is.all (fun i => decide (i < Γ.length)) = true) {F : Hp} {O : Own} {σ : L2.St} {H : Hp} {ρ ρ' : List D} {vs : List V} {ds : List D} {Q : L2.St → Hp → Prop},
    Rl K T H0 Γ F O σ H ρ → Rqs K T H0 q F vs ds → setAll is ds ρ = some ρ' → (∀ σ', Rl K T H0 (setMs q is Γ) F O σ' H ρ' → (∀ j, j ∉ is → σ'[j]? = σ[j]?) → σ'.length = σ.length → Q σ' H) → gNames is vs σ H Q
  | [], Γ, hl, F, O, σ, H, ρ, ρ', vs, ds, Q, R, r, h, hq => by
    cases r with
    | nil =>
      cases h
      exact ⟨rfl, hq σ R (fun _ _ => rfl) rfl⟩
    | cons _ _ => cases h
  | i :: is, Γ, hl, F, O, σ, H, ρ, ρ', vs, ds, Q, R, r, h, hq => by
    rw [List.all_cons, Bool.and_eq_true] at hl
    cases r with
    | nil => cases h
    | @cons v vs d ds h1 h2 =>
      have R' := R.setq (of_decide_eq_true hl.1) h1
      refine ⟨v, vs, rfl, ?_⟩
      refine gNames_sem is (by simpa using hl.2) R' h2 h fun σ2 R2 h3 h4 => hq σ2 R2 (fun j hj => ?_) (by rw [h4]; simp)
      simp only [List.mem_cons, not_or] at hj
      rw [h3 j hj.2, List.getElem?_set_ne (fun z => hj.1 z.symm)]
theorem RepsG.len {K : PySem.W.Frag} {N : Addr → Prop} {F : Hp} {vs : List V} {ds : List D} (h : RepsG K T N F vs ds) : vs.length = ds.length := h.length
theorem setAll_len : ∀ {is : List Nat} {ds ρ ρ' : List D}, setAll is ds ρ = some ρ' → ds.length = is.length
  | [], [], _, _, _ => rfl
  | i :: is, d :: ds, ρ, ρ', h => by
    have h : setAll is ds (ρ.set i d) = some ρ' := h
    rw [List.length_cons, List.length_cons, setAll_len h]
  | [], _ :: _, _, _, h => nomatch h
  | _ :: _, [], _, _, h => nomatch h
theorem tgs_t {K : PySem.W.Frag} {is : List Nat} (hl : is.all (fun i => decide (i < Γ.length)) = true) : TgS K T H0 Γ (gTup K is.length (gNames is)) is (tgT is) q (setMs q is Γ) := fun F O σ H ρ v d ρ' Q R r h hq => by
  unfold tgT at h
  split at h
  · cases r with
    | @tup a vs ds hs rs =>
      refine ⟨a, vs, rfl, ?_, ?_, gNames_sem is hl R rs h hq⟩
      · exact same_sqT R.fh hs
      · rw [rs.length, setAll_len h]
  · cases h
/-- a, b = e -/
def sTg (tg : D → List D → Option (List D)) (f : EF) : SF := fun ρ => (f ρ).bind fun d => (tg d ρ).bind fun ρ' => some (.nx ρ')
theorem ds_tg {tge : Expr} {gg : TG} {vs : List Nat} {tg : D → List D → Option (List D)} (he : DE X T H0 Γ e fe (.q q)) (hg : PG X tge gg) (hs : TgS X.K T H0 Γ gg vs tg q Γ1) (h1 : swapsWithSole [tge] e pos.line X.env = pure false := by rfl) (hw : swappedStores [tge] e X.env = pure none := by rfl)
    (h2 : (assignEach [tge] X.env).map (·.2) = [assign tge X.env] := by rfl) : DS X T H0 Γ (.Assign [tge] e pos) (sTg tg fe) Γ1 J := PS.wk (ps_asg he hg h1 hw h2) fun E σ H ⟨F, O, ρ, out, R, hf, hq⟩ => by
  unfold sTg at hf
  cases h1 : fe ρ with
  | none => rw [h1] at hf; cases hf
  | some d =>
    rw [h1] at hf
    simp only [Option.bind_some] at hf
    cases h2 : tg d ρ with
    | none => rw [h2] at hf; cases hf
    | some ρ' =>
      rw [h2] at hf
      cases hf
      exact ⟨F, O, ρ, d, R, h1, fun F' H' v R' s s' r => hs F' O σ H' ρ v d ρ' _ R' r h2 fun σ' R2 _ _ => hq F' O σ' H' s R2⟩
/-- a, b = x, y -/
def sPar (i j : Nat) (fs : List D → Option (List D)) : SF := fun ρ => (fs ρ).bind fun ds => match ds with
  | [a, b] => some (.nx ((ρ.set i a).set j b))
  | _ => none
theorem ds_par {fs : List D → Option (List D)} {y : Str} {px py pt : Pos} {kt k2 pt2} (hc : X.calm = true) (hN : X.N.Nodup) (hi : X.N[i]? = some x) (hj : X.N[j]? = some y) (hij : i ≠ j)
    (hx : X.env.scope.names.lookup x = some .local) (hy : X.env.scope.names.lookup y = some .local) (ha : DQ X T H0 Γ [a, b] fs q) (hl : i < Γ.length) (hl2 : j < Γ.length)
    (hw : swappedStores [.Tuple [.Name x px, .Name y py] kt pt] (.Tuple [a, b] k2 pt2) X.env = pure (some [x, y]))
    (hs : swapsWithSole [.Tuple [.Name x px, .Name y py] kt pt] (.Tuple [a, b] k2 pt2) pos.line X.env = pure false := by rfl) : DS X T H0 Γ (.Assign [.Tuple [.Name x px, .Name y py] kt pt] (.Tuple [a, b] k2 pt2) pos) (sPar i j fs) ((Γ.set i (.fz q)).set j (.fz q)) J :=
  PS.wk (ps_par hc hN hi hj hij hx hy ha hw hs) fun E σ H ⟨F, O, ρ, out, R, hf, hq⟩ => by
    unfold sPar at hf
    cases h1 : fs ρ with
    | none => rw [h1] at hf; cases hf
    | some ds =>
      rw [h1] at hf
      simp only [Option.bind_some] at hf
      split at hf
      · cases hf
        refine ⟨F, O, ρ, _, R, h1, fun F' H' vs R' s s' r => ?_⟩
        cases r with
        | cons r1 r =>
          cases r with
          | cons r2 r =>
            cases r
            exact ⟨_, _, rfl, hq F' O _ H' s ((R'.setq hl r1).setq (by simpa using hl2) r2)⟩
      · cases hf
end
end DL

namespace DL
open PySem PySem.Spec PyProof.Rows L2

/-! ### what is walked -/
/-- the iterator J gives the items, of kind q, wherever F1 is frozen and (for a comprehension's walk, c) H1 stands -/
def ItOk (K : PySem.W.Frag) (T : Tb) (H0 : Hp) (J : It) (items : List D) (q : Q3) (c : Bool) (F1 H1 : Hp) : Prop :=
  ∀ (i : Nat) (F2 H2 : Hp), Same F1 F2 → Same F2 H2 → (c = true → Same H1 H2) →
    (∀ d, items[i]? = some d → J.go i H2 ∧ ∀ x H3, J.yld i H2 x H3 → Same H2 H3 ∧ ∃ F3, Same F2 F3 ∧ Same F3 H3 ∧ (∀ b, F2 b = none → H2 b ≠ none → F3 b = none) ∧ Rq K T H0 q F3 x d) ∧
    (items.length ≤ i → J.stop i H2)
def tDI (K : PySem.W.Frag) (T : Tb) (H0 : Hp) (Γ : List Mode) (fi : List D → Option (List D)) (q : Q3) (c : Bool) : TI := fun σ H R =>
  ∃ F O ρ items, Rl K T H0 Γ F O σ H ρ ∧ fi ρ = some items ∧ ∀ F' H' J, Rl K T H0 Γ F' O σ H' ρ → Same F F' → Same H H' → ItOk K T H0 J items q c F' H' → R J H'
abbrev DI (X : Cx) (T : Tb) (H0 : Hp) (Γ : List Mode) (tg iter : Expr) (fi : List D → Option (List D)) (q : Q3) (c : Bool) : Prop := PI X tg iter (tDI X.K T H0 Γ fi q c)
def iSeq (f : EF) : List D → Option (List D) := fun ρ => (f ρ).bind fun d => match d with
  | .lst ds => some ds
  | .scr ds => some ds
  | _ => none
def iTupD (f : EF) : List D → Option (List D) := fun ρ => (f ρ).bind fun d => match d with
  | .tup ds => some ds
  | _ => none
theorem small62 {i : Int} (h : small 62 i) : -(2 ^ 62) ≤ i ∧ i < 2 ^ 62 := by
  have h1 := small_lt h
  rw [show (2 : Nat) ^ 62 = 4611686018427387904 from by decide] at h1
  rw [show (2 : Int) ^ 62 = 4611686018427387904 from by decide]
  omega
def rangeD (lo hi : Int) : List D := (List.range (hi - lo).toNat).map fun i => D.int (lo + (i : Nat))
def iRg1 (f : EF) : List D → Option (List D) := fun ρ => (f ρ).bind fun d => match d with
  | .int j => if small 62 j then some (rangeD 0 j) else none
  | _ => none
def iRg2 (f g : EF) : List D → Option (List D) := fun ρ => (f ρ).bind fun d => (g ρ).bind fun d' => match d, d' with
  | .int i, .int j => if small 62 i ∧ small 62 j then some (rangeD i j) else none
  | _, _ => none
section
variable {X : Cx} {T : Tb} {H0 : Hp} {Γ Γ1 Γn Γm : List Mode} {J : Jm} {e a b tg iter : Expr} {es : List Expr} {st : Stmt} {sts : List Stmt} {f g : SF} {fe fa fb : EF} {k ka kb : Knd} {pos : Pos} {q p : Q3} {fi : List D → Option (List D)} {c : Bool}
theorem PI.wk {t t' : TI} (h : PI X tg iter t) (i : ∀ σ H R, t' σ H R → t σ H R) : PI X tg iter t' := ⟨fun pins s σ H R I w => h.run pins s σ H R I (i _ _ _ w)⟩
theorem di_c (h : DI X T H0 Γ tg iter fi q false) : DI X T H0 Γ tg iter fi q true := PI.wk h fun σ H R ⟨F, O, ρ, items, r, hf, hq⟩ =>
  ⟨F, O, ρ, items, r, hf, fun F' H' J R' s s' ok => hq F' H' J R' s s' fun i F2 H2 h1 h2 _ => ok i F2 H2 h1 h2 fun z => nomatch z⟩
theorem di_q (h : DI X T H0 Γ tg iter fi p c) (hl : p.le q = true := by rfl) : DI X T H0 Γ tg iter fi q c := PI.wk h fun σ H R ⟨F, O, ρ, items, r, hf, hq⟩ =>
  ⟨F, O, ρ, items, r, hf, fun F' H' J R' s s' ok => hq F' H' J R' s s' fun i F2 H2 h1 h2 h3 => by
    obtain ⟨x, y⟩ := ok i F2 H2 h1 h2 h3
    refine ⟨fun d hd => ?_, y⟩
    obtain ⟨g, z⟩ := x d hd
    refine ⟨g, fun x H3 hy => ?_⟩
    obtain ⟨a, F3, b, c, d, e⟩ := z x H3 hy
    exact ⟨a, F3, b, c, d, e.mono (.refl _) (NK.le hl)⟩⟩
/-- a list that is frozen -/
theorem itl_ok {K : PySem.W.Frag} {a : Addr} {vs : List V} {ds : List D} {F1 H1 : Hp} (hs : SqL K F1 a vs) (rs : Rqs K T H0 q F1 vs ds) : ItOk K T H0 (Itl K a) ds q c F1 H1 := fun i F2 H2 h1 h2 _ => by
  have hs2 : SqL K H2 a vs := (h1.trans h2).seq hs
  refine ⟨fun d hd => ?_, fun hl => ⟨vs, hs2, by rw [rs.length]; exact hl⟩⟩
  obtain ⟨v, hv, rv⟩ := rs.get hd
  refine ⟨⟨vs, v, hs2, hv⟩, fun x H3 ⟨e1, e2⟩ => ?_⟩
  subst e1
  have := e2 vs hs2
  rw [hv] at this; cases this
  exact ⟨.refl _, F2, .refl _, h2, fun b h _ => h, h1.rq rv⟩
theorem di_list (he : DE X T H0 Γ e fe (.q q)) : DI X T H0 Γ tg e (iSeq fe) q c := PI.wk (pi_list he) fun σ H R ⟨F, O, ρ, items, r, hf, hq⟩ => by
  unfold iSeq at hf
  cases h1 : fe ρ with
  | none => rw [h1] at hf; cases hf
  | some d =>
    rw [h1] at hf
    simp only [Option.bind_some] at hf
    refine ⟨F, O, ρ, d, r, h1, fun F' H' v R' s s' rv => ?_⟩
    split at hf
    · cases hf
      cases rv with
      | @lst a vs ds h2 h3 h4 => exact ⟨a, rfl, ⟨vs, .inl (.inl (R'.fh _ _ h2))⟩, hq F' H' _ R' s s' (itl_ok (.inl (.inl h2)) h4)⟩
    · cases hf
      cases rv with
      | @scr a vs ds h2 h4 => exact ⟨a, rfl, ⟨vs, (same_sqS R'.fh h2).seq⟩, hq F' H' _ R' s s' (itl_ok h2.seq h4)⟩
    · cases hf
theorem di_listf (he : DE X T H0 Γ e fe (.fl q)) : DI X T H0 Γ tg e (iSeq fe) q c := PI.wk (pi_list he) fun σ H R ⟨F, O, ρ, items, r, hf, hq⟩ => by
  unfold iSeq at hf
  cases h1 : fe ρ with
  | none => rw [h1] at hf; cases hf
  | some d =>
    rw [h1] at hf
    simp only [Option.bind_some] at hf
    refine ⟨F, O, ρ, d, r, h1, fun F' H' v R' s s' ⟨a, vs, ds, e1, e2, h2, h4⟩ => ?_⟩
    subst e1; subst e2
    cases hf
    exact ⟨a, rfl, ⟨vs, .inl (.inl (R'.fh _ _ h2))⟩, hq F' H' _ R' s s' (itl_ok (.inl (.inl h2)) h4)⟩
/-- a list as it stands: for a comprehension -/
theorem di_listb (he : DE X T H0 Γ e fe (.bl q)) : DI X T H0 Γ tg e (iSeq fe) q true := PI.wk (pi_list he) fun σ H R ⟨F, O, ρ, items, r, hf, hq⟩ => by
  unfold iSeq at hf
  cases h1 : fe ρ with
  | none => rw [h1] at hf; cases hf
  | some d =>
    rw [h1] at hf
    simp only [Option.bind_some] at hf
    refine ⟨F, O, ρ, d, r, h1, fun F' H' v R' s s' ⟨a, vs, ds, e1, e2, h2, h4⟩ => ?_⟩
    subst e1; subst e2
    cases hf
    refine ⟨a, rfl, ⟨vs, .inl (.inl h2)⟩, hq F' H' _ R' s s' fun i F2 H2 g1 g2 g3 => ?_⟩
    have hs2 : SqL X.K H2 a vs := (g3 rfl).seq (.inl (.inl h2))
    refine ⟨fun d hd => ?_, fun hl => ⟨vs, hs2, by rw [h4.length]; exact hl⟩⟩
    obtain ⟨v, hv, rv⟩ := h4.get hd
    refine ⟨⟨vs, v, hs2, hv⟩, fun x H3 ⟨e1, e2⟩ => ?_⟩
    subst e1
    have := e2 vs hs2
    rw [hv] at this; cases this
    exact ⟨.refl _, F2, .refl _, g2, fun b h _ => h, g1.rq rv⟩
theorem di_tup (he : DE X T H0 Γ e fe (.q q)) : DI X T H0 Γ tg e (iTupD fe) q c := PI.wk (pi_tup he) fun σ H R ⟨F, O, ρ, items, r, hf, hq⟩ => by
  unfold iTupD at hf
  cases h1 : fe ρ with
  | none => rw [h1] at hf; cases hf
  | some d =>
    rw [h1] at hf
    simp only [Option.bind_some] at hf
    refine ⟨F, O, ρ, d, r, h1, fun F' H' v R' s s' rv => ?_⟩
    split at hf
    · cases hf
      cases rv with
      | @tup a vs ds h2 h4 =>
        refine ⟨a, rfl, ⟨vs, same_sqT R'.fh h2⟩, hq F' H' _ R' s s' fun i F2 H2 g1 g2 _ => ?_⟩
        have hs2 : SqT X.K H2 a vs := same_sqT (g1.trans g2) h2
        refine ⟨fun d hd => ?_, fun hl => ⟨vs, hs2, by rw [h4.length]; exact hl⟩⟩
        obtain ⟨v, hv, rv⟩ := h4.get hd
        refine ⟨⟨vs, v, hs2, hv⟩, fun x H3 ⟨e1, e2⟩ => ?_⟩
        subst e1
        have := e2 vs hs2
        rw [hv] at this; cases this
        exact ⟨.refl _, F2, .refl _, g2, fun b h _ => h, g1.rq rv⟩
    · cases hf
theorem itr_ok {K : PySem.W.Frag} {lo hi : Int} {F1 H1 : Hp} : ItOk K T H0 (Itr lo (hi - lo).toNat) (rangeD lo hi) q c F1 H1 := fun i F2 H2 h1 h2 _ => by
  refine ⟨fun d hd => ?_, fun hl => by
    have e : (rangeD lo hi).length = (hi - lo).toNat := by simp [rangeD]
    rw [e] at hl; exact hl⟩
  unfold rangeD at hd
  rw [List.getElem?_map] at hd
  by_cases hi' : i < (hi - lo).toNat
  · rw [List.getElem?_range hi'] at hd
    cases hd
    refine ⟨hi', fun x H3 ⟨e1, e2⟩ => ?_⟩
    subst e1; subst e2
    exact ⟨.refl _, F2, .refl _, h2, fun b h _ => h, .int _⟩
  · rw [List.getElem?_eq_none (by simpa using hi')] at hd
    cases hd
variable {po : Pos}
theorem di_range1 (hg : Gl X "range") (hm : X.mg "range" = none) (ha : DE X T H0 Γ a fa ka) (hs : starEach [a] X.env = [(false, eval a X.env)] := by rfl) : DI X T H0 Γ tg (.Call (.Name "range" po) [a] [] pos) (iRg1 fa) q c :=
  PI.wk (pi_range1 hg hm (da_cons ha da_nil hs) hs) fun σ H R ⟨F, O, ρ, items, r, hf, hq⟩ => by
    unfold iRg1 at hf
    cases h1 : fa ρ with
    | none => rw [h1] at hf; cases hf
    | some d =>
      rw [h1] at hf
      simp only [Option.bind_some] at hf
      split at hf
      · split at hf
        · rename_i j hb
          cases hf
          refine ⟨F, O, ρ, [.int j], r, by unfold aCons aNil; rw [h1]; rfl, fun F' H' vs R' s s' rv => ?_⟩
          cases rv with
          | cons r1 r2 =>
            cases r2
            cases r1
            refine ⟨j, rfl, (small62 hb).1, (small62 hb).2, hq F' H' _ R' s s' ?_⟩
            have := @itr_ok T H0 q c X.K 0 j F' H'
            rwa [Int.sub_zero] at this
        · cases hf
      · cases hf
theorem di_range2 (hg : Gl X "range") (hm : X.mg "range" = none) (ha : DE X T H0 Γ a fa ka) (hb : DE X T H0 Γ b fb kb) (hs : starEach [a, b] X.env = [(false, eval a X.env), (false, eval b X.env)] := by rfl) (hs2 : starEach [b] X.env = [(false, eval b X.env)] := by rfl) :
    DI X T H0 Γ tg (.Call (.Name "range" po) [a, b] [] pos) (iRg2 fa fb) q c :=
  PI.wk (pi_range2 hg hm (da_cons ha (da_cons hb da_nil hs2) (by rw [hs, hs2])) hs hs2) fun σ H R ⟨F, O, ρ, items, r, hf, hq⟩ => by
    unfold iRg2 at hf
    cases h1 : fa ρ with
    | none => rw [h1] at hf; cases hf
    | some d =>
      rw [h1] at hf
      simp only [Option.bind_some] at hf
      cases h2 : fb ρ with
      | none => rw [h2] at hf; cases hf
      | some d' =>
        rw [h2] at hf
        simp only [Option.bind_some] at hf
        split at hf
        · split at hf
          · rename_i i j hb
            cases hf
            refine ⟨F, O, ρ, [.int i, .int j], r, by unfold aCons aNil; rw [h1, h2]; rfl, fun F' H' vs R' s s' rv => ?_⟩
            cases rv with
            | cons r1 r2 =>
              cases r2 with
              | cons r2 r3 =>
                cases r3
                cases r1
                cases r2
                exact ⟨i, j, rfl, ⟨(small62 hb.1).1, (small62 hb.1).2, (small62 hb.2).1, (small62 hb.2).2⟩, hq F' H' _ R' s s' itr_ok⟩
          · cases hf
        · cases hf

/-! ### for -/
def clrs : List Nat → List D → List D
  | [], ρ => ρ
  | i :: is, ρ => clrs is (ρ.set i .non)
def loopD (tg : D → List D → Option (List D)) (body : SF) (cl : List Nat) : List D → SF
  | [], ρ => some (.nx ρ)
  | x :: xs, ρ => (tg x ρ).bind fun ρ1 => (body ρ1).bind fun o => match o with
    | .nx ρ2 => loopD tg body cl xs (clrs cl ρ2)
    | .ct ρ2 => loopD tg body cl xs (clrs cl ρ2)
    | .bk ρ2 => some (.nx (clrs cl ρ2))
    | .rt d => some (.rt d)
def sFor (fi : List D → Option (List D)) (tg : D → List D → Option (List D)) (body : SF) (cl : List Nat) : SF := fun ρ => (fi ρ).bind fun items => loopD tg body cl items (clrs cl ρ)
theorem Rl.clr {K : PySem.W.Frag} {F H : Hp} {O : Own} {σ : L2.St} : ∀ {cl : List Nat} {ρ : List D}, cl.all (fun i => decide (Γ[i]? = some .no)) = true → Rl K T H0 Γ F O σ H ρ → Rl K T H0 Γ F O σ H (clrs cl ρ)
  | [], _, _, R => R
  | i :: cl, ρ, h, R => by
    rw [List.all_cons, Bool.and_eq_true] at h
    refine Rl.clr (cl := cl) (ρ := ρ.set i .non) h.2 ⟨R.h0, R.fh, R.on, R.od, R.ls, by simp [R.lr], fun j m hm => ?_⟩
    by_cases hj : j = i
    · subst hj
      rw [of_decide_eq_true h.1] at hm
      cases hm
      trivial
    · rw [List.getElem?_set_ne (Ne.symm hj)]
      exact R.sl j m hm
theorem ds_for {gg : TG} {vs : List Nat} {tgd : D → List D → Option (List D)} {body : List Stmt} {cl : List Nat} (hp : PassesOwn (model X.prog X.w) X.A X.env X.xe) (hc : X.calm = true)
    (hi : DI X T H0 Γ tg iter fi q false) (hg : PG X tg gg) (hs : TgS X.K T H0 Γ gg vs tgd q Γ1) (hb : DSs X T H0 Γ1 body f Γ ⟨Γ, Γ, J.r⟩)
    (hcl : cl.all (fun i => decide (Γ[i]? = some .no)) = true) (hfs : ∀ x, foldedSetIterable iter X.env x = pure x := by intro _; rfl) : DS X T H0 Γ (.For tg iter body [] pos) (sFor fi tgd f cl) Γ J :=
  PS.wk (ps_for hp hc hi hg hb hfs) fun E σ H ⟨F, O, ρ, out, R, hf, hq⟩ => by
    unfold sFor at hf
    cases h1 : fi ρ with
    | none => rw [h1] at hf; cases hf
    | some items =>
      rw [h1] at hf
      simp only [Option.bind_some] at hf
      refine ⟨F, O, ρ, items, R, h1, fun F1 H1 J1 R1 s1 s1' ok => ?_⟩
      refine ⟨fun i m σ H => m = items.length - i ∧ i ≤ items.length ∧ ∃ F2 O2 ρ2 out2, Same F1 F2 ∧ Rl X.K T H0 Γ F2 O2 σ H ρ2 ∧ loopD tgd f cl (items.drop i) ρ2 = some out2 ∧ Fin X.K T H0 F2 Γ J E out2,
        ⟨items.length, by simp, Nat.zero_le _, F1, O, clrs cl ρ, out, .refl _, R1.clr hcl, by simpa using hf, hq.from s1⟩, ?_⟩
      rintro i m σ2 H2 ⟨rfl, hi, F2, O2, ρ2, out2, s2, R2, hl, hq2⟩
      obtain ⟨ok1, ok2⟩ := ok i F2 H2 s2 R2.fh (fun z => nomatch z)
      by_cases hlt : i < items.length
      · obtain ⟨hgo, hy⟩ := ok1 items[i] (List.getElem?_eq_getElem hlt)
        rw [List.drop_eq_getElem_cons hlt] at hl
        unfold loopD at hl
        cases h3 : tgd items[i] ρ2 with
        | none => rw [h3] at hl; cases hl
        | some ρ3 =>
          rw [h3] at hl
          simp only [Option.bind_some] at hl
          cases h4 : f ρ3 with
          | none => rw [h4] at hl; cases hl
          | some o4 =>
            rw [h4] at hl
            simp only [Option.bind_some] at hl
            refine .inr ⟨hgo, fun σ5 H5 => ∃ F5 O5 ρ5 out5, Same F1 F5 ∧ Rl X.K T H0 Γ F5 O5 σ5 H5 ρ5 ∧ loopD tgd f cl (items.drop (i + 1)) ρ5 = some out5 ∧ Fin X.K T H0 F5 Γ J E out5,
              fun σ5 H5 h5 => ⟨items.length - (i + 1), by omega, rfl, hlt, h5⟩, fun x H3 hx => ?_⟩
            obtain ⟨t3, F3, u3, v3, w3, r3⟩ := hy x H3 hx
            have R3 : Rl X.K T H0 Γ F3 O2 σ2 H3 ρ2 := (R2.grow t3).more u3 v3 fun j b hb => by
              obtain ⟨z1, o, z2, _⟩ := R2.on j b hb
              exact w3 b z1 (by rw [z2]; exact fun z => nomatch z)
            refine hs F3 O2 σ2 H3 ρ2 x _ ρ3 _ R3 r3 h3 fun σ4 R4 _ _ => ⟨F3, O2, ρ3, o4, R4, h4, ?_⟩
            cases o4 with
            | nx ρ' => exact fun F6 O6 σ6 H6 s6 R6 => ⟨F6, O6, _, out2, (s2.trans u3).trans s6, R6.clr hcl, hl, hq2.from (u3.trans s6)⟩
            | ct ρ' => exact fun F6 O6 σ6 H6 s6 R6 => ⟨F6, O6, _, out2, (s2.trans u3).trans s6, R6.clr hcl, hl, hq2.from (u3.trans s6)⟩
            | bk ρ' =>
              cases hl
              exact fun F6 O6 σ6 H6 s6 R6 => hq2 F6 O6 σ6 H6 (u3.trans s6) (R6.clr hcl)
            | rt d =>
              cases hl
              exact hq2
      · have : i = items.length := by omega
        subst this
        rw [List.drop_length] at hl
        cases hl
        exact .inl ⟨ok2 (Nat.le_refl _), hq2 F2 O2 σ2 H2 (.refl _) R2⟩

/-! ### while, n turns at most -/
def whileD (t : List D → Option Bool) (body : SF) (cl : List Nat) : Nat → SF
  | 0, _ => none
  | n + 1, ρ => (t ρ).bind fun b => if b = true then (body ρ).bind fun o => match o with
    | .nx ρ2 => whileD t body cl n (clrs cl ρ2)
    | .ct ρ2 => whileD t body cl n (clrs cl ρ2)
    | .bk ρ2 => some (.nx (clrs cl ρ2))
    | .rt d => some (.rt d)
    else some (.nx ρ)
def sWhile (t : List D → Option Bool) (body : SF) (cl : List Nat) (n : Nat) : SF := fun ρ => whileD t body cl n (clrs cl ρ)
theorem ds_while {t : List D → Option Bool} {cnd : Expr} {body : List Stmt} {cl : List Nat} {n : Nat} (hp : PassesOwn (model X.prog X.w) X.A X.env X.xe) (hc : DT X T H0 Γ cnd t) (hb : DSs X T H0 Γ body f Γ ⟨Γ, Γ, J.r⟩)
    (hcl : cl.all (fun i => decide (Γ[i]? = some .no)) = true) : DS X T H0 Γ (.While cnd body [] pos) (sWhile t f cl n) Γ J :=
  PS.wk (ps_while hp hc hb) fun E σ H ⟨F, O, ρ, out, R, hf, hq⟩ => by
    refine ⟨fun m σ H => ∃ F2 O2 ρ2 out2, Rl X.K T H0 Γ F2 O2 σ H ρ2 ∧ whileD t f cl m ρ2 = some out2 ∧ Fin X.K T H0 F2 Γ J E out2, ⟨n, F, O, clrs cl ρ, out, R.clr hcl, hf, hq⟩, ?_⟩
    rintro m σ2 H2 ⟨F2, O2, ρ2, out2, R2, hl, hq2⟩
    cases m with
    | zero => cases hl
    | succ m =>
      unfold whileD at hl
      cases h3 : t ρ2 with
      | none => rw [h3] at hl; cases hl
      | some b =>
        rw [h3] at hl
        simp only [Option.bind_some] at hl
        refine ⟨F2, O2, ρ2, b, R2, h3, fun F3 H3 R3 s3 t3 => ?_⟩
        cases b with
        | false =>
          simp at hl
          subst hl
          exact hq2 F3 O2 σ2 H3 s3 R3
        | true =>
          rw [if_pos rfl] at hl ⊢
          cases h4 : f ρ2 with
          | none => rw [h4] at hl; cases hl
          | some o4 =>
            rw [h4] at hl
            simp only [Option.bind_some] at hl
            refine ⟨fun σ5 H5 => ∃ F5 O5 ρ5 out5, Rl X.K T H0 Γ F5 O5 σ5 H5 ρ5 ∧ whileD t f cl m ρ5 = some out5 ∧ Fin X.K T H0 F5 Γ J E out5, fun σ5 H5 h5 => ⟨m, Nat.lt_succ_self m, h5⟩, F3, O2, ρ2, o4, R3, h4, ?_⟩
            cases o4 with
            | nx ρ' => exact fun F6 O6 σ6 H6 s6 R6 => ⟨F6, O6, _, out2, R6.clr hcl, hl, hq2.from (s3.trans s6)⟩
            | ct ρ' => exact fun F6 O6 σ6 H6 s6 R6 => ⟨F6, O6, _, out2, R6.clr hcl, hl, hq2.from (s3.trans s6)⟩
            | bk ρ' =>
              cases hl
              exact fun F6 O6 σ6 H6 s6 R6 => hq2 F6 O6 σ6 H6 (s3.trans s6) (R6.clr hcl)
            | rt d =>
              cases hl
              exact hq2

/-! ### list comprehensions -/
def compGo (tg : D → List D → Option (List D)) (tt : List D → Option Bool) (fe : EF) (ρ : List D) : List D → Option (List D)
  | [] => some []
  | x :: xs => (tg x ρ).bind fun ρ1 => (tt ρ1).bind fun b => if b = true then (fe ρ1).bind fun y => (compGo tg tt fe ρ xs).bind fun ys => some (y :: ys) else compGo tg tt fe ρ xs
def eComp (fi : List D → Option (List D)) (tg : D → List D → Option (List D)) (tt : List D → Option Bool) (fe : EF) : EF := fun ρ => (fi ρ).bind fun items => (compGo tg tt fe ρ items).bind fun ds => if ds.length ≤ 1000000 then some (.lst ds) else none
theorem wipe_get : ∀ (vs : List Nat) (σ : L2.St) (j : Nat), (wipe σ vs)[j]? = if j ∈ vs ∧ j < σ.length then some none else σ[j]?
  | [], σ, j => by simp [wipe]
  | v :: vs, σ, j => by
    unfold wipe
    by_cases hj : v = j
    · subst hj
      by_cases hl : v < σ.length
      · rw [List.getElem?_set_self (by rw [wipe_length]; exact hl), if_pos ⟨List.mem_cons_self, hl⟩]
      · rw [List.getElem?_eq_none (by rw [List.length_set, wipe_length]; omega), if_neg (fun z => hl z.2), List.getElem?_eq_none (by omega)]
    · rw [List.getElem?_set_ne hj, wipe_get vs σ j]
      have : (j ∈ v :: vs ∧ j < σ.length) ↔ (j ∈ vs ∧ j < σ.length) := by simp only [List.mem_cons]; exact ⟨fun ⟨h1, h2⟩ => ⟨h1.resolve_left (fun z => hj z.symm), h2⟩, fun ⟨h1, h2⟩ => ⟨.inr h1, h2⟩⟩
      simp only [this]
theorem wipe_eq {vs : List Nat} {σ σ' : L2.St} (hl : σ'.length = σ.length) (h : ∀ j, j ∉ vs → σ'[j]? = σ[j]?) : wipe σ' vs = wipe σ vs := by
  apply List.ext_getElem?
  intro j
  rw [wipe_get, wipe_get, hl]
  by_cases hj : j ∈ vs
  · by_cases hl2 : j < σ.length
    · rw [if_pos ⟨hj, hl2⟩, if_pos ⟨hj, hl2⟩]
    · rw [if_neg (fun z => hl2 z.2), if_neg (fun z => hl2 z.2), List.getElem?_eq_none (by omega), List.getElem?_eq_none (by omega)]
  · rw [if_neg (fun z => hj z.1), if_neg (fun z => hj z.1), h j hj]
theorem wipe_wipe (vs : List Nat) (σ : L2.St) : wipe (wipe σ vs) vs = wipe σ vs := wipe_eq (wipe_length _ _) fun j hj => by rw [wipe_get, if_neg fun z => hj z.1]
theorem Rl.wiped {K : PySem.W.Frag} {F H : Hp} {O : Own} {σ : L2.St} {ρ : List D} {vs : List Nat} (R : Rl K T H0 Γ F O σ H ρ) (h : vs.all (fun i => decide (Γ[i]? = some .no)) = true) : Rl K T H0 Γ F O (wipe σ vs) H ρ :=
  ⟨R.h0, R.fh, R.on, R.od, by rw [wipe_length]; exact R.ls, R.lr, fun j m hm => by
    by_cases hj : j ∈ vs
    · have := of_decide_eq_true (List.all_eq_true.mp h j hj)
      rw [this] at hm; cases hm
      trivial
    · rw [wipe_get, if_neg fun z => hj z.1]
      exact R.sl j m hm⟩
theorem Rl.unwiped {K : PySem.W.Frag} {F H : Hp} {O : Own} {σ : L2.St} {ρ : List D} {vs : List Nat} (R : Rl K T H0 Γ F O (wipe σ vs) H ρ) : ∀ j m, Γ[j]? = some m → j ∉ vs → SlotR K T H0 F H (O j) σ[j]? ρ[j]? m := fun j m hm hj => by
  have := R.sl j m hm
  rwa [wipe_get, if_neg fun z => hj z.1] at this
/-- what a comprehension's rules ask follows -/
theorem lc_sem {K : PySem.W.Frag} {gg : TG} {own vs : List Nat} {tgd : D → List D → Option (List D)} {tt : List D → Option Bool} (hs : TgS K T H0 Γ gg vs tgd q Γ1) (hv : vs.all (fun i => own.contains i) = true) (ho : own.all (fun i => decide (Γ[i]? = some .no)) = true) :
    ∀ σ H Q, tD K T H0 Γ (eComp fi tgd tt fe) (.ol p) σ H Q → tLc (tDI K T H0 Γ fi q true) gg (tDT K T H0 Γ1 tt) (tD K T H0 Γ1 fe (.q p)) own σ H Q := by
  rintro σ H Q ⟨F, O, ρ, d, R, hf, hq⟩
  unfold eComp at hf
  cases h1 : fi ρ with
  | none => rw [h1] at hf; cases hf
  | some items =>
    rw [h1] at hf
    simp only [Option.bind_some] at hf
    cases h2 : compGo tgd tt fe ρ items with
    | none => rw [h2] at hf; cases hf
    | some ds =>
      rw [h2] at hf
      simp only [Option.bind_some] at hf
      split at hf
      · rename_i hlen
        cases hf
        refine ⟨F, O, ρ, items, R, h1, fun F1 H1 J1 R1 s1 s1' ok p1 hp1 => ?_⟩
        have big : ∀ n, n ≤ 1000000 → n ≤ sizeLine := fun n h => by rw [sizeLine_eq]; omega
        have hO1 := R1.notOwn hp1
        have hF1 : F1 p1 = none := R1.fh.free hp1
        refine ⟨fun i m H => m = items.length - i ∧ i ≤ items.length ∧ ∃ F2 acc accd rest, Same F1 F2 ∧ Same H1 H ∧ Rl K T H0 Γ F2 (resv O Γ.length p1) σ H ρ ∧ H p1 = some (.lst acc) ∧ Rqs K T H0 p F2 acc accd ∧ compGo tgd tt fe ρ (items.drop i) = some rest ∧ ds = accd ++ rest,
          ⟨items.length, by simp, Nat.zero_le _, F1, [], [], ds, .refl _, (R1.junk hp1).2, (R1.junk hp1).1.res upd_same rfl hF1 hO1, upd_same, .nil, by simpa using h2, rfl⟩, ?_⟩
        rintro i m H2 ⟨rfl, hi, F2, acc, accd, rest, s2, t2, R2, hp2, ra, hc, hds⟩
        obtain ⟨ok1, ok2⟩ := ok i F2 H2 s2 R2.fh (fun _ => t2)
        by_cases hlt : i < items.length
        · obtain ⟨hgo, hy⟩ := ok1 items[i] (List.getElem?_eq_getElem hlt)
          rw [List.drop_eq_getElem_cons hlt] at hc
          unfold compGo at hc
          cases h3 : tgd items[i] ρ with
          | none => rw [h3] at hc; cases hc
          | some ρ3 =>
            rw [h3] at hc
            simp only [Option.bind_some] at hc
            cases h4 : tt ρ3 with
            | none => rw [h4] at hc; cases hc
            | some b4 =>
              rw [h4] at hc
              simp only [Option.bind_some] at hc
              refine .inr ⟨hgo, fun H5 => ∃ F5 acc5 accd5 rest5, Same F1 F5 ∧ Same H1 H5 ∧ Rl K T H0 Γ F5 (resv O Γ.length p1) σ H5 ρ ∧ H5 p1 = some (.lst acc5) ∧ Rqs K T H0 p F5 acc5 accd5 ∧ compGo tgd tt fe ρ (items.drop (i + 1)) = some rest5 ∧ ds = accd5 ++ rest5,
                fun H5 h5 => ⟨items.length - (i + 1), by omega, rfl, hlt, h5⟩, fun x H3 hx => ?_⟩
              obtain ⟨t3, F3, u3, v3, w3, r3⟩ := hy x H3 hx
              have R3 : Rl K T H0 Γ F3 (resv O Γ.length p1) σ H3 ρ := (R2.grow t3).more u3 v3 fun j b hb => by
                obtain ⟨z1, o, z2, _⟩ := R2.on j b hb
                exact w3 b z1 (by rw [z2]; exact fun z => nomatch z)
              refine hs F3 _ (wipe σ own) H3 ρ x _ ρ3 _ (R3.wiped ho) r3 h3 fun σ4 R4 k4 l4 => ⟨?_, ?_⟩
              · rw [← wipe_wipe own σ]
                exact wipe_eq l4 fun j hj => k4 j fun z => hj (by simpa using List.all_eq_true.mp hv j z)
              · have back : ∀ {F6 H6 : Hp}, Rl K T H0 Γ1 F6 (resv O Γ.length p1) σ4 H6 ρ3 → Same F3 F6 → Same H3 H6 → Rl K T H0 Γ F6 (resv O Γ.length p1) σ H6 ρ := fun {F6 H6} R6 s6 t6 =>
                  (R3.grow t6).more s6 R6.fh fun j b hb => (R6.on j b hb).1
                have len : ∀ {n : Nat} {r : List D}, ds = accd ++ r → r.length = n + 1 → acc.length < sizeLine := fun {n r} e1 e2 => by
                  have e3 : ds.length = accd.length + r.length := by rw [e1, List.length_append]
                  rw [ra.length, sizeLine_eq]
                  omega
                refine ⟨F3, _, ρ3, b4, R4, h4, fun F6 H6 R6 s6 t6 => ?_⟩
                cases b4 with
                | false =>
                  rw [if_neg Bool.false_ne_true] at hc ⊢
                  exact ⟨F6, acc, accd, rest, (s2.trans u3).trans s6, (t2.trans t3).trans t6, back R6 s6 t6, t6 _ _ (t3 _ _ hp2), (u3.trans s6).rqs ra, hc, hds⟩
                | true =>
                  rw [if_pos rfl] at hc ⊢
                  cases h7 : fe ρ3 with
                  | none => rw [h7] at hc; cases hc
                  | some y7 =>
                    rw [h7] at hc
                    simp only [Option.bind_some] at hc
                    cases h8 : compGo tgd tt fe ρ (items.drop (i + 1)) with
                    | none => rw [h8] at hc; cases hc
                    | some r8 =>
                      rw [h8] at hc
                      cases hc
                      refine ⟨F6, _, ρ3, y7, R6, h7, fun F9 H9 v9 R9 s9 t9 r9 => ⟨acc, t9 _ _ (t6 _ _ (t3 _ _ hp2)), len hds (by rw [List.length_cons]), ?_⟩⟩
                      have R9' := back R9 (s6.trans s9) (t6.trans t9)
                      have h9 : H1 p1 = none := hp1
                      refine ⟨F9, acc ++ [v9], accd ++ [y7], r8, ((s2.trans u3).trans s6).trans s9, fun b o e => ?_, R9'.upRes rfl, upd_same, (((u3.trans s6).trans s9).rqs ra).append (.cons r9 .nil), rfl, by rw [hds, List.append_assoc]; rfl⟩
                      rw [upd_ne (ne_of_none e h9)]
                      exact (((t2.trans t3).trans t6).trans t9) _ _ e
        · have : i = items.length := by omega
          subst this
          rw [List.drop_length] at hc
          cases hc
          rw [List.append_nil] at hds
          subst hds
          exact .inl ⟨ok2 (Nat.le_refl _), hq F2 H2 _ R2.unres (s1.trans s2) (s1'.trans t2) ⟨p1, acc, ds, rfl, rfl, hp2, (R2.on Γ.length p1 (.inr ⟨rfl, rfl⟩)).1, hO1, ra⟩⟩
      · cases hf
theorem dt_pts {ifs : List Expr} {tt : List D → Option Bool} {c : Expr} (h : DT X T H0 Γ c tt) : PTs X [c] (tDT X.K T H0 Γ tt) := pts_one h
def tTrue : List D → Option Bool := fun _ => some true
theorem pts_no : PTs X [] (tDT X.K T H0 Γ tTrue) := ⟨fun pins s σ H Q I ⟨F, O, ρ, b, R, hf, hq⟩ => by
  cases hf
  exact (pts_nil (X := X)).run pins s σ H Q I (hq F H R (.refl _) (.refl _))⟩
theorem de_comp {elt : Expr} {ifs : List Expr} {scope : Scope} {own : List (Str × Nat)} {gg : TG} {vs : List Nat} {tgd : D → List D → Option (List D)} {tt : List D → Option Bool} (hc : X.calm = true) (hN : X.N.Nodup) (hi : DI X T H0 Γ tg iter fi q true) (ok : BlkOk X.N X.env.scope scope own)
    (hg : ∀ (s : Shared) (H : Hp) (C : Addr) (cl : List (Str × Addr)) (fp : List Addr), PG (X.blk s H scope (compEnvC scope cl C X.env) fp) tg gg) (hs : TgS X.K T H0 Γ gg vs tgd q Γ1)
    (ht : ∀ (s : Shared) (H : Hp) (C : Addr) (cl : List (Str × Addr)) (fp : List Addr), PTs (X.blk s H scope (compEnvC scope cl C X.env) fp) ifs (tDT X.K T H0 Γ1 tt))
    (he : ∀ (s : Shared) (H : Hp) (C : Addr) (cl : List (Str × Addr)) (fp : List Addr), DE (X.blk s H scope (compEnvC scope cl C X.env) fp) T H0 Γ1 elt fe (.q p))
    (hv : vs.all (fun i => (own.map (·.2)).contains i) = true) (ho : (own.map (·.2)).all (fun i => decide (Γ[i]? = some .no)) = true) (hfs : ∀ x, foldedSetIterable iter X.env x = pure x := by intro _; rfl) :
    DE X T H0 Γ (.ListComp elt [⟨tg, iter, ifs, 0⟩] scope pos) (eComp fi tgd tt fe) (.ol p) := PE.wk (pe_lc hc hN hi ok hg ht he hfs) (lc_sem hs hv ho)
/-- name = [..] on one line -/
theorem ds_comp {elt : Expr} {ifs : List Expr} {scope : Scope} {own : List (Str × Nat)} {gg : TG} {vs : List Nat} {tgd : D → List D → Option (List D)} {tt : List D → Option Bool} {i : Nat} {y : Str} {py spos : Pos} (hc : X.calm = true) (hN : X.N.Nodup) (hy : X.N[i]? = some y) (hyl : X.env.scope.names.lookup y = some .local)
    (hsw : swapsWith (.ListComp elt [⟨tg, iter, ifs, 0⟩] scope pos) (some (.Name y py)) spos.line X.env = pure true) (hi : DI X T H0 Γ tg iter fi q true) (ok : BlkOk X.N X.env.scope scope own)
    (hg : ∀ (s : Shared) (H : Hp) (C : Addr) (cl : List (Str × Addr)) (fp : List Addr), PG (X.blk s H scope (compEnvC scope cl C X.env) fp) tg gg) (hs : TgS X.K T H0 Γ gg vs tgd q Γ1)
    (ht : ∀ (s : Shared) (H : Hp) (C : Addr) (cl : List (Str × Addr)) (fp : List Addr), PTs (X.blk s H scope (compEnvC scope cl C X.env) fp) ifs (tDT X.K T H0 Γ1 tt))
    (he : ∀ (s : Shared) (H : Hp) (C : Addr) (cl : List (Str × Addr)) (fp : List Addr), DE (X.blk s H scope (compEnvC scope cl C X.env) fp) T H0 Γ1 elt fe (.q p))
    (hv : vs.all (fun i => (own.map (·.2)).contains i) = true) (ho : (own.map (·.2)).all (fun i => decide (Γ[i]? = some .no)) = true) (hl : i < Γ.length := by decide) (hfs : ∀ x, foldedSetIterable iter X.env x = pure x := by intro _; rfl) :
    DS X T H0 Γ (.Assign [.Name y py] (.ListComp elt [⟨tg, iter, ifs, 0⟩] scope pos) spos) (sSet i (eComp fi tgd tt fe)) (Γ.set i (.ow p)) J :=
  PS.wk (ps_setLc hc hN hy hyl hsw hi ok hg ht he hfs) fun E σ H h => lc_sem hs hv ho σ H _ (seto_sem hl E σ H h)
end
end DL

namespace DL
open PySem PySem.Spec PyProof.Rows L2

/-! ### items, lengths -/
def gIx : D → D → Option D
  | .lst ds, .int i => atI ds i
  | .scr ds, .int i => atI ds i
  | _, _ => none
def gIxT : D → D → Option D
  | .tup ds, .int i => atI ds i
  | _, _ => none
def gLen : D → Option D
  | .lst ds => some (.int ds.length)
  | .scr ds => some (.int ds.length)
  | .tup ds => some (.int ds.length)
  | _ => none
section
variable {X : Cx} {T : Tb} {H0 : Hp} {Γ Γ1 Γn Γm : List Mode} {J : Jm} {e a b tg iter : Expr} {es : List Expr} {st : Stmt} {sts : List Stmt} {f g : SF} {fe fa fb : EF} {k ka kb : Knd} {pos po : Pos} {q p : Q3} {fi : List D → Option (List D)} {c : Bool} {fs : List D → Option (List D)}
theorem RepsG.at {K : PySem.W.Frag} {N : Addr → Prop} {F : Hp} {vs : List V} {ds : List D} {i : Int} {d : D} (r : RepsG K T N F vs ds) (h : atI ds i = some d) : ∃ v, atI vs i = some v ∧ RepG K T N F v d := by
  unfold atI at h ⊢
  rw [r.length]
  cases h1 : ixN ds.length i with
  | none => rw [h1] at h; cases h
  | some j =>
    rw [h1] at h
    simp only [Option.bind_some] at h ⊢
    exact r.get h
/-- the kind of an item -/
def Knd.item : Knd → Knd
  | .q q => .q q
  | .B => .B
  | .bl q => .q q
  | .fl q => .q q
  | .ol q => .q q
/-- a list of any kind, as it stands, and its items -/
theorem Rp.seq {K : PySem.W.Frag} {F H : Hp} {O : Own} {σ : L2.St} {ρ : List D} {v : V} {ds : List D} (R : Rl K T H0 Γ F O σ H ρ) (h : Rp K T H0 F H O k v (.lst ds)) : ∃ a vs, v = .ref a ∧ H a = some (.lst vs) ∧ RUs K T H vs ds ∧
    ∀ (i : Int) d, atI ds i = some d → ∃ w, atI vs i = some w ∧ Rp K T H0 F H O k.item w d := by
  cases k with
  | q k =>
    cases h with
    | @lst a vs ds h1 h2 h3 => exact ⟨a, vs, rfl, R.fh _ _ h1, R.Us_of h3, fun i d hd => h3.at hd⟩
  | B =>
    cases h with
    | @lst a vs ds h1 h2 h3 => exact ⟨a, vs, rfl, h1, h3, fun i d hd => h3.at hd⟩
  | bl k =>
    obtain ⟨a, vs, ds, rfl, e, h1, h3⟩ := h
    cases e
    exact ⟨a, vs, rfl, h1, R.Us_of h3, fun i d hd => h3.at hd⟩
  | fl k =>
    obtain ⟨a, vs, ds, rfl, e, h1, h3⟩ := h
    cases e
    exact ⟨a, vs, rfl, R.fh _ _ h1, R.Us_of h3, fun i d hd => h3.at hd⟩
  | ol k =>
    obtain ⟨a, vs, ds, rfl, e, h1, _, _, h3⟩ := h
    cases e
    exact ⟨a, vs, rfl, h1, R.Us_of h3, fun i d hd => h3.at hd⟩
theorem Rp.scr {K : PySem.W.Frag} {F H : Hp} {O : Own} {σ : L2.St} {ρ : List D} {v : V} {ds : List D} (R : Rl K T H0 Γ F O σ H ρ) (h : Rp K T H0 F H O k v (.scr ds)) : ∃ a vs, v = .ref a ∧ SqL K H a vs ∧ RUs K T H vs ds ∧
    ∀ (i : Int) d, atI ds i = some d → ∃ w, atI vs i = some w ∧ Rp K T H0 F H O k.item w d := by
  cases k with
  | q k =>
    cases h with
    | @scr a vs ds h1 h3 => exact ⟨a, vs, rfl, (same_sqS R.fh h1).seq, R.Us_of h3, fun i d hd => h3.at hd⟩
  | B =>
    cases h with
    | @scr a vs ds h1 h3 => exact ⟨a, vs, rfl, h1.seq, h3, fun i d hd => h3.at hd⟩
  | bl k => obtain ⟨a, vs, ds, _, e, _⟩ := h; cases e
  | fl k => obtain ⟨a, vs, ds, _, e, _⟩ := h; cases e
  | ol k => obtain ⟨a, vs, ds, _, e, _⟩ := h; cases e
theorem Rp.tup {K : PySem.W.Frag} {F H : Hp} {O : Own} {σ : L2.St} {ρ : List D} {v : V} {ds : List D} (R : Rl K T H0 Γ F O σ H ρ) (h : Rp K T H0 F H O k v (.tup ds)) : ∃ a vs, v = .ref a ∧ SqT K H a vs ∧ RUs K T H vs ds ∧
    ∀ (i : Int) d, atI ds i = some d → ∃ w, atI vs i = some w ∧ Rp K T H0 F H O k.item w d := by
  cases k with
  | q k =>
    cases h with
    | @tup a vs ds h1 h3 => exact ⟨a, vs, rfl, same_sqT R.fh h1, R.Us_of h3, fun i d hd => h3.at hd⟩
  | B =>
    cases h with
    | @tup a vs ds h1 h3 => exact ⟨a, vs, rfl, h1, h3, fun i d hd => h3.at hd⟩
  | bl k => obtain ⟨a, vs, ds, _, e, _⟩ := h; cases e
  | fl k => obtain ⟨a, vs, ds, _, e, _⟩ := h; cases e
  | ol k => obtain ⟨a, vs, ds, _, e, _⟩ := h; cases e
theorem de_ix (ha : DE X T H0 Γ a fa ka) (hb : DE X T H0 Γ b fb kb) (hp : ka.pers = true := by rfl) (hs : PlainIx b := by exact fun _ _ => rfl) : DE X T H0 Γ (.Subscript a b pos) (e2 gIx fa fb) ka.item :=
  PE.wk (pe_ix ix_list ha hb hs) (bin_sem hp fun F O σ H ρ v u x y d Q R rv ru hg hq => by
    unfold gIx at hg
    split at hg
    · obtain ⟨p, vs, rfl, h1, _, h3⟩ := Rp.seq R rv
      obtain ⟨w, h4, h5⟩ := h3 _ _ hg
      exact ⟨p, vs, _, w, rfl, ru.int, SqL.of h1, h4, hq F H w R (.refl _) (.refl _) h5⟩
    · obtain ⟨p, vs, rfl, h1, _, h3⟩ := Rp.scr R rv
      obtain ⟨w, h4, h5⟩ := h3 _ _ hg
      exact ⟨p, vs, _, w, rfl, ru.int, h1, h4, hq F H w R (.refl _) (.refl _) h5⟩
    · cases hg)
theorem de_ixt (ha : DE X T H0 Γ a fa ka) (hb : DE X T H0 Γ b fb kb) (hp : ka.pers = true := by rfl) (hs : PlainIx b := by exact fun _ _ => rfl) : DE X T H0 Γ (.Subscript a b pos) (e2 gIxT fa fb) ka.item :=
  PE.wk (pe_ix ix_tup ha hb hs) (bin_sem hp fun F O σ H ρ v u x y d Q R rv ru hg hq => by
    unfold gIxT at hg
    split at hg
    · obtain ⟨p, vs, rfl, h1, _, h3⟩ := Rp.tup R rv
      obtain ⟨w, h4, h5⟩ := h3 _ _ hg
      exact ⟨p, vs, _, w, rfl, ru.int, h1, h4, hq F H w R (.refl _) (.refl _) h5⟩
    · cases hg)
/-- a call of a built-in of one argument -/
theorem callB_sem {K : PySem.W.Frag} {r : List V → Hp → VK → Prop} {g : D → Option D}
    (hr : ∀ F O σ H ρ v x d Q, Rl K T H0 Γ F O σ H ρ → RU K T H v x → g x = some d → (∀ F' H' w, Rl K T H0 Γ F' O σ H' ρ → Same F F' → Same H H' → Rp K T H0 F' H' O k w d → Q w H') → r [v] H Q) :
    ∀ σ H Q, tD K T H0 Γ (e1 g fa) k σ H Q → tCB r (tDA K T H0 Γ (aCons fa aNil)) σ H Q := by
  rintro σ H Q ⟨F, O, ρ, d, R, hf, hq⟩
  unfold e1 at hf
  cases h1 : fa ρ with
  | none => rw [h1] at hf; cases hf
  | some x =>
    rw [h1] at hf
    simp only [Option.bind_some] at hf
    refine ⟨F, O, ρ, [x], R, by unfold aCons aNil; rw [h1]; rfl, fun F1 H1 vs R1 s1 t1 r1 => ?_⟩
    cases r1 with
    | cons r1 r2 =>
      cases r2
      exact hr F1 O σ H1 ρ _ x d Q R1 r1 hf fun F' H' w R' s' t' rw => hq F' H' w R' (s1.trans s') (t1.trans t') rw
theorem de_len (hg : Gl X "len") (hm : X.mg "len" = none) (ha : DE X T H0 Γ a fa ka) (hs : starEach [a] X.env = (false, eval a X.env) :: starEach [] X.env := by rfl) : DE X T H0 Γ (.Call (.Name "len" po) [a] [] pos) (e1 gLen fa) (.q q) :=
  PE.wk (pe_callB call_len hg hm PySem.boot_len (da_cons ha da_nil hs) (he := hs)) (callB_sem fun F O σ H ρ v x d Q R rv hg hq => by
    unfold gLen at hg
    split at hg
    · cases hg
      cases rv with
      | @lst a vs ds h1 h2 h3 => exact ⟨_, _, rfl, .inl ⟨vs, SqL.of h1, rfl⟩, by rw [h3.length]; exact hq F H _ R (.refl _) (.refl _) (RepG.int _)⟩
    · cases hg
      cases rv with
      | @scr a vs ds h1 h3 => exact ⟨_, _, rfl, .inl ⟨vs, h1.seq, rfl⟩, by rw [h3.length]; exact hq F H _ R (.refl _) (.refl _) (RepG.int _)⟩
    · cases hg
      cases rv with
      | @tup a vs ds h1 h3 => exact ⟨_, _, rfl, .inr ⟨vs, h1, rfl⟩, by rw [h3.length]; exact hq F H _ R (.refl _) (.refl _) (RepG.int _)⟩
    · cases hg)
theorem big6 {n : Nat} (h : n ≤ 1000000) : n ≤ sizeLine := by rw [sizeLine_eq]; omega

/-! ### lists made -/
/-- the kind of a list's items -/
def Knd.its : Knd → Option Q3
  | .q q => some q
  | .B => none
  | .bl q => some q
  | .fl q => some q
  | .ol q => some q
theorem Rp.lst {K : PySem.W.Frag} {F H : Hp} {O : Own} {σ : L2.St} {ρ : List D} {v : V} {ds : List D} (R : Rl K T H0 Γ F O σ H ρ) (h : Rp K T H0 F H O k v (.lst ds)) (hk : k.its = some q) : ∃ a vs, v = .ref a ∧ H a = some (.lst vs) ∧ Rqs K T H0 q F vs ds := by
  cases k with
  | q k =>
    cases hk
    cases h with
    | @lst a vs ds h1 h2 h3 => exact ⟨a, vs, rfl, R.fh _ _ h1, h3⟩
  | B => cases hk
  | bl k =>
    cases hk
    obtain ⟨a, vs, ds, rfl, e, h1, h3⟩ := h
    cases e
    exact ⟨a, vs, rfl, h1, h3⟩
  | fl k =>
    cases hk
    obtain ⟨a, vs, ds, rfl, e, h1, h3⟩ := h
    cases e
    exact ⟨a, vs, rfl, R.fh _ _ h1, h3⟩
  | ol k =>
    cases hk
    obtain ⟨a, vs, ds, rfl, e, h1, _, _, h3⟩ := h
    cases e
    exact ⟨a, vs, rfl, h1, h3⟩
theorem Rp.tupq {K : PySem.W.Frag} {F H : Hp} {O : Own} {σ : L2.St} {ρ : List D} {v : V} {ds : List D} (R : Rl K T H0 Γ F O σ H ρ) (h : Rp K T H0 F H O (.q q) v (.tup ds)) : ∃ a vs, v = .ref a ∧ SqT K F a vs ∧ Rqs K T H0 q F vs ds := by
  cases h with
  | @tup a vs ds h1 h3 => exact ⟨a, vs, rfl, h1, h3⟩
def gCat : D → D → Option D
  | .lst xs, .lst ys => if xs.length + ys.length ≤ 1000000 then some (.lst (xs ++ ys)) else none
  | _, _ => none
theorem new_lst {K : PySem.W.Frag} {F H : Hp} {O : Own} {σ : L2.St} {ρ : List D} {vs : List V} {ds : List D} {Q : VK} (R : Rl K T H0 Γ F O σ H ρ) (rs : Rqs K T H0 q F vs ds)
    (hq : ∀ F' H' w, Rl K T H0 Γ F' O σ H' ρ → Same F F' → Same H H' → Rp K T H0 F' H' O (.ol q) w (.lst ds) → Q w H') (p : Addr) (hp : H p = none) : Q (.ref p) (upd H p (.lst vs)) :=
  hq F _ _ (R.junk hp).1 (.refl _) (R.junk hp).2 ⟨p, vs, ds, rfl, rfl, upd_same, R.fh.free hp, R.notOwn hp, rs⟩
theorem de_cat (ha : DE X T H0 Γ a fa ka) (hb : DE X T H0 Γ b fb kb) (hka : ka.its = some q := by rfl) (hkb : kb.its = some q := by rfl) (hp : ka.pers = true := by rfl) : DE X T H0 Γ (.BinOp a .Add b pos) (e2 gCat fa fb) (.ol q) :=
  PE.wk (pe_op op_cat ha hb) (bin_sem hp fun F O σ H ρ v u x y d Q R rv ru hg hq => by
    unfold gCat at hg
    split at hg
    · split at hg
      · rename_i hl
        cases hg
        obtain ⟨a1, vs, rfl, h1, h2⟩ := Rp.lst R rv hka
        obtain ⟨a2, us, rfl, h3, h4⟩ := Rp.lst R ru hkb
        refine ⟨a1, a2, vs, us, rfl, rfl, h1, h3, by rw [h2.length, h4.length]; exact big6 hl, fun p hp => new_lst R (h2.append h4) hq p hp⟩
      · cases hg
    · cases hg)
/-- list(xs), list(t) -/
def gList : D → Option D
  | .lst ds => some (.lst ds)
  | _ => none
def gListT : D → Option D
  | .tup ds => some (.lst ds)
  | _ => none
theorem callB_semK {K : PySem.W.Frag} {r : List V → Hp → VK → Prop} {g : D → Option D}
    (hr : ∀ F O σ H ρ v x d Q, Rl K T H0 Γ F O σ H ρ → Rp K T H0 F H O ka v x → g x = some d → (∀ F' H' w, Rl K T H0 Γ F' O σ H' ρ → Same F F' → Same H H' → Rp K T H0 F' H' O k w d → Q w H') → r [v] H Q) :
    ∀ σ H Q, tD K T H0 Γ (e1 g fa) k σ H Q → tCB r (tCons (tD K T H0 Γ fa ka) tNil) σ H Q := by
  rintro σ H Q ⟨F, O, ρ, d, R, hf, hq⟩
  unfold e1 at hf
  cases h1 : fa ρ with
  | none => rw [h1] at hf; cases hf
  | some x =>
    rw [h1] at hf
    simp only [Option.bind_some] at hf
    refine ⟨F, O, ρ, x, R, h1, fun F1 H1 v R1 s1 t1 r1 => ?_⟩
    exact hr F1 O σ H1 ρ _ x d Q R1 r1 hf fun F' H' w R' s' t' rw => hq F' H' w R' (s1.trans s') (t1.trans t') rw
theorem de_list (hg : Gl X "list") (hm : X.mg "list" = none) (ha : DE X T H0 Γ a fa ka) (hk : ka.its = some q := by rfl) (hs : starEach [a] X.env = (false, eval a X.env) :: starEach [] X.env := by rfl) : DE X T H0 Γ (.Call (.Name "list" po) [a] [] pos) (e1 gList fa) (.ol q) :=
  PE.wk (pe_callTy call_list_of hg hm (by decide +kernel) (pa_cons ha pa_nil hs) (he := hs)) (callB_semK fun F O σ H ρ v x d Q R rv hg hq => by
    unfold gList at hg
    split at hg
    · cases hg
      obtain ⟨a1, vs, rfl, h1, h2⟩ := Rp.lst R rv hk
      exact ⟨a1, vs, rfl, .inl (SqL.of h1), fun p hp => new_lst R h2 hq p hp⟩
    · cases hg)
theorem de_listT (hg : Gl X "list") (hm : X.mg "list" = none) (ha : DE X T H0 Γ a fa (.q q)) (hs : starEach [a] X.env = (false, eval a X.env) :: starEach [] X.env := by rfl) : DE X T H0 Γ (.Call (.Name "list" po) [a] [] pos) (e1 gListT fa) (.ol q) :=
  PE.wk (pe_callTy call_list_of hg hm (by decide +kernel) (pa_cons ha pa_nil hs) (he := hs)) (callB_semK fun F O σ H ρ v x d Q R rv hg hq => by
    unfold gListT at hg
    split at hg
    · cases hg
      obtain ⟨a1, vs, rfl, h1, h2⟩ := Rp.tupq R rv
      exact ⟨a1, vs, rfl, .inr (same_sqT R.fh h1), fun p hp => new_lst R h2 hq p hp⟩
    · cases hg)
/-- tuple(xs) of a list -/
def gTuple : D → Option D
  | .lst ds => some (.tup ds)
  | _ => none
theorem de_tuple (hg : Gl X "tuple") (hm : X.mg "tuple" = none) (ha : DE X T H0 Γ a fa ka) (hk : ka.its = some q := by rfl) (hs : starEach [a] X.env = (false, eval a X.env) :: starEach [] X.env := by rfl) : DE X T H0 Γ (.Call (.Name "tuple" po) [a] [] pos) (e1 gTuple fa) (.q q) :=
  PE.wk (pe_callTy call_tuple_of hg hm (by decide +kernel) (pa_cons ha pa_nil hs) (he := hs)) (callB_semK fun F O σ H ρ v x d Q R rv hg hq => by
    unfold gTuple at hg
    split at hg
    · cases hg
      obtain ⟨a1, vs, rfl, h1, h2⟩ := Rp.lst R rv hk
      refine ⟨a1, vs, rfl, .inl ⟨SqL.of h1, fun p hp => ?_⟩⟩
      obtain ⟨R2, s2, t2⟩ := R.laid (o := .tup vs) hp
      exact hq _ _ _ R2 s2 t2 (RepG.tup (SqT.of upd_same) (s2.rqs h2))
    · cases hg)
/-- slices -/
def cutD (xs : List D) (lo hi : Option Int) : List D := (xs.drop (HT.sIx xs.length 0 lo)).take (HT.sIx xs.length xs.length hi - HT.sIx xs.length 0 lo)
def oNo : List D → Option (Option Int) := fun _ => some none
def oYes (f : EF) : List D → Option (Option Int) := fun ρ => (f ρ).bind fun d => match d with
  | .int i => some (some i)
  | _ => none
def tDO (K : PySem.W.Frag) (T : Tb) (H0 : Hp) (Γ : List Mode) (fo : List D → Option (Option Int)) : TO := fun σ H Q =>
  ∃ F O ρ o, Rl K T H0 Γ F O σ H ρ ∧ fo ρ = some o ∧ ∀ F' H', Rl K T H0 Γ F' O σ H' ρ → Same F F' → Same H H' → Q o H'
abbrev DO (X : Cx) (T : Tb) (H0 : Hp) (Γ : List Mode) (e : Option Expr) (fo : List D → Option (Option Int)) : Prop := PO X e (tDO X.K T H0 Γ fo)
theorem do_no : DO X T H0 Γ none oNo := ⟨fun pins s σ H Q I ⟨F, O, ρ, o, R, hf, hq⟩ => by
  cases hf
  exact (po_none (X := X)).run pins s σ H Q I (hq F H R (.refl _) (.refl _))⟩
theorem do_yes (h : DE X T H0 Γ e fe k) : DO X T H0 Γ (some e) (oYes fe) := ⟨fun pins s σ H Q I ⟨F, O, ρ, o, R, hf, hq⟩ => by
  refine (po_some h).run pins s σ H Q I ?_
  unfold oYes at hf
  cases h1 : fe ρ with
  | none => rw [h1] at hf; cases hf
  | some d =>
    rw [h1] at hf
    simp only [Option.bind_some] at hf
    split at hf
    · cases hf
      exact ⟨F, O, ρ, _, R, h1, fun F1 H1 v R1 s1 t1 r1 => ⟨_, Rp.int r1, hq F1 H1 R1 s1 t1⟩⟩
    · cases hf⟩
variable {lo hi : Option Expr} {fl fh : List D → Option (Option Int)} {p2 : Pos}
def eSl (g : D → Option Int → Option Int → Option D) (f : EF) (fl fh : List D → Option (Option Int)) : EF := fun ρ => (f ρ).bind fun x => (fl ρ).bind fun l => (fh ρ).bind fun h => g x l h
def gSlL (x : D) (l h : Option Int) : Option D := match x with
  | .lst ds => some (.lst (cutD ds l h))
  | _ => none
def gSlT (x : D) (l h : Option Int) : Option D := match x with
  | .tup ds => some (.tup (cutD ds l h))
  | _ => none
theorem RepsG.cutV {K : PySem.W.Frag} {N : Addr → Prop} {F : Hp} {vs : List V} {ds : List D} (r : RepsG K T N F vs ds) (l h : Option Int) : RepsG K T N F (L2.cutV vs l h) (cutD ds l h) := by
  unfold L2.cutV cutD
  rw [r.length]
  exact (r.drop _).take _
theorem sl_sem {K : PySem.W.Frag} {r : V → Option Int → Option Int → Hp → VK → Prop} {g : D → Option Int → Option Int → Option D} (hp : ka.pers = true)
    (hr : ∀ F O σ H ρ v x l h d Q, Rl K T H0 Γ F O σ H ρ → Rp K T H0 F H O ka v x → g x l h = some d → (∀ F' H' w, Rl K T H0 Γ F' O σ H' ρ → Same F F' → Same H H' → Rp K T H0 F' H' O k w d → Q w H') → r v l h H Q) :
    ∀ σ H Q, tD K T H0 Γ (eSl g fa fl fh) k σ H Q → tSl r (tD K T H0 Γ fa ka) (tDO K T H0 Γ fl) (tDO K T H0 Γ fh) σ H Q := by
  rintro σ H Q ⟨F, O, ρ, d, R, hf, hq⟩
  unfold eSl at hf
  cases h1 : fa ρ with
  | none => rw [h1] at hf; cases hf
  | some x =>
    rw [h1] at hf
    simp only [Option.bind_some] at hf
    cases h2 : fl ρ with
    | none => rw [h2] at hf; cases hf
    | some l =>
      rw [h2] at hf
      simp only [Option.bind_some] at hf
      cases h3 : fh ρ with
      | none => rw [h3] at hf; cases hf
      | some h =>
        rw [h3] at hf
        simp only [Option.bind_some] at hf
        refine ⟨F, O, ρ, x, R, h1, fun F1 H1 v R1 s1 t1 r1 => ⟨F1, O, ρ, l, R1, h2, fun F2 H2 R2 s2 t2 => ⟨F2, O, ρ, h, R2, h3, fun F3 H3 R3 s3 t3 => ?_⟩⟩⟩
        exact hr F3 O σ H3 ρ v x l h d Q R3 (r1.pers hp (s2.trans s3) (t2.trans t3)) hf fun F' H' w R' s' t' rw => hq F' H' w R' (((s1.trans s2).trans s3).trans s') (((t1.trans t2).trans t3).trans t') rw
theorem de_slL (ha : DE X T H0 Γ a fa ka) (hl : DO X T H0 Γ lo fl) (hh : DO X T H0 Γ hi fh) (hk : ka.its = some q := by rfl) (hp : ka.pers = true := by rfl) : DE X T H0 Γ (.Subscript a (.Slice lo hi none p2) pos) (eSl gSlL fa fl fh) (.ol q) :=
  PE.wk (pe_slice sl_list ha hl hh) (sl_sem hp fun F O σ H ρ v x l h d Q R rv hg hq => by
    unfold gSlL at hg
    split at hg
    · cases hg
      obtain ⟨a1, vs, rfl, h1, h2⟩ := Rp.lst R rv hk
      exact ⟨a1, vs, rfl, SqL.of h1, fun p hp => new_lst R (h2.cutV l h) hq p hp⟩
    · cases hg)
theorem cut_all {xs : List D} {l h : Option Int} (w : HT.sIx xs.length 0 l = 0 ∧ HT.sIx xs.length xs.length h = xs.length) : cutD xs l h = xs := by
  unfold cutD
  rw [w.1, w.2]
  simp
theorem de_slT (ha : DE X T H0 Γ a fa (.q q)) (hl : DO X T H0 Γ lo fl) (hh : DO X T H0 Γ hi fh) : DE X T H0 Γ (.Subscript a (.Slice lo hi none p2) pos) (eSl gSlT fa fl fh) (.q q) :=
  PE.wk (pe_slice sl_tupA ha hl hh) (sl_sem rfl fun F O σ H ρ v x l h d Q R rv hg hq => by
    unfold gSlT at hg
    split at hg
    · cases hg
      obtain ⟨a1, vs, rfl, h1, h2⟩ := Rp.tupq R rv
      refine ⟨a1, vs, rfl, same_sqT R.fh h1, fun hw => ?_, fun hw p hp => ?_⟩
      · rw [h2.length] at hw
        exact hq F H _ R (.refl _) (.refl _) (by rw [cut_all hw]; exact rv)
      · obtain ⟨R2, s2, t2⟩ := R.laid (o := .tup (L2.cutV vs l h)) hp
        exact hq _ _ _ R2 s2 t2 (RepG.tup (SqT.of upd_same) (s2.rqs (h2.cutV l h)))
    · cases hg)
/-- t + u -/
def gCatT : D → D → Option D
  | .tup xs, .tup ys => if xs.length + ys.length ≤ 1000000 then some (.tup (xs ++ ys)) else none
  | _, _ => none
theorem RepsG.nil_iff {K : PySem.W.Frag} {N : Addr → Prop} {F : Hp} {vs : List V} {ds : List D} (r : RepsG K T N F vs ds) : vs = [] ↔ ds = [] := by cases r <;> simp
theorem de_catT (ha : DE X T H0 Γ a fa (.q q)) (hb : DE X T H0 Γ b fb (.q q)) : DE X T H0 Γ (.BinOp a .Add b pos) (e2 gCatT fa fb) (.q q) :=
  PE.wk (pe_op op_catA ha hb) (bin_sem rfl fun F O σ H ρ v u x y d Q R rv ru hg hq => by
    unfold gCatT at hg
    split at hg
    · split at hg
      · rename_i hl
        cases hg
        obtain ⟨a1, vs, rfl, h1, h2⟩ := Rp.tupq R rv
        obtain ⟨a2, us, rfl, h3, h4⟩ := Rp.tupq R ru
        refine ⟨a1, a2, vs, us, rfl, rfl, same_sqT R.fh h1, same_sqT R.fh h3, by rw [h2.length, h4.length]; exact big6 hl, fun e => ?_, fun _ e => ?_, fun _ _ p hp => ?_⟩
        · have := h2.nil_iff.mp e
          subst this
          exact hq F H _ R (.refl _) (.refl _) (by simpa using ru)
        · have := h4.nil_iff.mp e
          subst this
          exact hq F H _ R (.refl _) (.refl _) (by simpa using rv)
        · obtain ⟨R2, s2, t2⟩ := R.laid (o := .tup (vs ++ us)) hp
          exact hq _ _ _ R2 s2 t2 (RepG.tup (SqT.of upd_same) (s2.rqs (h2.append h4)))
      · cases hg
    · cases hg)
end

/-! ### == of data of any depth -/
def conv : Nat → D → PyData
  | _, .non => .none
  | _, .bl b => .bool b
  | _, .int i => .int i
  | _, .str s => .str s
  | n + 1, .lst ds => .list (ds.map (conv n))
  | n + 1, .scr ds => .list (ds.map (conv n))
  | n + 1, .tup ds => .tuple (ds.map (conv n))
  | _, _ => .none
def dok : Nat → D → Bool
  | _, .non => true
  | _, .bl _ => true
  | _, .int _ => true
  | _, .str s => PyData.canLay0 (.str s)
  | n + 1, .lst ds => ds.all (dok n)
  | n + 1, .scr ds => ds.all (dok n)
  | n + 1, .tup ds => ds.all (dok n)
  | _, _ => false
theorem depthAll_le {n : Nat} : ∀ {ds : List PyData}, (∀ d ∈ ds, d.depth ≤ n) → PyData.depthAll ds ≤ n
  | [], _ => by simp [PyData.depthAll]
  | d :: ds, h => by
    simp only [PyData.depthAll]
    have h1 := h d List.mem_cons_self
    have h2 := depthAll_le (ds := ds) fun x hx => h x (List.mem_cons_of_mem _ hx)
    omega
theorem layAll_of : ∀ {ds : List PyData}, (∀ d ∈ ds, d.canLay0 = true) → PyData.canLayAll0 ds = true
  | [], _ => by simp [PyData.canLayAll0]
  | d :: ds, h => by
    simp only [PyData.canLayAll0, Bool.and_eq_true]
    exact ⟨h d List.mem_cons_self, layAll_of (ds := ds) fun x hx => h x (List.mem_cons_of_mem _ hx)⟩
theorem conv_ok : ∀ (n : Nat) (d : D), dok n d = true → (conv n d).canLay0 = true ∧ (conv n d).depth ≤ n := by
  intro n
  induction n with
  | zero =>
    intro d h
    cases d <;> first | (simp [dok] at h; done) | (refine ⟨?_, ?_⟩ <;> simp [conv, PyData.canLay0, PyData.depth] <;> (try simpa [dok, PyData.canLay0] using h))
  | succ n ih =>
    intro d h
    have key : ∀ ds : List D, ds.all (dok n) = true → PyData.canLayAll0 (ds.map (conv n)) = true ∧ PyData.depthAll (ds.map (conv n)) ≤ n := fun ds h => by
      refine ⟨layAll_of fun x hx => ?_, depthAll_le fun x hx => ?_⟩ <;> obtain ⟨y, hy, rfl⟩ := List.mem_map.mp hx
      · exact (ih y (List.all_eq_true.mp h y hy)).1
      · exact (ih y (List.all_eq_true.mp h y hy)).2
    cases d with
    | lst ds => obtain ⟨h1, h2⟩ := key ds (by simpa [dok] using h); simp only [conv, PyData.canLay0, PyData.depth]; exact ⟨h1, by omega⟩
    | scr ds => obtain ⟨h1, h2⟩ := key ds (by simpa [dok] using h); simp only [conv, PyData.canLay0, PyData.depth]; exact ⟨h1, by omega⟩
    | tup ds => obtain ⟨h1, h2⟩ := key ds (by simpa [dok] using h); simp only [conv, PyData.canLay0, PyData.depth]; exact ⟨h1, by omega⟩
    | str s => simp only [conv, PyData.depth]; exact ⟨by simpa [dok] using h, by omega⟩
    | non => simp [conv, PyData.canLay0, PyData.depth]
    | bl b => simp [conv, PyData.canLay0, PyData.depth]
    | int i => simp [conv, PyData.canLay0, PyData.depth]
    | ins _ _ => simp [dok] at h
    | dic _ _ => simp [dok] at h
    | dit _ _ => simp [dok] at h
theorem shaped_of {n : Nat} {d : D} (h : dok n d = true) (hn : n ≤ 64) : SeqAt.shaped (conv n d) = true := by
  obtain ⟨h1, h2⟩ := conv_ok n d h
  unfold SeqAt.shaped
  rw [h1, Bool.true_and]
  exact decide_eq_true (by omega)
theorem dp_all {K : PySem.W.Frag} {T : Tb} {N : Addr → Prop} {H : Hp} {n : Nat} (ih : ∀ (d : D) (v : V), dok n d = true → RepG K T N H v d → Dp K H v (conv n d)) : ∀ {vs : List V} {ds : List D}, ds.all (dok n) = true → RepsG K T N H vs ds → DpAll K H vs (ds.map (conv n))
  | _, _, _, .nil => .nil
  | _, _, h, .cons r rs => by
    rw [List.all_cons, Bool.and_eq_true] at h
    exact .cons (ih _ _ h.1 r) (dp_all ih h.2 rs)
theorem dp_of {K : PySem.W.Frag} {T : Tb} {N : Addr → Prop} {H : Hp} : ∀ (n : Nat) (d : D) (v : V), dok n d = true → RepG K T N H v d → Dp K H v (conv n d) := by
  intro n
  induction n with
  | zero =>
    intro d v h r
    cases r <;> first | (simp [dok] at h; done) | (simp only [conv]; constructor)
  | succ n ih =>
    intro d v h r
    cases r with
    | non => simp only [conv]; constructor
    | bl b => simp only [conv]; constructor
    | int b => simp only [conv]; constructor
    | str b => simp only [conv]; constructor
    | tup h1 rs => simp only [conv]; exact .tup h1 (dp_all ih (by simpa [dok] using h) rs)
    | lst h1 _ rs => simp only [conv]; exact .lst (.inl (.inl h1)) (dp_all ih (by simpa [dok] using h) rs)
    | scr h1 rs => simp only [conv]; exact .lst h1.seq (dp_all ih (by simpa [dok] using h) rs)
    | ins _ _ _ _ => simp [dok] at h
    | dic _ _ _ => simp [dok] at h
    | dit _ _ _ => simp [dok] at h
def gEqD (x y : D) : Option D := if dok 6 x = true ∧ dok 6 y = true then some (.bl (PyData.eqv (conv 6 x) (conv 6 y))) else none
def gNeD (x y : D) : Option D := if dok 6 x = true ∧ dok 6 y = true then some (.bl (!PyData.eqv (conv 6 x) (conv 6 y))) else none
def gInD (x y : D) : Option D := match y with
  | .lst ds => if dok 6 x = true ∧ ds.all (dok 6) = true then some (.bl (ds.any fun z => PyData.eqv (conv 6 z) (conv 6 x))) else none
  | _ => none
def gNotInD (x y : D) : Option D := match y with
  | .lst ds => if dok 6 x = true ∧ ds.all (dok 6) = true then some (.bl (!ds.any fun z => PyData.eqv (conv 6 z) (conv 6 x))) else none
  | _ => none
section
variable {X : Cx} {T : Tb} {H0 : Hp} {Γ Γ1 Γn Γm : List Mode} {J : Jm} {e a b tg iter : Expr} {es : List Expr} {st : Stmt} {sts : List Stmt} {f g : SF} {fe fa fb : EF} {k ka kb : Knd} {pos po : Pos} {q p : Q3} {fi : List D → Option (List D)} {c : Bool} {fs : List D → Option (List D)}
theorem cs_eqD {K : PySem.W.Frag} (hp : ka.pers = true) : ∀ σ H Q, tD K T H0 Γ (e2 gEqD fa fb) (.q q) σ H Q → tOp (rEqD K) (tD K T H0 Γ fa ka) (tD K T H0 Γ fb kb) σ H Q := bin_sem hp fun F O σ H ρ v u x y d Q R rv ru hg hq => by
  unfold gEqD at hg
  split at hg
  · rename_i h
    cases hg
    exact ⟨_, _, dp_of 6 x v h.1 (R.toB rv), dp_of 6 y u h.2 (R.toB ru), shaped_of h.1 (by omega), shaped_of h.2 (by omega), hq F H _ R (.refl _) (.refl _) (RepG.bl _)⟩
  · cases hg
theorem cs_neD {K : PySem.W.Frag} (hp : ka.pers = true) : ∀ σ H Q, tD K T H0 Γ (e2 gNeD fa fb) (.q q) σ H Q → tOp (rNeD K) (tD K T H0 Γ fa ka) (tD K T H0 Γ fb kb) σ H Q := bin_sem hp fun F O σ H ρ v u x y d Q R rv ru hg hq => by
  unfold gNeD at hg
  split at hg
  · rename_i h
    cases hg
    exact ⟨_, _, dp_of 6 x v h.1 (R.toB rv), dp_of 6 y u h.2 (R.toB ru), shaped_of h.1 (by omega), shaped_of h.2 (by omega), hq F H _ R (.refl _) (.refl _) (RepG.bl _)⟩
  · cases hg
theorem conv_lst {n : Nat} {ds : List D} : conv (n + 1) (.lst ds) = .list (ds.map (conv n)) := rfl
theorem any_conv {n : Nat} {x : PyData} {ds : List D} : (ds.map (conv n)).any (fun z => PyData.eqv z x) = ds.any fun z => PyData.eqv (conv n z) x := by
  rw [List.any_map]; rfl
theorem cs_inD {K : PySem.W.Frag} (hp : ka.pers = true) : ∀ σ H Q, tD K T H0 Γ (e2 gInD fa fb) (.q q) σ H Q → tOp (rInD K) (tD K T H0 Γ fa ka) (tD K T H0 Γ fb kb) σ H Q := bin_sem hp fun F O σ H ρ v u x y d Q R rv ru hg hq => by
  unfold gInD at hg
  split at hg
  · rename_i ds
    split at hg
    · rename_i h
      cases hg
      have h2 : dok 7 (.lst ds) = true := by simpa [dok] using h.2
      refine ⟨_, _, dp_of 6 x v h.1 (R.toB rv), dp_of 7 _ u h2 (R.toB ru), shaped_of h.1 (by omega), shaped_of (n := 7) h2 (by omega), ?_⟩
      rw [any_conv]
      exact hq F H _ R (.refl _) (.refl _) (RepG.bl _)
    · cases hg
  · cases hg
theorem cs_notInD {K : PySem.W.Frag} (hp : ka.pers = true) : ∀ σ H Q, tD K T H0 Γ (e2 gNotInD fa fb) (.q q) σ H Q → tOp (rNotInD K) (tD K T H0 Γ fa ka) (tD K T H0 Γ fb kb) σ H Q := bin_sem hp fun F O σ H ρ v u x y d Q R rv ru hg hq => by
  unfold gNotInD at hg
  split at hg
  · rename_i ds
    split at hg
    · rename_i h
      cases hg
      have h2 : dok 7 (.lst ds) = true := by simpa [dok] using h.2
      refine ⟨_, _, dp_of 6 x v h.1 (R.toB rv), dp_of 7 _ u h2 (R.toB ru), shaped_of h.1 (by omega), shaped_of (n := 7) h2 (by omega), ?_⟩
      rw [any_conv]
      exact hq F H _ R (.refl _) (.refl _) (RepG.bl _)
    · cases hg
  · cases hg
/-- ints of a list, bools of a list -/
def intsOf : List D → Option (List Int)
  | [] => some []
  | .int i :: r => (intsOf r).map (i :: ·)
  | _ => none
def blsOf : List D → Option (List Bool)
  | [] => some []
  | .bl i :: r => (blsOf r).map (i :: ·)
  | _ => none
theorem intsOf_map : ∀ ns : List Int, intsOf (ns.map D.int) = some ns
  | [] => rfl
  | n :: ns => by rw [List.map_cons]; unfold intsOf; rw [intsOf_map ns]; rfl
theorem blsOf_map : ∀ ns : List Bool, blsOf (ns.map D.bl) = some ns
  | [] => rfl
  | n :: ns => by rw [List.map_cons]; unfold blsOf; rw [blsOf_map ns]; rfl
theorem intsOf_eq : ∀ {ds : List D} {ns : List Int}, intsOf ds = some ns → ds = ns.map D.int
  | [], _, h => by cases h; rfl
  | .int i :: r, ns, h => by
    unfold intsOf at h
    cases h1 : intsOf r with
    | none => rw [h1] at h; cases h
    | some ms => rw [h1] at h; cases h; rw [intsOf_eq h1]; rfl
  | .non :: _, _, h => nomatch h
  | .bl _ :: _, _, h => nomatch h
  | .str _ :: _, _, h => nomatch h
  | .tup _ :: _, _, h => nomatch h
  | .lst _ :: _, _, h => nomatch h
  | .scr _ :: _, _, h => nomatch h
  | .ins _ _ :: _, _, h => nomatch h
  | .dic _ _ :: _, _, h => nomatch h
  | .dit _ _ :: _, _, h => nomatch h
theorem blsOf_eq : ∀ {ds : List D} {ns : List Bool}, blsOf ds = some ns → ds = ns.map D.bl
  | [], _, h => by cases h; rfl
  | .bl i :: r, ns, h => by
    unfold blsOf at h
    cases h1 : blsOf r with
    | none => rw [h1] at h; cases h
    | some ms => rw [h1] at h; cases h; rw [blsOf_eq h1]; rfl
  | .non :: _, _, h => nomatch h
  | .int _ :: _, _, h => nomatch h
  | .str _ :: _, _, h => nomatch h
  | .tup _ :: _, _, h => nomatch h
  | .lst _ :: _, _, h => nomatch h
  | .scr _ :: _, _, h => nomatch h
  | .ins _ _ :: _, _, h => nomatch h
  | .dic _ _ :: _, _, h => nomatch h
  | .dit _ _ :: _, _, h => nomatch h
theorem RepsG.ints {K : PySem.W.Frag} {N : Addr → Prop} {F : Hp} : ∀ {vs : List V} {ns : List Int}, RepsG K T N F vs (ns.map D.int) → vs = ns.map V.int
  | _, [], .nil => rfl
  | _, n :: ns, .cons r rs => by
    cases r
    rw [RepsG.ints rs]; rfl
theorem RepsG.bls {K : PySem.W.Frag} {N : Addr → Prop} {F : Hp} : ∀ {vs : List V} {ns : List Bool}, RepsG K T N F vs (ns.map D.bl) → vs = ns.map V.bl
  | _, [], .nil => rfl
  | _, n :: ns, .cons r rs => by
    cases r
    rw [RepsG.bls rs]; rfl
def gSum : D → Option D
  | .lst ds => (intsOf ds).map fun ns => .int ns.sum
  | _ => none
def gAll : D → Option D
  | .lst ds => (blsOf ds).map fun bs => .bl (bs.all id)
  | _ => none
def gAny : D → Option D
  | .lst ds => (blsOf ds).map fun bs => .bl (bs.any id)
  | _ => none
theorem de_sum (hc : X.calm = true) (hg : Gl X "sum") (hm : X.mg "sum" = none) (ha : DE X T H0 Γ a fa ka) (hs : starEach [a] X.env = (false, eval a X.env) :: starEach [] X.env := by rfl) : DE X T H0 Γ (.Call (.Name "sum" po) [a] [] pos) (e1 gSum fa) (.q q) :=
  PE.wk (pe_callB (cr_sum hc) hg hm (by decide +kernel) (da_cons ha da_nil hs) (he := hs)) (callB_sem fun F O σ H ρ v x d Q R rv hg hq => by
    unfold gSum at hg
    split at hg
    · rename_i ds
      cases h1 : intsOf ds with
      | none => rw [h1] at hg; cases hg
      | some ns =>
        rw [h1] at hg
        cases hg
        have := intsOf_eq h1
        subst this
        cases rv with
        | @lst a vs ds h1 h2 h3 =>
          rw [h3.ints] at h1
          exact ⟨a, ns, rfl, SqL.of h1, hq F H _ R (.refl _) (.refl _) (RepG.int _)⟩
    · cases hg)
theorem de_all (hc : X.calm = true) (hg : Gl X "all") (hm : X.mg "all" = none) (ha : DE X T H0 Γ a fa ka) (hs : starEach [a] X.env = (false, eval a X.env) :: starEach [] X.env := by rfl) : DE X T H0 Γ (.Call (.Name "all" po) [a] [] pos) (e1 gAll fa) (.q q) :=
  PE.wk (pe_callB (cr_all hc) hg hm (by decide +kernel) (da_cons ha da_nil hs) (he := hs)) (callB_sem fun F O σ H ρ v x d Q R rv hg hq => by
    unfold gAll at hg
    split at hg
    · rename_i ds
      cases h1 : blsOf ds with
      | none => rw [h1] at hg; cases hg
      | some ns =>
        rw [h1] at hg
        cases hg
        have := blsOf_eq h1
        subst this
        cases rv with
        | @lst a vs ds h1 h2 h3 =>
          rw [h3.bls] at h1
          exact ⟨a, ns, rfl, SqL.of h1, hq F H _ R (.refl _) (.refl _) (RepG.bl _)⟩
    · cases hg)
theorem de_any (hc : X.calm = true) (hg : Gl X "any") (hm : X.mg "any" = none) (ha : DE X T H0 Γ a fa ka) (hs : starEach [a] X.env = (false, eval a X.env) :: starEach [] X.env := by rfl) : DE X T H0 Γ (.Call (.Name "any" po) [a] [] pos) (e1 gAny fa) (.q q) :=
  PE.wk (pe_callB (cr_any hc) hg hm (by decide +kernel) (da_cons ha da_nil hs) (he := hs)) (callB_sem fun F O σ H ρ v x d Q R rv hg hq => by
    unfold gAny at hg
    split at hg
    · rename_i ds
      cases h1 : blsOf ds with
      | none => rw [h1] at hg; cases hg
      | some ns =>
        rw [h1] at hg
        cases hg
        have := blsOf_eq h1
        subst this
        cases rv with
        | @lst a vs ds h1 h2 h3 =>
          rw [h3.bls] at h1
          exact ⟨a, ns, rfl, SqL.of h1, hq F H _ R (.refl _) (.refl _) (RepG.bl _)⟩
    · cases hg)
/-- x in (a, b, ..) of ints -/
def gInT (x y : D) : Option D := match x, y with
  | .int i, .tup ds => (intsOf ds).map fun ns => .bl (ns.any fun j => decide (j = i))
  | _, _ => none
theorem cs_inT {K : PySem.W.Frag} (hp : ka.pers = true) : ∀ σ H Q, tD K T H0 Γ (e2 gInT fa fb) (.q q) σ H Q → tOp (rIn K false) (tD K T H0 Γ fa ka) (tD K T H0 Γ fb kb) σ H Q := bin_sem hp fun F O σ H ρ v u x y d Q R rv ru hg hq => by
  unfold gInT at hg
  split at hg
  · rename_i i ds
    cases h1 : intsOf ds with
    | none => rw [h1] at hg; cases hg
    | some ns =>
      rw [h1] at hg
      cases hg
      have := intsOf_eq h1
      subst this
      obtain ⟨p, vs, rfl, h2, h3, _⟩ := Rp.tup R ru
      have e := h3.ints
      subst e
      rw [rv.int]
      refine ⟨p, _, rfl, .inr h2, rfl, ?_, ?_⟩
      · rw [List.all_map]; exact List.all_eq_true.mpr fun _ _ => rfl
      · have : inV (V.int i) (ns.map V.int) = ns.any fun j => decide (j = i) := by
          unfold inV
          rw [List.any_map]
          congr 1
        rw [if_neg Bool.false_ne_true, this]
        exact hq F H _ R (.refl _) (.refl _) (RepG.bl _)
  · cases hg
/-- isinstance(x, a built-in type) -/
def tyOf : D → Option String
  | .non => some "NoneType"
  | .bl _ => some "bool"
  | .int _ => some "int"
  | .str _ => some "str"
  | .lst _ => some "list"
  | .scr _ => some "list"
  | .dic _ _ => some "dict"
  | .dit _ _ => some "dict"
  | _ => none
def gIsi (ty : String) (d : D) : Option D := (if (match d with | .tup _ => true | _ => false) then some "tuple" else tyOf d).bind fun t => (kitB t ty).map .bl
theorem de_isi {tn : String} (hg : Gl X "isinstance") (hm : X.mg "isinstance" = none) (ha : DE X T H0 Γ a fa ka) (hb : PE X b (tC (.ty tn)))
    (hs : starEach [a, b] X.env = (false, eval a X.env) :: starEach [b] X.env := by rfl) (hs2 : starEach [b] X.env = (false, eval b X.env) :: starEach [] X.env := by rfl) (hpl : (backTo pos (starEach [b] X.env)).any (·.1) = false := by rfl) : DE X T H0 Γ (.Call (.Name "isinstance" po) [a, b] [] pos) (e1 (gIsi tn) fa) (.q q) :=
  PE.wk (pe_callB call_isi hg hm (by decide +kernel) (pa_cons ha (pa_cons hb pa_nil hs2) hs) (he := hs) (hpl := hpl)) (by
    rintro σ H Q ⟨F, O, ρ, d, R, hf, hq⟩
    unfold e1 at hf
    cases h1 : fa ρ with
    | none => rw [h1] at hf; cases hf
    | some x =>
      rw [h1] at hf
      simp only [Option.bind_some] at hf
      refine ⟨F, O, ρ, x, R, h1, fun F1 H1 v R1 s1 t1 r1 => ?_⟩
      have rv := R1.toB r1
      have fin : ∀ {t : String} {d : D}, TyX X.K H1 v (.type t) → (kitB t tn).map D.bl = some d → d = d → (∀ w, Rp X.K T H0 F1 H1 O (.q q) w d → Q w H1) → rIsi X.K [v, .ty tn] H1 Q := fun {t d} ht hk _ hq => by
        cases h2 : kitB t tn with
        | none => rw [h2] at hk; cases hk
        | some b =>
          rw [h2] at hk
          cases hk
          exact ⟨v, .ty tn, .type t, .type tn, b, rfl, .ty tn, ht, kit_ty h2, hq _ (RepG.bl b)⟩
      have hq1 : ∀ w, Rp X.K T H0 F1 H1 O (.q q) w d → Q w H1 := fun w hw => hq F1 H1 w R1 s1 t1 hw
      unfold gIsi at hf
      cases rv with
      | non => exact fin (.base .non) (by simpa [tyOf] using hf) rfl hq1
      | bl b => exact fin (.base (.bl b)) (by simpa [tyOf] using hf) rfl hq1
      | int b => exact fin (.base (.int b)) (by simpa [tyOf] using hf) rfl hq1
      | str b => exact fin (.base (.str b)) (by simpa [tyOf] using hf) rfl hq1
      | lst h2 _ _ => exact fin (.base (.lst h2)) (by simpa [tyOf] using hf) rfl hq1
      | scr h2 _ =>
        rcases h2 with ⟨o, h2⟩ | ⟨o, its, n, h2, h3, _⟩
        · exact fin (.base (.frz h2)) (by simpa [tyOf] using hf) rfl hq1
        · exact fin (.kList h2 h3) (by simpa [tyOf] using hf) rfl hq1
      | tup h2 _ =>
        rcases h2 with (h2 | ⟨o, h2⟩) | ⟨o, its, n, h2, h3, _⟩
        · exact fin (.base (.tup h2)) (by simpa using hf) rfl hq1
        · exact fin (.fTuple h2) (by simpa using hf) rfl hq1
        · exact fin (.kTuple h2 h3) (by simpa using hf) rfl hq1
      | ins _ _ _ _ => simp [tyOf] at hf
      | dic h2 _ _ => exact fin (.base (.dK h2)) (by simpa [tyOf] using hf) rfl hq1
      | dit h2 _ _ => exact fin (.base (.dT h2)) (by simpa [tyOf] using hf) rfl hq1)
end
end DL

namespace DL
open PySem PySem.Spec PyProof.Rows L2

/-! ### own lists that change -/
def sApp (i : Nat) (f : EF) : SF := fun ρ => match ρ[i]? with
  | some (.lst ds) => (f ρ).bind fun d => if ds.length < 1000000 then some (.nx (ρ.set i (.lst (ds ++ [d])))) else none
  | _ => none
def sExt (i : Nat) (f : EF) : SF := fun ρ => match ρ[i]? with
  | some (.lst ds) => (f ρ).bind fun d => match d with
    | .lst es => if ds.length + es.length ≤ 1000000 then some (.nx (ρ.set i (.lst (ds ++ es)))) else none
    | _ => none
  | _ => none
def sRev (i : Nat) : SF := fun ρ => match ρ[i]? with
  | some (.lst ds) => some (.nx (ρ.set i (.lst ds.reverse)))
  | _ => none
def sClr (i : Nat) : SF := fun ρ => match ρ[i]? with
  | some (.lst _) => some (.nx (ρ.set i (.lst [])))
  | _ => none
def sPut (i : Nat) (fi fe : EF) : SF := fun ρ => (fe ρ).bind fun d => match ρ[i]? with
  | some (.lst ds) => (fi ρ).bind fun n => match n with
    | .int n => (ixN ds.length n).bind fun j => some (.nx (ρ.set i (.lst (ds.set j d))))
    | _ => none
  | _ => none
section
variable {X : Cx} {T : Tb} {H0 : Hp} {Γ Γ1 Γn Γm : List Mode} {J : Jm} {e a b tg iter : Expr} {es : List Expr} {st : Stmt} {sts : List Stmt} {f g : SF} {fe fa fb : EF} {k ka kb : Knd} {pos po : Pos} {q p : Q3} {fi : List D → Option (List D)} {c : Bool} {fs : List D → Option (List D)}
theorem lt_line {n : Nat} (h : n < 1000000) : n < sizeLine := by rw [sizeLine_eq]; omega
theorem ds_append (i : Nat) (hm : Γ[i]? = some (.ow q)) (h : PE X e (tBM X.K "list" rAppend (tVar i) (tCons (tD X.K T H0 Γ fe (.q q)) tNil))) (hs : swapsWith e none pos.line X.env = pure false := by rfl) : DS X T H0 Γ (.Expr e pos) (sApp i fe) Γ J :=
  PS.wk (ps_expr h hs) fun E σ H ⟨F, O, ρ, out, R, hf, hq⟩ => by
    obtain ⟨a, vs, ds, h1, h2, h3, h4, h5⟩ := R.sl i _ hm
    unfold sApp at hf
    rw [h2] at hf
    simp only at hf
    cases h6 : fe ρ with
    | none => rw [h6] at hf; cases hf
    | some d =>
      rw [h6] at hf
      simp only [Option.bind_some] at hf
      split at hf
      · rename_i hl
        cases hf
        refine ⟨.ref a, h1, .inl ⟨rfl, vs, SqL.of h3⟩, F, O, ρ, d, R, h6, fun F1 H1 v R1 s1 t1 r1 => ?_⟩
        have h7 := t1 _ _ h3
        refine ⟨a, vs, v, rfl, rfl, h7, by rw [h5.length]; exact lt_line hl, ?_⟩
        have R2 := R1.upo (us := vs ++ [v]) (ds := ds ++ [d]) (q := q) hm h1 h7 h4 ((s1.rqs h5).append (.cons r1 .nil))
        rw [show Γ.set i (.ow q) = Γ from by
          apply List.ext_getElem?
          intro j
          by_cases hj : i = j
          · subst hj; rw [List.getElem?_set_self (List.getElem?_eq_some_iff.mp hm).1, hm]
          · rw [List.getElem?_set_ne hj]] at R2
        exact hq F1 O σ _ s1 R2
      · cases hf
theorem set_same {i : Nat} {m : Mode} (hm : Γ[i]? = some m) : Γ.set i m = Γ := by
  apply List.ext_getElem?
  intro j
  by_cases hj : i = j
  · subst hj; rw [List.getElem?_set_self (List.getElem?_eq_some_iff.mp hm).1, hm]
  · rw [List.getElem?_set_ne hj]
theorem ds_extend (i : Nat) (hm : Γ[i]? = some (.ow q)) (hk : ka.its = some q) (h : PE X e (tBM X.K "list" rExtend (tVar i) (tCons (tD X.K T H0 Γ fe ka) tNil))) (hs : swapsWith e none pos.line X.env = pure false := by rfl) : DS X T H0 Γ (.Expr e pos) (sExt i fe) Γ J :=
  PS.wk (ps_expr h hs) fun E σ H ⟨F, O, ρ, out, R, hf, hq⟩ => by
    obtain ⟨a, vs, ds, h1, h2, h3, h4, h5⟩ := R.sl i _ hm
    unfold sExt at hf
    rw [h2] at hf
    simp only at hf
    cases h6 : fe ρ with
    | none => rw [h6] at hf; cases hf
    | some d =>
      rw [h6] at hf
      simp only [Option.bind_some] at hf
      split at hf
      · rename_i es
        split at hf
        · rename_i hl
          cases hf
          refine ⟨.ref a, h1, .inl ⟨rfl, vs, SqL.of h3⟩, F, O, ρ, _, R, h6, fun F1 H1 v R1 s1 t1 r1 => ?_⟩
          have h7 := t1 _ _ h3
          obtain ⟨b, us, rfl, h8, h9⟩ := Rp.lst R1 r1 hk
          refine ⟨a, b, vs, us, rfl, rfl, h7, h8, by rw [h5.length, h9.length]; exact big6 hl, ?_⟩
          have R2 := R1.upo (us := vs ++ us) (ds := ds ++ es) (q := q) hm h1 h7 h4 ((s1.rqs h5).append h9)
          rw [set_same hm] at R2
          exact hq F1 O σ _ s1 R2
        · cases hf
      · cases hf
theorem ds_reverse (i : Nat) (hm : Γ[i]? = some (.ow q)) (h : PE X e (tBM0 X.K "list" rReverse (tVar i))) (hs : swapsWith e none pos.line X.env = pure false := by rfl) : DS X T H0 Γ (.Expr e pos) (sRev i) Γ J :=
  PS.wk (ps_expr h hs) fun E σ H ⟨F, O, ρ, out, R, hf, hq⟩ => by
    obtain ⟨a, vs, ds, h1, h2, h3, h4, h5⟩ := R.sl i _ hm
    unfold sRev at hf
    rw [h2] at hf
    cases hf
    refine ⟨.ref a, h1, .inl ⟨rfl, vs, SqL.of h3⟩, a, vs, rfl, rfl, h3, ?_⟩
    have R2 := R.upo (us := vs.reverse) (ds := ds.reverse) (q := q) hm h1 h3 h4 h5.reverse
    rw [set_same hm] at R2
    exact hq F O σ _ (.refl _) R2
theorem ds_clear (i : Nat) (hm : Γ[i]? = some (.ow q)) (h : PE X e (tBM0 X.K "list" rClear (tVar i))) (hs : swapsWith e none pos.line X.env = pure false := by rfl) : DS X T H0 Γ (.Expr e pos) (sClr i) Γ J :=
  PS.wk (ps_expr h hs) fun E σ H ⟨F, O, ρ, out, R, hf, hq⟩ => by
    obtain ⟨a, vs, ds, h1, h2, h3, h4, h5⟩ := R.sl i _ hm
    unfold sClr at hf
    rw [h2] at hf
    cases hf
    refine ⟨.ref a, h1, .inl ⟨rfl, vs, SqL.of h3⟩, a, vs, rfl, rfl, h3, ?_⟩
    have R2 := R.upo (us := []) (ds := []) (q := q) hm h1 h3 h4 .nil
    rw [set_same hm] at R2
    exact hq F O σ _ (.refl _) R2
/-- x[i] = e -/
theorem ds_put (i : Nat) (hm : Γ[i]? = some (.ow q)) (h : PS X st (tAsg (tD X.K T H0 Γ fe (.q q)) (L2.gSub (tVar i) (tD X.K T H0 Γ fa ka) rSetL))) : DS X T H0 Γ st (sPut i fa fe) Γ J :=
  PS.wk h fun E σ H ⟨F, O, ρ, out, R, hf, hq⟩ => by
    unfold sPut at hf
    cases h6 : fe ρ with
    | none => rw [h6] at hf; cases hf
    | some d =>
      rw [h6] at hf
      simp only [Option.bind_some] at hf
      refine ⟨F, O, ρ, d, R, h6, fun F1 H1 v R1 s1 t1 r1 => ?_⟩
      obtain ⟨a, vs, ds, h1, h2, h3, h4, h5⟩ := R1.sl i _ hm
      rw [h2] at hf
      simp only at hf
      cases h7 : fa ρ with
      | none => rw [h7] at hf; cases hf
      | some n =>
        rw [h7] at hf
        simp only [Option.bind_some] at hf
        split at hf
        · rename_i n
          cases h8 : ixN ds.length n with
          | none => rw [h8] at hf; cases hf
          | some j =>
            rw [h8] at hf
            cases hf
            refine ⟨.ref a, h1, F1, O, ρ, _, R1, h7, fun F2 H2 u R2 s2 t2 r2 => ?_⟩
            have h9 := t2 _ _ h3
            refine ⟨a, vs, n, j, rfl, r2.int, h9, by rw [h5.length]; exact h8, ?_⟩
            have R3 := R2.upo (us := vs.set j v) (ds := ds.set j d) (q := q) hm h1 h9 h4 ((s2.rqs h5).set (s2.rq r1) j)
            rw [set_same hm] at R3
            exact hq F2 O σ _ (s1.trans s2) R3
        · cases hf

/-! ### defs -/
def spD (K : PySem.W.Frag) (T : Tb) (n : Nat) (φ : List D → Option D) (rk : RK) : Sp := fun vs H Q _ => vs.length = n ∧ ∃ ds d, RUs K T H vs ds ∧ φ ds = some d ∧ ∀ H' v, RetOk K T H H' rk v d → Q v H'
def RK.knd : RK → Knd
  | .q q => .q q
  | .ol q => .ol q
def RK.ok : RK → Bool
  | .q .A => true
  | .q .L => true
  | .ol .A => true
  | .ol .L => true
  | _ => false
/-- a def that is found by its name keeps its promise -/
structure OkF (P : Program) (w : World) (K : PySem.W.Frag) (mg : Str → Option Value) (base : Heap) (T : Tb) (k : Nat) (x : Str) (ps : List Str) (φ : List D → Option D) (rk : RK) : Prop where
  ex : ∃ f fd, mg x = some (.ref f) ∧ PySem.W.keepIn K (.ref f) = true ∧ Binds K fd ps [] ∧ FnOk P w K mg base CX0 k f fd ps (spD K T ps.length φ rk)
/-- what a callee hands back, in the caller's eyes -/
theorem ret_in {K : PySem.W.Frag} {F H1 H' : Hp} {O : Own} {σ : L2.St} {ρ : List D} {rk : RK} {v : V} {d : D} (R : Rl K T H0 Γ F O σ H1 ρ) (h : RetOk K T H1 H' rk v d) (hk : rk.ok = true) : ∃ F', Rl K T H0 Γ F' O σ H' ρ ∧ Same F F' ∧ Same H1 H' ∧ Rp K T H0 F' H' O rk.knd v d := by
  have H01 : Same H0 H1 := R.h0.trans R.fh
  have step : ∀ {Fc : Hp}, Same H1 Fc → Same Fc H' → Rl K T H0 Γ (cut Fc fun b => ∃ i, O i b) O σ H' ρ ∧ Same F (cut Fc fun b => ∃ i, O i b) ∧ Same H1 H' ∧ (∀ a o, Fc a = some o → isMut o = false → ¬ ∃ i, O i a) := fun {Fc} s1 s2 => by
    have sF : Same F (cut Fc fun b => ∃ i, O i b) := fun b o e => by
      rw [cut_out]
      · exact s1 _ _ (R.fh _ _ e)
      · rintro ⟨i, hi⟩
        rw [(R.on i b hi).1] at e; cases e
    refine ⟨(R.grow (s1.trans s2)).more sF (fun b o e => ?_) (fun i b hi => cut_in ⟨i, hi⟩), sF, s1.trans s2, ?_⟩
    · unfold cut at e
      split at e
      · cases e
      · exact s2 _ _ e
    · rintro a o e hm ⟨i, hi⟩
      obtain ⟨_, u, h2, h3⟩ := R.on i a hi
      have := s1 _ _ h2
      rw [e] at this; cases this
      rw [hm] at h3; cases h3
  have nkc : ∀ {q : Q3}, (q = .A ∨ q = .L) → ∀ a, NK H1 q a → ¬ ∃ i, O i a := fun {q} hq a ha ⟨i, hi⟩ => by
    obtain ⟨_, u, h2, _⟩ := R.on i a hi
    rcases hq with rfl | rfl
    · exact ha
    · rw [show H1 a = none from ha] at h2; cases h2
  have nk0 : ∀ {q : Q3}, (q = .A ∨ q = .L) → ∀ a, NK H1 q a → NK H0 q a := fun {q} hq a ha => by
    rcases hq with rfl | rfl
    · exact ha
    · exact H01.free ha
  have hq : ∀ {q : Q3}, (rk = .q q ∨ rk = .ol q) → (q = .A ∨ q = .L) := fun {q} e => by
    rcases e with rfl | rfl <;> cases q <;> first | exact .inl rfl | exact .inr rfl | cases hk
  cases rk with
  | q q =>
    obtain ⟨Fc, s1, s2, r⟩ := h
    obtain ⟨R2, s3, s4, hT⟩ := step s1 s2
    exact ⟨_, R2, s3, s4, (r.cut (nkc (hq (.inl rfl))) hT).mono (.refl _) (nk0 (hq (.inl rfl)))⟩
  | ol q =>
    obtain ⟨Fc, a, vs, ds, e1, e2, s1, s2, h1, h2, r⟩ := h
    obtain ⟨R2, s3, s4, hT⟩ := step s1 s2
    refine ⟨_, R2, s3, s4, a, vs, ds, e1, e2, h1, ?_, fun i hi => ?_, (r.cut (nkc (hq (.inr rfl))) hT).mono (.refl _) (nk0 (hq (.inr rfl)))⟩
    · unfold cut
      split
      · rfl
      · exact h2
    · obtain ⟨_, u, h3, _⟩ := R.on i a hi
      rw [s1 _ _ h3] at h2; cases h2
def eCall (φ : List D → Option D) (fs : List D → Option (List D)) : EF := fun ρ => (fs ρ).bind φ
theorem call_sem {K : PySem.W.Frag} {n : Nat} {φ : List D → Option D} {rk : RK} {E : XK} (hk : rk.ok = true) (hn : ∀ ρ ds, fs ρ = some ds → ds.length = n) :
    ∀ σ H Q, tD K T H0 Γ (eCall φ fs) rk.knd σ H Q → tCall (spD K T n φ rk) [] E (tDA K T H0 Γ fs) σ H Q := by
  rintro σ H Q ⟨F, O, ρ, d, R, hf, hq⟩
  unfold eCall at hf
  cases h1 : fs ρ with
  | none => rw [h1] at hf; cases hf
  | some ds =>
    rw [h1] at hf
    simp only [Option.bind_some] at hf
    refine ⟨F, O, ρ, ds, R, h1, fun F1 H1 vs R1 s1 t1 r1 => ?_⟩
    show spD K T n φ rk (vs ++ []) H1 Q E
    rw [List.append_nil]
    refine ⟨by rw [r1.length]; exact hn _ _ h1, ds, d, r1, hf, fun H' v r => ?_⟩
    obtain ⟨F2, R2, s2, t2, r2⟩ := ret_in R1 r hk
    exact hq F2 H' v R2 (s1.trans s2) (t1.trans t2) r2
theorem aCons_len {n : Nat} (h : ∀ ρ ds, fs ρ = some ds → ds.length = n) : ∀ ρ ds, aCons fe fs ρ = some ds → ds.length = n + 1 := fun ρ ds e => by
  unfold aCons at e
  cases h1 : fe ρ with
  | none => rw [h1] at e; cases e
  | some x =>
    rw [h1] at e
    simp only [Option.bind_some] at e
    cases h2 : fs ρ with
    | none => rw [h2] at e; cases e
    | some xs =>
      rw [h2] at e
      cases e
      rw [List.length_cons, h ρ xs h2]
theorem aNil_len : ∀ ρ ds, aNil ρ = some ds → ds.length = 0 := fun ρ ds e => by cases e; rfl
theorem de_call {j k : Nat} {x : Str} {ps : List Str} {φ : List D → Option D} {rk : RK} (h : OkF X.prog X.w X.K X.mg X.base T j x ps φ rk) (hr : Room k X.A) (hg : Gl X x) (ha : DA X T H0 Γ (e :: es) fs) (hn : ∀ ρ ds, fs ρ = some ds → ds.length = ps.length) (hj : j ≤ k := by decide) (hk : rk.ok = true := by rfl)
    (hdb : (x == ("__debug__" : Str)) = false := by decide) (he : starEach (e :: es) X.env = (false, eval e X.env) :: starEach es X.env := by rfl) (hpl : (backTo pos (starEach es X.env)).any (·.1) = false := by rfl) :
    DE X T H0 Γ (.Call (.Name x po) (e :: es) [] pos) (eCall φ fs) rk.knd := by
  obtain ⟨f, fd, h1, h2, h3, h4⟩ := h.ex
  exact PE.wk (pe_call h4 (hr.mono hj) hg h1 h2 h3 .nil pass0 ha hdb he hpl) (call_sem hk hn)
end
end DL

namespace DL
open PySem PySem.Spec PyProof.Rows L2

/-! ### a def's entry -/
/-- what a parameter is taken for: U: anything; A: data without mutable things; fA: a list of such; fU: a list -/
inductive PKn where
  | U | A | fA | fU
def PKn.mode : PKn → Mode
  | .U => .fz .U
  | .A => .fz .A
  | .fA => .fl .A
  | .fU => .fl .U
def PKn.chk : PKn → D → Bool
  | .U, _ => true
  | .A, d => d.lf
  | .fA, .lst ds => D.lfs ds
  | .fU, .lst _ => true
  | _, _ => false
def chks : List PKn → List D → Bool
  | [], [] => true
  | p :: ps, d :: ds => p.chk d && chks ps ds
  | _, _ => false
def fnD (pks : List PKn) (m : Nat) (nx : Bool) (body : SF) : List D → Option D := fun args =>
  if chks pks args = true then (body (args ++ List.replicate m .non)).bind fun o => match o with
    | .rt d => some d
    | .nx _ => if nx = true then some .non else none
    | _ => none
  else none
abbrev ms0 (pks : List PKn) (m : Nat) : List Mode := pks.map PKn.mode ++ List.replicate m .no
theorem chks_len : ∀ {pks : List PKn} {ds : List D}, chks pks ds = true → ds.length = pks.length
  | [], [], _ => rfl
  | p :: ps, d :: ds, h => by
    unfold chks at h
    rw [Bool.and_eq_true] at h
    rw [List.length_cons, List.length_cons, chks_len h.2]
theorem chks_get : ∀ {pks : List PKn} {ds : List D} {i : Nat} {p : PKn}, chks pks ds = true → pks[i]? = some p → ∃ d, ds[i]? = some d ∧ p.chk d = true
  | [], [], _, _, _, e => by simp at e
  | p :: ps, d :: ds, 0, q, h, e => by
    unfold chks at h
    rw [Bool.and_eq_true] at h
    simp at e; subst e
    exact ⟨d, rfl, h.1⟩
  | p :: ps, d :: ds, i + 1, q, h, e => by
    unfold chks at h
    rw [Bool.and_eq_true] at h
    obtain ⟨x, h1, h2⟩ := chks_get (i := i) h.2 (by simpa using e)
    exact ⟨x, by simpa using h1, h2⟩
theorem rl_start {K : PySem.W.Frag} {T : Tb} {H : Hp} {pks : List PKn} {m : Nat} {N : List Str} {vs : List V} {ds : List D} (hN : N.length = pks.length + m) (hr : RUs K T H vs ds) (hc : chks pks ds = true) :
    Rl K T H (ms0 pks m) H (fun _ _ => False) (L2.start N vs) H (ds ++ List.replicate m .non) := by
  have hl := chks_len hc
  have hv := hr.length
  refine ⟨.refl _, .refl _, fun _ _ h => h.elim, fun _ _ _ h => h.elim, ?_, ?_, fun i md hm => ?_⟩
  · unfold L2.start; simp; omega
  · simp; omega
  · by_cases hi : i < pks.length
    · unfold ms0 at hm
      rw [List.getElem?_append_left (by simpa using hi), List.getElem?_map] at hm
      cases hp : pks[i]? with
      | none => rw [hp] at hm; cases hm
      | some p =>
        rw [hp] at hm
        cases hm
        obtain ⟨d, h1, h2⟩ := chks_get hc hp
        obtain ⟨v, h3, h4⟩ := hr.get h1
        have e1 : (L2.start N vs)[i]? = some (some v) := by
          unfold L2.start
          rw [List.getElem?_append_left (by rw [List.length_map]; omega), List.getElem?_map, h3]; rfl
        have e2 : (ds ++ List.replicate m D.non)[i]? = some d := by
          rw [List.getElem?_append_left (by omega), h1]
        rw [e1, e2]
        cases p with
        | U => exact ⟨v, d, rfl, rfl, h4⟩
        | A => exact ⟨v, d, rfl, rfl, h4.lf h2⟩
        | fA =>
          cases d <;> first | (cases h2; done) | skip
          cases h4 with
          | @lst a vs ds h5 h6 h7 => exact ⟨a, vs, _, rfl, rfl, h5, RepsG.lf h7 h2⟩
        | fU =>
          cases d <;> first | (cases h2; done) | skip
          cases h4 with
          | @lst a vs ds h5 h6 h7 => exact ⟨a, vs, _, rfl, rfl, h5, h7⟩
    · unfold ms0 at hm
      rw [List.getElem?_append_right (by simpa using hi)] at hm
      have : md = .no := by
        have := List.mem_of_getElem? hm
        rw [List.mem_replicate] at this
        exact this.2
      subst this
      trivial
/-- what the top has left of a def -/
structure FtF (K : PySem.W.Frag) (mg : Str → Option Value) (x qual : Str) (st : Stmt) (ps : List Str) : Prop where
  ex : ∃ f fd, Fun K x qual st f fd ∧ Binds K fd ps [] ∧ mg x = some (.ref f)
abbrev bodyX (P : Program) (w : World) (K : PySem.W.Frag) (mg : Str → Option Value) (base : Heap) (N : List Str) (x : Str) (st : Stmt) (f : Addr) (cdv : Value) (A : Around) (outer : List Env) (s : Shared) (H : Hp) (E : XK) : Cx := (cxOf CX0 P w K mg base N x (defScope st) f cdv A outer s H E).nox
section
variable {P : Program} {w : World} {K : PySem.W.Frag} {mg : Str → Option Value} {base : Heap} {T : Tb}
theorem fn_body {x qual : Str} {st : Stmt} {N ps : List Str} {pks : List PKn} {m k : Nat} {body : SF} {Γn : List Mode} {rk : RK} {nx : Bool} {f : Addr} {fd : FuncData} (F : Fun K x qual st f fd) (S : FnScope N ps (defScope st)) (hN : N.length = pks.length + m) (hp : ps.length = pks.length)
    (hnx : nx = true → ∃ q, rk = .q q) (hb : ∀ (f : Addr) (cdv : Value) (A : Around) (outer : List Env) (s : Shared) (H : Hp) (E : XK), Room k (bodyX P w K mg base N qual st f cdv A outer s H E).A → DSs (bodyX P w K mg base N qual st f cdv A outer s H E) T H (ms0 pks m) (defBody st) body Γn ⟨[], [], rk⟩) :
    FnOk P w K mg base CX0 (k + 1) f fd ps (spD K T ps.length (fnD pks m nx body) rk) := by
  refine F.ok S (fun vs H Q E h => h.1) fun cdv A outer s H vs Q E hr h => ?_
  obtain ⟨hl, ds, d, r, hf, hq⟩ := h
  refine ⟨_, hb f cdv A outer s H E hr, ?_⟩
  unfold fnD at hf
  split at hf
  · rename_i hc
    cases h1 : body (ds ++ List.replicate m .non) with
    | none => rw [h1] at hf; cases hf
    | some o =>
      rw [h1] at hf
      simp only [Option.bind_some] at hf
      refine ⟨H, _, _, o, rl_start hN r hc, h1, ?_⟩
      split at hf
      · cases hf
        exact fun H' v hv => hq H' v hv
      · split at hf
        · rename_i hx
          cases hf
          obtain ⟨q, rfl⟩ := hnx hx
          exact fun F' O' σ' H' s R => hq H' .non ⟨F', R.h0, R.fh, .non⟩
        · cases hf
      · cases hf
  · cases hf
theorem mk_okf {x : Str} {st : Stmt} {N ps : List Str} {pks : List PKn} {m k : Nat} {body : SF} {Γn : List Mode} {rk : RK} {nx : Bool} (F : FtF K mg x x st ps) (S : FnScope N ps (defScope st)) (hN : N.length = pks.length + m) (hp : ps.length = pks.length)
    (hnx : nx = true → ∃ q, rk = .q q) (hb : ∀ (f : Addr) (cdv : Value) (A : Around) (outer : List Env) (s : Shared) (H : Hp) (E : XK), Room k (bodyX P w K mg base N x st f cdv A outer s H E).A → DSs (bodyX P w K mg base N x st f cdv A outer s H E) T H (ms0 pks m) (defBody st) body Γn ⟨[], [], rk⟩) :
    OkF P w K mg base T (k + 1) x ps (fnD pks m nx body) rk := by
  obtain ⟨f, fd, h1, h2, h3⟩ := F.ex
  exact ⟨f, fd, h3, h1.kp, h2, fn_body h1 S hN hp hnx hb⟩
/-- a law's promise, from its denotation -/
def spLaw (K : PySem.W.Frag) (M : Nat) : Sp := fun vs H Q _ => ∃ (a : Addr) (ns : List Int), vs = [.ref a] ∧ SqS K H a (ns.map V.int) ∧ ns.length ≤ M ∧ ∀ H', Q (.bl true) H'
theorem law_ok {k : Nat} {f : Addr} {fd : FuncData} {x : Str} {φ : List D → Option D} {M : Nat} (h : FnOk P w K mg base CX0 k f fd [x] (spD K T 1 φ (.q .A))) (hφ : ∀ ns : List Int, ns.length ≤ M → φ [.scr (ns.map .int)] = some (.bl true)) : FnOk P w K mg base CX0 k f fd [x] (spLaw K M) :=
  h.imp fun vs H Q E ⟨a, ns, e, hs, hl, hq⟩ => by
    subst e
    exact ⟨rfl, [.scr (ns.map .int)], _, .cons (.scr hs (vals_reps ns)) .nil, hφ ns hl, fun H' v ⟨F, _, _, r⟩ => by cases r; exact hq H'⟩
end
theorem law_sp {K : PySem.W.Frag} {M : Nat} {H : Hp} {a : Addr} {ns : List Int} (hl : ns.length ≤ M) (hO : Only H) (hS : SqL K H a (ns.map V.int)) : spLaw K M [.ref a] H (fun v _ => v = .bl true) fun _ _ _ => False := by
  refine ⟨a, ns, rfl, ?_, hl, fun _ => rfl⟩
  rcases hS with (h | h) | h
  · rcases hO a with z | ⟨o, xs, z⟩
    · rw [h] at z; cases z
    · rw [h] at z; cases z
  · exact .inl h
  · exact .inr h
end DL

namespace DL
open PySem PySem.Spec PyProof.Rows L2
section
variable {X : Cx} {T : Tb} {H0 : Hp} {Γ Γ1 Γn Γm : List Mode} {J : Jm} {e a b tg iter : Expr} {es : List Expr} {st : Stmt} {sts : List Stmt} {f g : SF} {fe fa fb : EF} {k ka kb : Knd} {pos po : Pos} {q p : Q3} {fi : List D → Option (List D)} {c : Bool} {fs : List D → Option (List D)}
theorem dss_one (h1 : DS X T H0 Γ st f Γ1 J) (h : wkAll Γ1 Γn = true) : DSs X T H0 Γ [st] f Γn J := PSs.wk (pss_one h1) fun E σ H ⟨F, O, ρ, out, R, hf, hq⟩ => by
  refine ⟨F, O, ρ, out, R, hf, ?_⟩
  cases out with
  | nx ρ' =>
    intro F1 O1 σ1 H1 s1 R1
    obtain ⟨F', O', s, R'⟩ := wk_of h F1 O1 σ1 H1 ρ' R1
    exact hq F' O' σ1 H1 (s1.trans s) R'
  | bk ρ' => exact hq
  | ct ρ' => exact hq
  | rt d => exact hq
/-- names that no one asks for any more are forgotten -/
def sThen (f : SF) (cl : List Nat) : SF := fun ρ => (f ρ).bind fun o => match o with
  | .nx ρ' => some (.nx (clrs cl ρ'))
  | o => some o
theorem dss_clr {cl : List Nat} (h1 : DSs X T H0 Γ sts f Γn J) (h : cl.all (fun i => decide (Γn[i]? = some .no)) = true) : DSs X T H0 Γ sts (sThen f cl) Γn J := PSs.wk h1 fun E σ H ⟨F, O, ρ, out, R, hf, hq⟩ => by
  unfold sThen at hf
  cases h2 : f ρ with
  | none => rw [h2] at hf; cases hf
  | some o =>
    rw [h2] at hf
    simp only [Option.bind_some] at hf
    refine ⟨F, O, ρ, o, R, h2, ?_⟩
    cases o with
    | nx ρ' => cases hf; exact fun F1 O1 σ1 H1 s1 R1 => hq F1 O1 σ1 H1 s1 (R1.clr h)
    | bk ρ' => cases hf; exact hq
    | ct ρ' => cases hf; exact hq
    | rt d => cases hf; exact hq
theorem hr65 {k : Nat} {A : Around} (hr : Room k A) : A.units + 65 < cLine := by
  have := hr.un
  omega
/-- a written tuple of ints -/
def TupK (K : PySem.W.Frag) (p : Addr) (ns : List Int) : Prop := ∃ (o : Obj) (its : Array Value) (n : Nat), K.lookup p = some o ∧ o.cls = .type "tuple" ∧ o.data = .seq its n ∧ its.size ≤ sizeLine ∧ Vals (ns.map V.int) its.toList
def gAbs (x : D) : Option D := i1 (fun i => some (.int (if i < 0 then -i else i))) x
theorem de_abs (hg : Gl X "abs") (hm : X.mg "abs" = none) (ha : DE X T H0 Γ a fa ka) (hs : starEach [a] X.env = (false, eval a X.env) :: starEach [] X.env := by rfl) : DE X T H0 Γ (.Call (.Name "abs" po) [a] [] pos) (e1 gAbs fa) (.q q) :=
  PE.wk (pe_callB call_abs hg hm (by decide +kernel) (da_cons ha da_nil hs) (he := hs)) (callB_sem fun F O σ H ρ v x d Q R rv hg hq => by
    unfold gAbs i1 at hg
    split at hg
    · cases hg
      cases rv
      exact ⟨_, rfl, hq F H _ R (.refl _) (.refl _) (RepG.int _)⟩
    · cases hg)
/-- a list's truth -/
def t2t (a : EF) : List D → Option Bool := fun ρ => (a ρ).bind fun d => match d with
  | .lst ds => some (!ds.isEmpty)
  | _ => none
theorem dt_tru (ha : DE X T H0 Γ a fa ka) (he : ∀ whole, isTrue a X.env whole = (do let v ← whole; standAt a.pos; holding [v] (truthy v)) := by intro _; rfl) : DT X T H0 Γ a (t2t fa) :=
  PT.wk (pt_truth ha he) fun σ H Q ⟨F, O, ρ, d, R, hf, hq⟩ => by
    unfold t2t at hf
    cases h1 : fa ρ with
    | none => rw [h1] at hf; cases hf
    | some x =>
      rw [h1] at hf
      simp only [Option.bind_some] at hf
      split at hf
      · rename_i ds
        cases hf
        refine ⟨F, O, ρ, _, R, h1, fun F1 H1 v R1 s1 t1 r1 => ?_⟩
        have rv := R1.toB r1
        cases rv with
        | @lst a vs ds h2 h3 h4 =>
          refine ⟨!ds.isEmpty, .inl ⟨vs, SqL.of h2, ?_⟩, hq F1 H1 R1 s1 t1⟩
          have := h4.length
          cases vs <;> cases ds <;> simp_all
      · cases hf
end
end DL
namespace DL
open PySem PySem.Spec PyProof.Rows L2
/-- what the head's facts say of a def -/
def FtH (K : PySem.W.Frag) (x qual : Str) (st : Stmt) : Prop := ∃ (f : Addr) (oc : Value) (od : Option Addr) (kV dc pm : Value) (an : Option Addr) (cd ct : Value) (sl : Array (Option Value)),
  PySem.W.nsIn K mainGlobals x = some (some (.ref f)) ∧ K.lookup f = some ⟨oc, od, .func (PySem.W.fnOf x qual (defArgs st) (defBody st) (defScope st) .none kV dc pm an cd ct), sl⟩ ∧ PySem.W.codeIn K cd qual = true ∧ PySem.W.keepIn K (.ref f) = true
theorem ft_mk {K : PySem.W.Frag} {h : Heap} {mg : Str → Option Value} {x qual : Str} {st : Stmt} {ps : List Str} (X : K.In h) (G : h.Ns mainGlobals mg) (e : FtH K x qual st)
    (b : ∀ (kV doc pm : Value) (an : Option Addr) (cdv ct : Value) (us : List Value), us.length = ps.length → bindArgs (PySem.W.fnOf x qual (defArgs st) (defBody st) (defScope st) .none kV doc pm an cdv ct) ⟨us, []⟩ = pure (ps.zip us)) : FtF K mg x qual st ps := by
  obtain ⟨f, oc, od, kV, dc, pm, an, cd, ct, sl, h1, h2, h3, h4⟩ := e
  exact ⟨f, _, fun_mk h2 h3 h4, (fun_mk h2 h3 h4).binds b, PySem.W.mg_of X G h1⟩
theorem ft_law {l : PySem.W.OpenLaw} {w : World} {K : PySem.W.Frag} {h : Heap} {mg : Str → Option Value} {fa : Addr} {st : Stmt} {x : Str} {k : Nat} {sp : Sp} (X : K.In h) (G : h.Ns mainGlobals mg) (hfa : mg "law" = some (.ref fa)) (e : FtH K "law" "law" st)
    (hb : ∀ (kV dc pm : Value) (an : Option Addr) (cd ct : Value) (s : Shared) (v : Value), BindsTo s (PySem.W.fnOf "law" "law" (defArgs st) (defBody st) (defScope st) .none kV dc pm an cd ct) ⟨[v], []⟩ [(x, v)])
    (F : ∀ (fd : FuncData) (base : Heap), Fun K "law" "law" st fa fd → FnOk l.prog w K mg base CX0 k fa fd [x] sp) :
    ∃ fd : FuncData, (∀ (s : Shared) (v : Value), BindsTo s fd ⟨[v], []⟩ [(x, v)]) ∧ ∀ base : Heap, K.In base → base.Ns mainGlobals mg → FnOk l.prog w K mg base CX0 k fa fd [x] sp := by
  obtain ⟨f, oc, od, kV, dc, pm, an, cd, ct, sl, h1, h2, h3, h4⟩ := e
  have e := hfa.symm.trans (PySem.W.mg_of X G h1)
  cases e
  exact ⟨_, fun s v => hb kV dc pm an cd ct s v, fun base _ _ => F _ base (fun_mk h2 h3 h4)⟩
end DL

/-! pure lemmas over the denotations -/
namespace DL
open PySem PySem.Spec PyProof.Rows L2
theorem seq_nx {f g : SF} {ρ ρ' : List D} (h : f ρ = some (.nx ρ')) : sSeq f g ρ = g ρ' := by unfold sSeq; rw [h]; rfl
theorem seq_rt {f g : SF} {ρ : List D} {d : D} (h : f ρ = some (.rt d)) : sSeq f g ρ = some (.rt d) := by unfold sSeq; rw [h]; rfl
theorem if_t {t : List D → Option Bool} {f g : SF} {ρ : List D} (h : t ρ = some true) : sIf t f g ρ = f ρ := by unfold sIf; rw [h]; rfl
theorem if_f {t : List D → Option Bool} {f g : SF} {ρ : List D} (h : t ρ = some false) : sIf t f g ρ = g ρ := by unfold sIf; rw [h]; rfl
theorem fnD_rt {pks : List PKn} {m : Nat} {nx : Bool} {b : SF} {args : List D} {d : D} (hc : chks pks args = true) (h : b (args ++ List.replicate m .non) = some (.rt d)) : fnD pks m nx b args = some d := by unfold fnD; rw [if_pos hc, h]; rfl
theorem for_eq {fi : List D → Option (List D)} {tg : D → List D → Option (List D)} {b : SF} {cl : List Nat} {ρ : List D} {items : List D} (h : fi ρ = some items) : sFor fi tg b cl ρ = loopD tg b cl items (clrs cl ρ) := by unfold sFor; rw [h]; rfl
/-- a loop as a fold: enc is the frame at a turn's start -/
theorem loop_fold {S α : Type} {tg : D → List D → Option (List D)} {b : SF} {cl : List Nat} (enc : S → List D) (f : α → D) (step : S → α → S) (Pv : S → Prop) :
    ∀ (xs : List α) (s : S), Pv s → (∀ s x, x ∈ xs → Pv s → Pv (step s x) ∧ ∃ ρ1 ρ2, tg (f x) (enc s) = some ρ1 ∧ (b ρ1 = some (.nx ρ2) ∨ b ρ1 = some (.ct ρ2)) ∧ clrs cl ρ2 = enc (step s x)) →
      loopD tg b cl (xs.map f) (enc s) = some (.nx (enc (xs.foldl step s))) ∧ Pv (xs.foldl step s)
  | [], s, hs, _ => ⟨rfl, hs⟩
  | x :: xs, s, hs, h => by
    obtain ⟨h1, ρ1, ρ2, h2, h3, h4⟩ := h s x List.mem_cons_self hs
    have ih := loop_fold enc f step Pv xs (step s x) h1 fun s y hy => h s y (List.mem_cons_of_mem _ hy)
    refine ⟨?_, ih.2⟩
    rw [List.map_cons]
    unfold loopD
    rw [h2, Option.bind_some]
    rcases h3 with h3 | h3 <;> (rw [h3, Option.bind_some]; show loopD tg b cl (xs.map f) (clrs cl ρ2) = _; rw [h4]; exact ih.1)
/-- a loop by its turn: ρ i is the frame at turn i -/
theorem loop_inv {tg : D → List D → Option (List D)} {b : SF} {cl : List Nat} (ρ : Nat → List D) (n : Nat) {items r0 : List D} (hn : items.length = n) (h0 : r0 = ρ 0) (h : ∀ i (hi : i < n) x, items[i]? = some x → ∃ ρ1 ρ2, tg x (ρ i) = some ρ1 ∧ (b ρ1 = some (.nx ρ2) ∨ b ρ1 = some (.ct ρ2)) ∧ clrs cl ρ2 = ρ (i + 1)) :
    loopD tg b cl items r0 = some (.nx (ρ n)) := by
  subst h0
  have key : ∀ k i, i + k = n → loopD tg b cl (items.drop i) (ρ i) = some (.nx (ρ n)) := by
    intro k
    induction k with
    | zero =>
      intro i hi
      rw [List.drop_of_length_le (by omega)]
      have : i = n := by omega
      subst this; rfl
    | succ k ih =>
      intro i hi
      have hlt : i < items.length := by omega
      rw [List.drop_eq_getElem_cons hlt]
      obtain ⟨ρ1, ρ2, h2, h3, h4⟩ := h i (by omega) _ (List.getElem?_eq_getElem hlt)
      unfold loopD
      rw [h2, Option.bind_some]
      rcases h3 with h3 | h3 <;> (rw [h3, Option.bind_some]; show loopD tg b cl (items.drop (i + 1)) (clrs cl ρ2) = _; rw [h4]; exact ih (i + 1) (by omega))
  simpa using key n 0 (by omega)
/-- a comprehension without a test -/
theorem comp_map {α : Type} {tg : D → List D → Option (List D)} {tt : List D → Option Bool} {fe : EF} {ρ : List D} (f : α → D) (g : α → D) : ∀ (xs : List α), (∀ x ∈ xs, ∃ ρ1, tg (f x) ρ = some ρ1 ∧ tt ρ1 = some true ∧ fe ρ1 = some (g x)) →
    compGo tg tt fe ρ (xs.map f) = some (xs.map g)
  | [], _ => rfl
  | x :: xs, h => by
    obtain ⟨ρ1, h1, h2, h3⟩ := h x List.mem_cons_self
    rw [List.map_cons, List.map_cons]
    unfold compGo
    rw [h1, Option.bind_some, h2, Option.bind_some, if_pos rfl, h3, Option.bind_some, comp_map f g xs fun y hy => h y (List.mem_cons_of_mem _ hy)]
    rfl
/-- a comprehension with a test -/
theorem comp_filter {α : Type} {tg : D → List D → Option (List D)} {tt : List D → Option Bool} {fe : EF} {ρ : List D} (f : α → D) (p : α → Bool) (g : α → D) : ∀ (xs : List α), (∀ x ∈ xs, ∃ ρ1, tg (f x) ρ = some ρ1 ∧ tt ρ1 = some (p x) ∧ (p x = true → fe ρ1 = some (g x))) →
    compGo tg tt fe ρ (xs.map f) = some ((xs.filter p).map g)
  | [], _ => rfl
  | x :: xs, h => by
    obtain ⟨ρ1, h1, h2, h3⟩ := h x List.mem_cons_self
    have ih := comp_filter f p g xs fun y hy => h y (List.mem_cons_of_mem _ hy)
    rw [List.map_cons]
    unfold compGo
    rw [h1, Option.bind_some, h2, Option.bind_some]
    cases hp : p x with
    | true => rw [if_pos rfl, h3 hp, Option.bind_some, ih, List.filter_cons_of_pos hp]; rfl
    | false => rw [if_neg Bool.false_ne_true, ih, List.filter_cons_of_neg (by rw [hp]; exact Bool.false_ne_true)]
theorem comp_eq {fi : List D → Option (List D)} {tg : D → List D → Option (List D)} {tt : List D → Option Bool} {fe : EF} {ρ items ds : List D} (h : fi ρ = some items) (h2 : compGo tg tt fe ρ items = some ds) (hl : ds.length ≤ 1000000) : eComp fi tg tt fe ρ = some (.lst ds) := by
  unfold eComp; rw [h, Option.bind_some, h2, Option.bind_some, if_pos hl]
/-- the ints 0, 1, .. below n -/
theorem rangeD_nat (n : Nat) : rangeD 0 (n : Int) = (List.range n).map fun (i : Nat) => D.int (i : Int) := by
  unfold rangeD
  have : ((n : Int) - 0).toNat = n := by omega
  rw [this]
  apply List.map_congr_left
  intro i _
  rw [Int.zero_add]
theorem rangeD_two (a b : Nat) : rangeD (a : Int) (b : Int) = (List.range (b - a)).map fun (i : Nat) => D.int ((a + i : Nat) : Int) := by
  unfold rangeD
  have : ((b : Int) - (a : Int)).toNat = b - a := by omega
  rw [this]
  apply List.map_congr_left
  intro i _
  rw [Int.natCast_add]
theorem atI_zero {α : Type} (x : α) (xs : List α) : atI (x :: xs) 0 = some x := atI_nat (j := 0) rfl
theorem atI_map {α : Type} {f : α → D} {xs : List α} {i : Int} {x : α} (h : atI xs i = some x) : atI (xs.map f) i = some (f x) := by
  unfold atI at h ⊢
  rw [List.length_map]
  cases h1 : ixN xs.length i with
  | none => rw [h1] at h; cases h
  | some j =>
    rw [h1] at h
    simp only [Option.bind_some] at h ⊢
    rw [List.getElem?_map, h]; rfl
theorem atI_mapN {α : Type} {f : α → D} {xs : List α} {i : Nat} {x : α} (h : xs[i]? = some x) : atI (xs.map f) (i : Int) = some (f x) := atI_map (atI_nat h)
theorem atI_ex {α : Type} {xs : List α} {i : Int} (h0 : 0 ≤ i) (h1 : i < xs.length) : ∃ x, atI xs i = some x := by
  obtain ⟨k, rfl⟩ : ∃ k : Nat, i = k := ⟨i.toNat, by omega⟩
  exact ⟨xs[k]'(by omega), atI_nat (List.getElem?_eq_getElem (by omega))⟩
theorem atI_ints {ns : List Int} {i : Int} (h0 : 0 ≤ i) (h1 : i < ns.length) : ∃ c, atI (ns.map D.int) i = some (.int c) := by
  obtain ⟨x, h⟩ := atI_ex h0 h1
  exact ⟨x, atI_map h⟩
theorem small_b {n : Nat} {i : Int} (h1 : -1000000000 ≤ i) (h2 : i ≤ 1000000000) (hn : 30 ≤ n := by decide) : small n i := by
  have h : i.natAbs < 2 ^ 30 := by omega
  have := PySem.Flt.log2_lt_of (k := 30) (by decide) h
  unfold small
  omega
theorem mulOk_r {i j : Int} (h1 : -1000000000 ≤ j) (h2 : j ≤ 1000000000) : mulOk i j := .inr (.inl (small_b h1 h2))
theorem mulOk_l {i j : Int} (h1 : -1000000000 ≤ i) (h2 : i ≤ 1000000000) : mulOk i j := .inl (small_b h1 h2)
theorem divOk {j : Int} (h : 0 < j) (h2 : j ≤ 1000000000) : 0 < j ∧ small 9000 j := ⟨h, small_b (by omega) h2⟩
end DL
namespace DL
theorem st_nx {f g : SF} {ρ ρ' : List D} {R : Option Out} (h : f ρ = some (.nx ρ')) (k : g ρ' = R) : sSeq f g ρ = R := (seq_nx h).trans k
end DL

namespace Lw
open PySem PySem.Spec PyProof.Rows L2 DL

def topS (i : Nat) : Stmt := PySem.Challenge.pw_toggleclock_k80_chosen.main.body.getD i (.Pass ⟨0, 0, 0, 0⟩)
abbrev nm__law_cell : List Str := ["_law_script", "_law_k", "_law_cell_here", "_law_low"]
theorem sc__law_cell : FnScope nm__law_cell ["_law_script", "_law_k"] (defScope (topS 3)) := ⟨rfl, rfl, rfl, by decide +kernel, rfl, by decide +kernel, by decide +kernel⟩
def b__law_cell : SF := (sSeq (sIf (bOr (t2b (e2 gEqS (e1 gLen (eV 0)) (eK (.int 0)))) (t2b (e2 gEqS (e2 gMod (e2 gIx (eV 0) (eK (.int 0))) (eK (.int 2))) (eK (.int 0))))) (sRet (eIf (t2b (e2 gLt (eV 1) (e1 gLen (eV 0)))) (eA (e2 gIx (eV 0) (eV 1))) (eK (.int 0)))) sNil)
 (sSeq (sSet 2 (eA (e2 gIx (eV 0) (e2 gMod (eV 1) (e1 gLen (eV 0))))))
 (sSeq (sSet 3 (e2 gMod (e2 gMul (e2 gAdd (eV 2) (e2 gMul (eK (.int 7919)) (e2 gAdd (eV 1) (eK (.int 1))))) (eK (.int 6364136223846793005))) (eK (.int 2305843009213693951))))
 (sRet (e2 gAdd (e2 gMul (e2 gDiv (e2 gMod (eV 2) (e2 gPow (eK (.int 10)) (eK (.int 60)))) (eK (.int 2305843009213693951))) (eK (.int 2305843009213693951))) (eV 3))))))
def den__law_cell : List D → Option D := fnD [.U, .A] 2 false b__law_cell
abbrev nm_chosen : List Str := ["x", "y", "ways", "step"]
theorem sc_chosen : FnScope nm_chosen ["x", "y"] (defScope (topS 1)) := ⟨rfl, rfl, rfl, by decide +kernel, rfl, by decide +kernel, by decide +kernel⟩
def b_chosen : SF := (sSeq (sIf (t2b (e2 gGt (eV 1) (eV 0))) (sRet (eK (.int 0))) sNil)
 (sSeq (sSet 2 (eK (.int 1)))
 (sSeq (sFor (iRg1 (eV 1)) (tgN 3) (sSet 2 (e2 gDiv (e2 gMul (eV 2) (e2 gSbI (eV 0) (eV 3))) (e2 gAdd (eV 3) (eK (.int 1))))) [3])
 (sRet (eV 2)))))
def den_chosen : List D → Option D := fnD [.A, .A] 2 false b_chosen
abbrev nm__law_whole : List Str := ["_law_found"]
theorem sc__law_whole : FnScope nm__law_whole ["_law_found"] (defScope (topS 4)) := ⟨rfl, rfl, rfl, by decide +kernel, rfl, by decide +kernel, by decide +kernel⟩
def b__law_whole : SF := (sRet (eAnd (e1 (gIsi "int") (eV 0)) (eNot (e1 (gIsi "bool") (eV 0)))))
def den__law_whole : List D → Option D := fnD [.A] 0 false b__law_whole
abbrev nm_law : List Str := ["_law_script", "_law_x", "_law_y", "_law_row", "_law_step", "_law_due", "_law_found", "_law_k"]
theorem sc_law : FnScope nm_law ["_law_script"] (defScope (topS 5)) := ⟨rfl, rfl, rfl, by decide +kernel, rfl, by decide +kernel, by decide +kernel⟩
def b_law : SF := (sSeq (sSet 1 (e2 gMod (eCall den__law_cell (aCons (eV 0) (aCons (eK (.int 0)) aNil))) (eK (.int 101))))
 (sSeq (sSet 2 (e2 gMod (eCall den__law_cell (aCons (eV 0) (aCons (eK (.int 1)) aNil))) (eK (.int 105))))
 (sSeq (sIf (t2b (e2 gEqS (e2 gMod (eCall den__law_cell (aCons (eV 0) (aCons (eK (.int 2)) aNil))) (eK (.int 2))) (eK (.int 1)))) (sSeq (sSet 1 (e2 gMod (eCall den__law_cell (aCons (eV 0) (aCons (eK (.int 0)) aNil))) (eK (.int 13))))
 (sSet 2 (e2 gMod (eCall den__law_cell (aCons (eV 0) (aCons (eK (.int 1)) aNil))) (eK (.int 13))))) sNil)
 (sSeq (sSet 3 (eLst (aCons (eK (.int 1)) aNil)))
 (sSeq (sFor (iRg1 (eV 1)) (tgN 4) (sSet 3 (e2 gCat (e2 gCat (eLst (aCons (eK (.int 1)) aNil)) (eComp (iRg1 (e2 gSbI (e1 gLen (eV 3)) (eK (.int 1)))) (tgN 7) tTrue (e2 gAdd (e2 gIx (eV 3) (eV 7)) (e2 gIx (eV 3) (e2 gAdd (eV 7) (eK (.int 1))))))) (eLst (aCons (eK (.int 1)) aNil)))) [4, 7])
 (sSeq (sSet 5 (eK (.int 0)))
 (sSeq (sIf (t2b (e2 gLe (eV 2) (eV 1))) (sSet 5 (e2 gIx (eV 3) (eV 2))) sNil)
 (sSeq (sSet 6 (eCall den_chosen (aCons (eV 1) (aCons (eV 2) aNil))))
 (sRet (eAnd (eCall den__law_whole (aCons (eV 6) aNil)) (eAnd (e2 gEqS (eV 6) (eV 5)) (eAnd (e2 gEqS (eCall den_chosen (aCons (eV 1) (aCons (eV 1) aNil))) (eK (.int 1))) (e2 gEqS (eCall den_chosen (aCons (eV 1) (aCons (e2 gAdd (eV 1) (eK (.int 1))) aNil))) (eK (.int 0)))))))))))))))
def den_law : List D → Option D := fnD [.U] 7 false b_law
theorem sm9_1 : small 9000 1 := by decide
theorem sm6_1 : small 62 1 := by decide
theorem sm4_1 : small 64 1 := by decide
theorem sm1_1 : small 10 1 := by decide
theorem mk_1 (i : Int) : mulOk i 1 := .inr (.inl (by decide))
theorem mj_1 (i : Int) : mulOk 1 i := .inl (by decide)
theorem sm9_2 : small 9000 2 := by decide
theorem sm6_2 : small 62 2 := by decide
theorem sm4_2 : small 64 2 := by decide
theorem sm1_2 : small 10 2 := by decide
theorem mk_2 (i : Int) : mulOk i 2 := .inr (.inl (by decide))
theorem mj_2 (i : Int) : mulOk 2 i := .inl (by decide)
theorem sm9_10 : small 9000 10 := by decide
theorem sm6_10 : small 62 10 := by decide
theorem sm4_10 : small 64 10 := by decide
theorem sm1_10 : small 10 10 := by decide
theorem mk_10 (i : Int) : mulOk i 10 := .inr (.inl (by decide))
theorem mj_10 (i : Int) : mulOk 10 i := .inl (by decide)
theorem sm9_13 : small 9000 13 := by decide
theorem sm6_13 : small 62 13 := by decide
theorem sm4_13 : small 64 13 := by decide
theorem sm1_13 : small 10 13 := by decide
theorem mk_13 (i : Int) : mulOk i 13 := .inr (.inl (by decide))
theorem mj_13 (i : Int) : mulOk 13 i := .inl (by decide)
theorem sm9_60 : small 9000 60 := by decide
theorem sm6_60 : small 62 60 := by decide
theorem sm4_60 : small 64 60 := by decide
theorem sm1_60 : small 10 60 := by decide
theorem mk_60 (i : Int) : mulOk i 60 := .inr (.inl (by decide))
theorem mj_60 (i : Int) : mulOk 60 i := .inl (by decide)
theorem sm9_101 : small 9000 101 := by decide
theorem sm6_101 : small 62 101 := by decide
theorem sm4_101 : small 64 101 := by decide
theorem sm1_101 : small 10 101 := by decide
theorem mk_101 (i : Int) : mulOk i 101 := .inr (.inl (by decide))
theorem mj_101 (i : Int) : mulOk 101 i := .inl (by decide)
theorem sm9_105 : small 9000 105 := by decide
theorem sm6_105 : small 62 105 := by decide
theorem sm4_105 : small 64 105 := by decide
theorem sm1_105 : small 10 105 := by decide
theorem mk_105 (i : Int) : mulOk i 105 := .inr (.inl (by decide))
theorem mj_105 (i : Int) : mulOk 105 i := .inl (by decide)
theorem sm9_7919 : small 9000 7919 := by decide
theorem sm6_7919 : small 62 7919 := by decide
theorem sm4_7919 : small 64 7919 := by decide
theorem mk_7919 (i : Int) : mulOk i 7919 := .inr (.inl (by decide))
theorem mj_7919 (i : Int) : mulOk 7919 i := .inl (by decide)
theorem sm9_2305843009213693951 : small 9000 2305843009213693951 := by decide
theorem sm6_2305843009213693951 : small 62 2305843009213693951 := by decide
theorem sm4_2305843009213693951 : small 64 2305843009213693951 := by decide
theorem mk_2305843009213693951 (i : Int) : mulOk i 2305843009213693951 := .inr (.inl (by decide))
theorem mj_2305843009213693951 (i : Int) : mulOk 2305843009213693951 i := .inl (by decide)
theorem sm9_6364136223846793005 : small 9000 6364136223846793005 := by decide
theorem sm4_6364136223846793005 : small 64 6364136223846793005 := by decide
theorem mk_6364136223846793005 (i : Int) : mulOk i 6364136223846793005 := .inr (.inl (by decide))
theorem mj_6364136223846793005 (i : Int) : mulOk 6364136223846793005 i := .inl (by decide)
local macro_rules | `(tactic| walk_at "ev") => `(tactic| simp only [fnD, chks, PKn.chk, D.lf, D.lfs, sSeq, sNil, sIf, sRet, sSet, sDrop, sFor, sThen, sPar, sTg, sApp, sExt, sRev, sClr, sPut, sWhile, clrs, eK, eV, e1, e2, eA, eAnd, eOr, eNot, eIf, eTup, eLst, eCall, eSl, oNo, oYes, aNil, aCons, t2b, b2e, bAnd, bOr, bNot, t2t, tTrue, iSeq, iTupD, iRg1, iRg2, tgN, tgT, setAll, i1, i2, gAdd, gSbI, gMul, gDiv, gMod, gPow, gAnd, gOr, gXor, gNeg, gLt, gLe, gGt, gGe, gEqS, gNeS, gAbs, gLen, gIx, gIxT, gCat, gList, gListT, gTuple, gSlL, gSlT, gCatT, gSum, gAll, gAny, gInT, Option.bind_some, Option.bind_none, Option.map_some, List.getElem?_cons_zero, List.getElem?_cons_succ, List.set_cons_zero, List.set_cons_succ, List.replicate, List.cons_append, List.nil_append, Bool.and_true, Bool.true_and, Bool.and_false, Bool.false_and, if_true, if_false, reduceIte, Bool.false_eq_true, List.length_cons, List.length_nil, Bool.not_true, Bool.not_false, decide_true, decide_false, ite_true, ite_false, Bool.not_eq_true, Bool.not_eq_false, decide_eq_true_eq, Nat.reduceAdd, Nat.reduceLeDiff, Int.reduceLT, Int.reduceLE, Int.reduceNeg, Int.reduceAdd, Int.reduceSub, Int.reduceMul, Int.reduceMod, Int.reduceDiv, Nat.reduceLT, Int.reduceEq, Nat.reduceEqDiff, true_and, and_true, and_self, false_and, and_false, not_true_eq_false, not_false_eq_true, Bool.or_true, Bool.true_or, Bool.or_false, Bool.false_or, Int.reducePow, Int.reduceToNat, Bool.not_not, sm9_1, sm6_1, sm4_1, sm1_1, mk_1, mj_1, sm9_2, sm6_2, sm4_2, sm1_2, mk_2, mj_2, sm9_10, sm6_10, sm4_10, sm1_10, mk_10, mj_10, sm9_13, sm6_13, sm4_13, sm1_13, mk_13, mj_13, sm9_60, sm6_60, sm4_60, sm1_60, mk_60, mj_60, sm9_101, sm6_101, sm4_101, sm1_101, mk_101, mj_101, sm9_105, sm6_105, sm4_105, sm1_105, mk_105, mj_105, sm9_7919, sm6_7919, sm4_7919, mk_7919, mj_7919, sm9_2305843009213693951, sm6_2305843009213693951, sm4_2305843009213693951, mk_2305843009213693951, mj_2305843009213693951, sm9_6364136223846793005, sm4_6364136223846793005, mk_6364136223846793005, mj_6364136223846793005])
local macro_rules | `(tactic| walk_at "st") => `(tactic| (apply st_nx; focus (simp only [fnD, chks, PKn.chk, D.lf, D.lfs, sSeq, sNil, sIf, sRet, sSet, sDrop, sFor, sThen, sPar, sTg, sApp, sExt, sRev, sClr, sPut, sWhile, clrs, eK, eV, e1, e2, eA, eAnd, eOr, eNot, eIf, eTup, eLst, eCall, eSl, oNo, oYes, aNil, aCons, t2b, b2e, bAnd, bOr, bNot, t2t, tTrue, iSeq, iTupD, iRg1, iRg2, tgN, tgT, setAll, i1, i2, gAdd, gSbI, gMul, gDiv, gMod, gPow, gAnd, gOr, gXor, gNeg, gLt, gLe, gGt, gGe, gEqS, gNeS, gAbs, gLen, gIx, gIxT, gCat, gList, gListT, gTuple, gSlL, gSlT, gCatT, gSum, gAll, gAny, gInT, Option.bind_some, Option.bind_none, Option.map_some, List.getElem?_cons_zero, List.getElem?_cons_succ, List.set_cons_zero, List.set_cons_succ, List.replicate, List.cons_append, List.nil_append, Bool.and_true, Bool.true_and, Bool.and_false, Bool.false_and, if_true, if_false, reduceIte, Bool.false_eq_true, List.length_cons, List.length_nil, Bool.not_true, Bool.not_false, decide_true, decide_false, ite_true, ite_false, Bool.not_eq_true, Bool.not_eq_false, decide_eq_true_eq, Nat.reduceAdd, Nat.reduceLeDiff, Int.reduceLT, Int.reduceLE, Int.reduceNeg, Int.reduceAdd, Int.reduceSub, Int.reduceMul, Int.reduceMod, Int.reduceDiv, Nat.reduceLT, Int.reduceEq, Nat.reduceEqDiff, true_and, and_true, and_self, false_and, and_false, not_true_eq_false, not_false_eq_true, Bool.or_true, Bool.true_or, Bool.or_false, Bool.false_or, Int.reducePow, Int.reduceToNat, Bool.not_not, sm9_1, sm6_1, sm4_1, sm1_1, mk_1, mj_1, sm9_2, sm6_2, sm4_2, sm1_2, mk_2, mj_2, sm9_10, sm6_10, sm4_10, sm1_10, mk_10, mj_10, sm9_13, sm6_13, sm4_13, sm1_13, mk_13, mj_13, sm9_60, sm6_60, sm4_60, sm1_60, mk_60, mj_60, sm9_101, sm6_101, sm4_101, sm1_101, mk_101, mj_101, sm9_105, sm6_105, sm4_105, sm1_105, mk_105, mj_105, sm9_7919, sm6_7919, sm4_7919, mk_7919, mj_7919, sm9_2305843009213693951, sm6_2305843009213693951, sm4_2305843009213693951, mk_2305843009213693951, mj_2305843009213693951, sm9_6364136223846793005, sm4_6364136223846793005, mk_6364136223846793005, mj_6364136223846793005]; try rfl)))
def choose : Nat → Nat → Nat
  | _, 0 => 1
  | 0, _ + 1 => 0
  | n + 1, k + 1 => choose n k + choose n (k + 1)
theorem choose_zero (n : Nat) : choose n 0 = 1 := by cases n <;> rfl
theorem choose_gt : ∀ (n k : Nat), n < k → choose n k = 0
  | _, 0, h => by omega
  | 0, _ + 1, _ => rfl
  | n + 1, k + 1, h => by
    show choose n k + choose n (k + 1) = 0
    rw [choose_gt n k (by omega), choose_gt n (k + 1) (by omega)]
theorem choose_self : ∀ n : Nat, choose n n = 1
  | 0 => rfl
  | n + 1 => by
    show choose n n + choose n (n + 1) = 1
    rw [choose_self n, choose_gt n (n + 1) (by omega)]
theorem choose_step : ∀ (n k : Nat), choose n (k + 1) * (k + 1) = choose n k * (n - k)
  | 0, 0 => rfl
  | 0, k + 1 => by simp [choose]
  | n + 1, 0 => by
    have h := choose_step n 0
    have e : choose (n + 1) 1 = choose n 0 + choose n 1 := rfl
    rw [choose_zero] at h e ⊢
    simp only [Nat.zero_add, Nat.sub_zero, Nat.one_mul, Nat.mul_one] at h e ⊢
    omega
  | n + 1, k + 1 => by
    have h1 := choose_step n k
    have h2 := choose_step n (k + 1)
    show (choose n (k + 1) + choose n (k + 2)) * (k + 1 + 1) = (choose n k + choose n (k + 1)) * (n + 1 - (k + 1))
    rw [Nat.add_mul, h2, show n + 1 - (k + 1) = n - k by omega, Nat.add_mul, ← h1]
    by_cases hk : k < n
    · have e : n - k = (n - (k + 1)) + 1 := by omega
      rw [e]
      generalize choose n (k + 1) = c
      generalize n - (k + 1) = m
      rw [Nat.mul_add, Nat.mul_add, Nat.mul_add]
      omega
    · rw [choose_gt n (k + 1) (by omega)]
      simp
theorem choose_le : ∀ (n k : Nat), choose n k ≤ 2 ^ n
  | n, 0 => by rw [choose_zero]; exact Nat.one_le_two_pow
  | 0, k + 1 => Nat.zero_le _
  | n + 1, k + 1 => by
    show choose n k + choose n (k + 1) ≤ 2 ^ (n + 1)
    have h1 := choose_le n k
    have h2 := choose_le n (k + 1)
    rw [Nat.pow_succ]
    omega
theorem chosen_eq (x y : Nat) (hx : x ≤ 100) (hy : y ≤ 1000) : den_chosen [.int x, .int y] = some (.int (choose x y)) := by
  refine fnD_rt rfl ?_
  unfold b_chosen
  by_cases h : x < y
  · rw [choose_gt x y h]
    refine seq_rt ?_
    simp only [fnD, chks, PKn.chk, D.lf, D.lfs, sSeq, sNil, sIf, sRet, sSet, sDrop, sFor, sThen, sPar, sTg, sApp, sExt, sRev, sClr, sPut, sWhile, clrs, eK, eV, e1, e2, eA, eAnd, eOr, eNot, eIf, eTup, eLst, eCall, eSl, oNo, oYes, aNil, aCons, t2b, b2e, bAnd, bOr, bNot, t2t, tTrue, iSeq, iTupD, iRg1, iRg2, tgN, tgT, setAll, i1, i2, gAdd, gSbI, gMul, gDiv, gMod, gPow, gAnd, gOr, gXor, gNeg, gLt, gLe, gGt, gGe, gEqS, gNeS, gAbs, gLen, gIx, gIxT, gCat, gList, gListT, gTuple, gSlL, gSlT, gCatT, gSum, gAll, gAny, gInT, Option.bind_some, Option.bind_none, Option.map_some, List.getElem?_cons_zero, List.getElem?_cons_succ, List.set_cons_zero, List.set_cons_succ, List.replicate, List.cons_append, List.nil_append, Bool.and_true, Bool.true_and, Bool.and_false, Bool.false_and, if_true, if_false, reduceIte, Bool.false_eq_true, List.length_cons, List.length_nil, Bool.not_true, Bool.not_false, decide_true, decide_false, ite_true, ite_false, Bool.not_eq_true, Bool.not_eq_false, decide_eq_true_eq, Nat.reduceAdd, Nat.reduceLeDiff, Int.reduceLT, Int.reduceLE, Int.reduceNeg, Int.reduceAdd, Int.reduceSub, Int.reduceMul, Int.reduceMod, Int.reduceDiv, Nat.reduceLT, Int.reduceEq, Nat.reduceEqDiff, true_and, and_true, and_self, false_and, and_false, not_true_eq_false, not_false_eq_true, Bool.or_true, Bool.true_or, Bool.or_false, Bool.false_or, Int.reducePow, Int.reduceToNat, Bool.not_not, sm9_1, sm6_1, sm4_1, sm1_1, mk_1, mj_1, sm9_2, sm6_2, sm4_2, sm1_2, mk_2, mj_2, sm9_10, sm6_10, sm4_10, sm1_10, mk_10, mj_10, sm9_13, sm6_13, sm4_13, sm1_13, mk_13, mj_13, sm9_60, sm6_60, sm4_60, sm1_60, mk_60, mj_60, sm9_101, sm6_101, sm4_101, sm1_101, mk_101, mj_101, sm9_105, sm6_105, sm4_105, sm1_105, mk_105, mj_105, sm9_7919, sm6_7919, sm4_7919, mk_7919, mj_7919, sm9_2305843009213693951, sm6_2305843009213693951, sm4_2305843009213693951, mk_2305843009213693951, mj_2305843009213693951, sm9_6364136223846793005, sm4_6364136223846793005, mk_6364136223846793005, mj_6364136223846793005, show ((x : Int) < (y : Int)) from by omega]
    rfl
  · have h1 : ¬ ((x : Int) < (y : Int)) := by omega
    (apply st_nx; · (simp only [fnD, chks, PKn.chk, D.lf, D.lfs, sSeq, sNil, sIf, sRet, sSet, sDrop, sFor, sThen, sPar, sTg, sApp, sExt, sRev, sClr, sPut, sWhile, clrs, eK, eV, e1, e2, eA, eAnd, eOr, eNot, eIf, eTup, eLst, eCall, eSl, oNo, oYes, aNil, aCons, t2b, b2e, bAnd, bOr, bNot, t2t, tTrue, iSeq, iTupD, iRg1, iRg2, tgN, tgT, setAll, i1, i2, gAdd, gSbI, gMul, gDiv, gMod, gPow, gAnd, gOr, gXor, gNeg, gLt, gLe, gGt, gGe, gEqS, gNeS, gAbs, gLen, gIx, gIxT, gCat, gList, gListT, gTuple, gSlL, gSlT, gCatT, gSum, gAll, gAny, gInT, Option.bind_some, Option.bind_none, Option.map_some, List.getElem?_cons_zero, List.getElem?_cons_succ, List.set_cons_zero, List.set_cons_succ, List.replicate, List.cons_append, List.nil_append, Bool.and_true, Bool.true_and, Bool.and_false, Bool.false_and, if_true, if_false, reduceIte, Bool.false_eq_true, List.length_cons, List.length_nil, Bool.not_true, Bool.not_false, decide_true, decide_false, ite_true, ite_false, Bool.not_eq_true, Bool.not_eq_false, decide_eq_true_eq, Nat.reduceAdd, Nat.reduceLeDiff, Int.reduceLT, Int.reduceLE, Int.reduceNeg, Int.reduceAdd, Int.reduceSub, Int.reduceMul, Int.reduceMod, Int.reduceDiv, Nat.reduceLT, Int.reduceEq, Nat.reduceEqDiff, true_and, and_true, and_self, false_and, and_false, not_true_eq_false, not_false_eq_true, Bool.or_true, Bool.true_or, Bool.or_false, Bool.false_or, Int.reducePow, Int.reduceToNat, Bool.not_not, sm9_1, sm6_1, sm4_1, sm1_1, mk_1, mj_1, sm9_2, sm6_2, sm4_2, sm1_2, mk_2, mj_2, sm9_10, sm6_10, sm4_10, sm1_10, mk_10, mj_10, sm9_13, sm6_13, sm4_13, sm1_13, mk_13, mj_13, sm9_60, sm6_60, sm4_60, sm1_60, mk_60, mj_60, sm9_101, sm6_101, sm4_101, sm1_101, mk_101, mj_101, sm9_105, sm6_105, sm4_105, sm1_105, mk_105, mj_105, sm9_7919, sm6_7919, sm4_7919, mk_7919, mj_7919, sm9_2305843009213693951, sm6_2305843009213693951, sm4_2305843009213693951, mk_2305843009213693951, mj_2305843009213693951, sm9_6364136223846793005, sm4_6364136223846793005, mk_6364136223846793005, mj_6364136223846793005, h1]; try rfl))
    walk_at "st"
    apply st_nx
    · refine (for_eq (items := rangeD 0 y) ?_).trans ?_
      · walk_at "ev"
        rw [if_pos (small_b (by omega) (by omega))]
      · rw [rangeD_nat]
        refine loop_inv (fun i => [.int x, .int y, .int (choose x i), .non]) y (by simp) (by rw [choose_zero]; rfl) fun i hi d hd => ?_
        rw [List.getElem?_map, List.getElem?_range hi] at hd
        cases hd
        have h3 := choose_step x i
        have h4 : (((choose x i : Nat) : Int) * ((x : Int) - (i : Int))) / ((i : Int) + 1) = ((choose x (i + 1) : Nat) : Int) := by
          have h5 : ((choose x (i + 1) : Nat) : Int) * ((i : Int) + 1) = ((choose x i : Nat) : Int) * ((x : Int) - (i : Int)) := by
            have h6 : (((choose x (i + 1) * (i + 1) : Nat)) : Int) = ((choose x i * (x - i) : Nat) : Int) := by rw [h3]
            rw [Int.natCast_mul, Int.natCast_mul, Int.natCast_add, Int.natCast_sub (by omega)] at h6
            exact h6
          rw [← h5, Int.mul_ediv_cancel _ (by omega)]
        refine ⟨_, [.int x, .int y, .int (choose x (i + 1)), .int i], rfl, .inl ?_, rfl⟩
        walk_at "ev"
        rw [if_pos (mulOk_r (by omega) (by omega))]
        walk_at "ev"
        rw [if_pos (divOk (by omega) (by omega)), h4]
        rfl
    · rfl
theorem cell_ex (ns : List Int) (k : Nat) : ∃ c, den__law_cell [.scr (ns.map .int), .int k] = some (.int c) := by
  have fin : ∀ (d : D), (∃ c, d = .int c) → b__law_cell [.scr (ns.map .int), .int k, .non, .non] = some (.rt d) → ∃ c, den__law_cell [.scr (ns.map .int), .int k] = some (.int c) := fun d ⟨c, e⟩ h => ⟨c, e ▸ fnD_rt rfl h⟩
  have ret : (∃ c, eIf (t2b (e2 gLt (eV 1) (e1 gLen (eV 0)))) (eA (e2 gIx (eV 0) (eV 1))) (eK (.int 0)) [.scr (ns.map .int), .int k, .non, .non] = some (.int c)) := by
    by_cases h : k < ns.length
    · obtain ⟨c, hc⟩ := atI_ints (ns := ns) (i := k) (by omega) (by omega)
      refine ⟨c, ?_⟩
      have h' : (k : Int) < ns.length := by omega
      simp only [fnD, chks, PKn.chk, D.lf, D.lfs, sSeq, sNil, sIf, sRet, sSet, sDrop, sFor, sThen, sPar, sTg, sApp, sExt, sRev, sClr, sPut, sWhile, clrs, eK, eV, e1, e2, eA, eAnd, eOr, eNot, eIf, eTup, eLst, eCall, eSl, oNo, oYes, aNil, aCons, t2b, b2e, bAnd, bOr, bNot, t2t, tTrue, iSeq, iTupD, iRg1, iRg2, tgN, tgT, setAll, i1, i2, gAdd, gSbI, gMul, gDiv, gMod, gPow, gAnd, gOr, gXor, gNeg, gLt, gLe, gGt, gGe, gEqS, gNeS, gAbs, gLen, gIx, gIxT, gCat, gList, gListT, gTuple, gSlL, gSlT, gCatT, gSum, gAll, gAny, gInT, Option.bind_some, Option.bind_none, Option.map_some, List.getElem?_cons_zero, List.getElem?_cons_succ, List.set_cons_zero, List.set_cons_succ, List.replicate, List.cons_append, List.nil_append, Bool.and_true, Bool.true_and, Bool.and_false, Bool.false_and, if_true, if_false, reduceIte, Bool.false_eq_true, List.length_cons, List.length_nil, Bool.not_true, Bool.not_false, decide_true, decide_false, ite_true, ite_false, Bool.not_eq_true, Bool.not_eq_false, decide_eq_true_eq, Nat.reduceAdd, Nat.reduceLeDiff, Int.reduceLT, Int.reduceLE, Int.reduceNeg, Int.reduceAdd, Int.reduceSub, Int.reduceMul, Int.reduceMod, Int.reduceDiv, Nat.reduceLT, Int.reduceEq, Nat.reduceEqDiff, true_and, and_true, and_self, false_and, and_false, not_true_eq_false, not_false_eq_true, Bool.or_true, Bool.true_or, Bool.or_false, Bool.false_or, Int.reducePow, Int.reduceToNat, Bool.not_not, sm9_1, sm6_1, sm4_1, sm1_1, mk_1, mj_1, sm9_2, sm6_2, sm4_2, sm1_2, mk_2, mj_2, sm9_10, sm6_10, sm4_10, sm1_10, mk_10, mj_10, sm9_13, sm6_13, sm4_13, sm1_13, mk_13, mj_13, sm9_60, sm6_60, sm4_60, sm1_60, mk_60, mj_60, sm9_101, sm6_101, sm4_101, sm1_101, mk_101, mj_101, sm9_105, sm6_105, sm4_105, sm1_105, mk_105, mj_105, sm9_7919, sm6_7919, sm4_7919, mk_7919, mj_7919, sm9_2305843009213693951, sm6_2305843009213693951, sm4_2305843009213693951, mk_2305843009213693951, mj_2305843009213693951, sm9_6364136223846793005, sm4_6364136223846793005, mk_6364136223846793005, mj_6364136223846793005, List.length_map, h', hc]
    · have h' : ¬ (k : Int) < ns.length := by omega
      exact ⟨0, by simp only [fnD, chks, PKn.chk, D.lf, D.lfs, sSeq, sNil, sIf, sRet, sSet, sDrop, sFor, sThen, sPar, sTg, sApp, sExt, sRev, sClr, sPut, sWhile, clrs, eK, eV, e1, e2, eA, eAnd, eOr, eNot, eIf, eTup, eLst, eCall, eSl, oNo, oYes, aNil, aCons, t2b, b2e, bAnd, bOr, bNot, t2t, tTrue, iSeq, iTupD, iRg1, iRg2, tgN, tgT, setAll, i1, i2, gAdd, gSbI, gMul, gDiv, gMod, gPow, gAnd, gOr, gXor, gNeg, gLt, gLe, gGt, gGe, gEqS, gNeS, gAbs, gLen, gIx, gIxT, gCat, gList, gListT, gTuple, gSlL, gSlT, gCatT, gSum, gAll, gAny, gInT, Option.bind_some, Option.bind_none, Option.map_some, List.getElem?_cons_zero, List.getElem?_cons_succ, List.set_cons_zero, List.set_cons_succ, List.replicate, List.cons_append, List.nil_append, Bool.and_true, Bool.true_and, Bool.and_false, Bool.false_and, if_true, if_false, reduceIte, Bool.false_eq_true, List.length_cons, List.length_nil, Bool.not_true, Bool.not_false, decide_true, decide_false, ite_true, ite_false, Bool.not_eq_true, Bool.not_eq_false, decide_eq_true_eq, Nat.reduceAdd, Nat.reduceLeDiff, Int.reduceLT, Int.reduceLE, Int.reduceNeg, Int.reduceAdd, Int.reduceSub, Int.reduceMul, Int.reduceMod, Int.reduceDiv, Nat.reduceLT, Int.reduceEq, Nat.reduceEqDiff, true_and, and_true, and_self, false_and, and_false, not_true_eq_false, not_false_eq_true, Bool.or_true, Bool.true_or, Bool.or_false, Bool.false_or, Int.reducePow, Int.reduceToNat, Bool.not_not, sm9_1, sm6_1, sm4_1, sm1_1, mk_1, mj_1, sm9_2, sm6_2, sm4_2, sm1_2, mk_2, mj_2, sm9_10, sm6_10, sm4_10, sm1_10, mk_10, mj_10, sm9_13, sm6_13, sm4_13, sm1_13, mk_13, mj_13, sm9_60, sm6_60, sm4_60, sm1_60, mk_60, mj_60, sm9_101, sm6_101, sm4_101, sm1_101, mk_101, mj_101, sm9_105, sm6_105, sm4_105, sm1_105, mk_105, mj_105, sm9_7919, sm6_7919, sm4_7919, mk_7919, mj_7919, sm9_2305843009213693951, sm6_2305843009213693951, sm4_2305843009213693951, mk_2305843009213693951, mj_2305843009213693951, sm9_6364136223846793005, sm4_6364136223846793005, mk_6364136223846793005, mj_6364136223846793005, List.length_map, h']⟩
  obtain ⟨c, hc⟩ := ret
  cases ns with
  | nil => exact fin _ ⟨c, rfl⟩ (by unfold b__law_cell; refine seq_rt ((if_t rfl).trans ?_); unfold sRet; rw [hc]; rfl)
  | cons a r =>
    by_cases h : a % 2 = 0
    · refine fin _ ⟨c, rfl⟩ ?_
      unfold b__law_cell
      refine seq_rt ((if_t ?_).trans (by unfold sRet; rw [hc]; rfl))
      have h2 : ¬ (((r.length + 1 : Nat) : Int) = 0) := by omega
      have h3 : atI (List.map D.int (a :: r)) 0 = some (.int a) := atI_zero _ _
      simp only [fnD, chks, PKn.chk, D.lf, D.lfs, sSeq, sNil, sIf, sRet, sSet, sDrop, sFor, sThen, sPar, sTg, sApp, sExt, sRev, sClr, sPut, sWhile, clrs, eK, eV, e1, e2, eA, eAnd, eOr, eNot, eIf, eTup, eLst, eCall, eSl, oNo, oYes, aNil, aCons, t2b, b2e, bAnd, bOr, bNot, t2t, tTrue, iSeq, iTupD, iRg1, iRg2, tgN, tgT, setAll, i1, i2, gAdd, gSbI, gMul, gDiv, gMod, gPow, gAnd, gOr, gXor, gNeg, gLt, gLe, gGt, gGe, gEqS, gNeS, gAbs, gLen, gIx, gIxT, gCat, gList, gListT, gTuple, gSlL, gSlT, gCatT, gSum, gAll, gAny, gInT, Option.bind_some, Option.bind_none, Option.map_some, List.getElem?_cons_zero, List.getElem?_cons_succ, List.set_cons_zero, List.set_cons_succ, List.replicate, List.cons_append, List.nil_append, Bool.and_true, Bool.true_and, Bool.and_false, Bool.false_and, if_true, if_false, reduceIte, Bool.false_eq_true, List.length_cons, List.length_nil, Bool.not_true, Bool.not_false, decide_true, decide_false, ite_true, ite_false, Bool.not_eq_true, Bool.not_eq_false, decide_eq_true_eq, Nat.reduceAdd, Nat.reduceLeDiff, Int.reduceLT, Int.reduceLE, Int.reduceNeg, Int.reduceAdd, Int.reduceSub, Int.reduceMul, Int.reduceMod, Int.reduceDiv, Nat.reduceLT, Int.reduceEq, Nat.reduceEqDiff, true_and, and_true, and_self, false_and, and_false, not_true_eq_false, not_false_eq_true, Bool.or_true, Bool.true_or, Bool.or_false, Bool.false_or, Int.reducePow, Int.reduceToNat, Bool.not_not, sm9_1, sm6_1, sm4_1, sm1_1, mk_1, mj_1, sm9_2, sm6_2, sm4_2, sm1_2, mk_2, mj_2, sm9_10, sm6_10, sm4_10, sm1_10, mk_10, mj_10, sm9_13, sm6_13, sm4_13, sm1_13, mk_13, mj_13, sm9_60, sm6_60, sm4_60, sm1_60, mk_60, mj_60, sm9_101, sm6_101, sm4_101, sm1_101, mk_101, mj_101, sm9_105, sm6_105, sm4_105, sm1_105, mk_105, mj_105, sm9_7919, sm6_7919, sm4_7919, mk_7919, mj_7919, sm9_2305843009213693951, sm6_2305843009213693951, sm4_2305843009213693951, mk_2305843009213693951, mj_2305843009213693951, sm9_6364136223846793005, sm4_6364136223846793005, mk_6364136223846793005, mj_6364136223846793005, List.length_map, h3, h]
      simp only [h2, fnD, chks, PKn.chk, D.lf, D.lfs, sSeq, sNil, sIf, sRet, sSet, sDrop, sFor, sThen, sPar, sTg, sApp, sExt, sRev, sClr, sPut, sWhile, clrs, eK, eV, e1, e2, eA, eAnd, eOr, eNot, eIf, eTup, eLst, eCall, eSl, oNo, oYes, aNil, aCons, t2b, b2e, bAnd, bOr, bNot, t2t, tTrue, iSeq, iTupD, iRg1, iRg2, tgN, tgT, setAll, i1, i2, gAdd, gSbI, gMul, gDiv, gMod, gPow, gAnd, gOr, gXor, gNeg, gLt, gLe, gGt, gGe, gEqS, gNeS, gAbs, gLen, gIx, gIxT, gCat, gList, gListT, gTuple, gSlL, gSlT, gCatT, gSum, gAll, gAny, gInT, Option.bind_some, Option.bind_none, Option.map_some, List.getElem?_cons_zero, List.getElem?_cons_succ, List.set_cons_zero, List.set_cons_succ, List.replicate, List.cons_append, List.nil_append, Bool.and_true, Bool.true_and, Bool.and_false, Bool.false_and, if_true, if_false, reduceIte, Bool.false_eq_true, List.length_cons, List.length_nil, Bool.not_true, Bool.not_false, decide_true, decide_false, ite_true, ite_false, Bool.not_eq_true, Bool.not_eq_false, decide_eq_true_eq, Nat.reduceAdd, Nat.reduceLeDiff, Int.reduceLT, Int.reduceLE, Int.reduceNeg, Int.reduceAdd, Int.reduceSub, Int.reduceMul, Int.reduceMod, Int.reduceDiv, Nat.reduceLT, Int.reduceEq, Nat.reduceEqDiff, true_and, and_true, and_self, false_and, and_false, not_true_eq_false, not_false_eq_true, Bool.or_true, Bool.true_or, Bool.or_false, Bool.false_or, Int.reducePow, Int.reduceToNat, Bool.not_not, sm9_1, sm6_1, sm4_1, sm1_1, mk_1, mj_1, sm9_2, sm6_2, sm4_2, sm1_2, mk_2, mj_2, sm9_10, sm6_10, sm4_10, sm1_10, mk_10, mj_10, sm9_13, sm6_13, sm4_13, sm1_13, mk_13, mj_13, sm9_60, sm6_60, sm4_60, sm1_60, mk_60, mj_60, sm9_101, sm6_101, sm4_101, sm1_101, mk_101, mj_101, sm9_105, sm6_105, sm4_105, sm1_105, mk_105, mj_105, sm9_7919, sm6_7919, sm4_7919, mk_7919, mj_7919, sm9_2305843009213693951, sm6_2305843009213693951, sm4_2305843009213693951, mk_2305843009213693951, mj_2305843009213693951, sm9_6364136223846793005, sm4_6364136223846793005, mk_6364136223846793005, mj_6364136223846793005, h]
    · obtain ⟨v, hv⟩ := atI_ints (ns := a :: r) (i := (k : Int) % ((a :: r).length : Int)) (Int.emod_nonneg _ (by rw [List.length_cons]; omega)) (Int.emod_lt_of_pos _ (by rw [List.length_cons]; omega))
      refine fin (.int (v % 10 ^ 60 / 2305843009213693951 * 2305843009213693951 + (v + 7919 * ((k : Int) + 1)) * 6364136223846793005 % 2305843009213693951)) ⟨_, rfl⟩ ?_
      unfold b__law_cell
      have h2 : ¬ (((r.length + 1 : Nat) : Int) = 0) := by omega
      have h3 : atI (List.map D.int (a :: r)) 0 = some (.int a) := atI_zero _ _
      (apply st_nx; · (simp only [fnD, chks, PKn.chk, D.lf, D.lfs, sSeq, sNil, sIf, sRet, sSet, sDrop, sFor, sThen, sPar, sTg, sApp, sExt, sRev, sClr, sPut, sWhile, clrs, eK, eV, e1, e2, eA, eAnd, eOr, eNot, eIf, eTup, eLst, eCall, eSl, oNo, oYes, aNil, aCons, t2b, b2e, bAnd, bOr, bNot, t2t, tTrue, iSeq, iTupD, iRg1, iRg2, tgN, tgT, setAll, i1, i2, gAdd, gSbI, gMul, gDiv, gMod, gPow, gAnd, gOr, gXor, gNeg, gLt, gLe, gGt, gGe, gEqS, gNeS, gAbs, gLen, gIx, gIxT, gCat, gList, gListT, gTuple, gSlL, gSlT, gCatT, gSum, gAll, gAny, gInT, Option.bind_some, Option.bind_none, Option.map_some, List.getElem?_cons_zero, List.getElem?_cons_succ, List.set_cons_zero, List.set_cons_succ, List.replicate, List.cons_append, List.nil_append, Bool.and_true, Bool.true_and, Bool.and_false, Bool.false_and, if_true, if_false, reduceIte, Bool.false_eq_true, List.length_cons, List.length_nil, Bool.not_true, Bool.not_false, decide_true, decide_false, ite_true, ite_false, Bool.not_eq_true, Bool.not_eq_false, decide_eq_true_eq, Nat.reduceAdd, Nat.reduceLeDiff, Int.reduceLT, Int.reduceLE, Int.reduceNeg, Int.reduceAdd, Int.reduceSub, Int.reduceMul, Int.reduceMod, Int.reduceDiv, Nat.reduceLT, Int.reduceEq, Nat.reduceEqDiff, true_and, and_true, and_self, false_and, and_false, not_true_eq_false, not_false_eq_true, Bool.or_true, Bool.true_or, Bool.or_false, Bool.false_or, Int.reducePow, Int.reduceToNat, Bool.not_not, sm9_1, sm6_1, sm4_1, sm1_1, mk_1, mj_1, sm9_2, sm6_2, sm4_2, sm1_2, mk_2, mj_2, sm9_10, sm6_10, sm4_10, sm1_10, mk_10, mj_10, sm9_13, sm6_13, sm4_13, sm1_13, mk_13, mj_13, sm9_60, sm6_60, sm4_60, sm1_60, mk_60, mj_60, sm9_101, sm6_101, sm4_101, sm1_101, mk_101, mj_101, sm9_105, sm6_105, sm4_105, sm1_105, mk_105, mj_105, sm9_7919, sm6_7919, sm4_7919, mk_7919, mj_7919, sm9_2305843009213693951, sm6_2305843009213693951, sm4_2305843009213693951, mk_2305843009213693951, mj_2305843009213693951, sm9_6364136223846793005, sm4_6364136223846793005, mk_6364136223846793005, mj_6364136223846793005, List.length_map, h3, h, h2]; try rfl))
      have h4 : (0 : Int) < ((r.length + 1 : Nat) : Int) := by omega
      have hv' : atI (List.map D.int (a :: r)) ((k : Int) % ((r.length + 1 : Nat) : Int)) = some (.int v) := hv
      (apply st_nx; · (simp only [fnD, chks, PKn.chk, D.lf, D.lfs, sSeq, sNil, sIf, sRet, sSet, sDrop, sFor, sThen, sPar, sTg, sApp, sExt, sRev, sClr, sPut, sWhile, clrs, eK, eV, e1, e2, eA, eAnd, eOr, eNot, eIf, eTup, eLst, eCall, eSl, oNo, oYes, aNil, aCons, t2b, b2e, bAnd, bOr, bNot, t2t, tTrue, iSeq, iTupD, iRg1, iRg2, tgN, tgT, setAll, i1, i2, gAdd, gSbI, gMul, gDiv, gMod, gPow, gAnd, gOr, gXor, gNeg, gLt, gLe, gGt, gGe, gEqS, gNeS, gAbs, gLen, gIx, gIxT, gCat, gList, gListT, gTuple, gSlL, gSlT, gCatT, gSum, gAll, gAny, gInT, Option.bind_some, Option.bind_none, Option.map_some, List.getElem?_cons_zero, List.getElem?_cons_succ, List.set_cons_zero, List.set_cons_succ, List.replicate, List.cons_append, List.nil_append, Bool.and_true, Bool.true_and, Bool.and_false, Bool.false_and, if_true, if_false, reduceIte, Bool.false_eq_true, List.length_cons, List.length_nil, Bool.not_true, Bool.not_false, decide_true, decide_false, ite_true, ite_false, Bool.not_eq_true, Bool.not_eq_false, decide_eq_true_eq, Nat.reduceAdd, Nat.reduceLeDiff, Int.reduceLT, Int.reduceLE, Int.reduceNeg, Int.reduceAdd, Int.reduceSub, Int.reduceMul, Int.reduceMod, Int.reduceDiv, Nat.reduceLT, Int.reduceEq, Nat.reduceEqDiff, true_and, and_true, and_self, false_and, and_false, not_true_eq_false, not_false_eq_true, Bool.or_true, Bool.true_or, Bool.or_false, Bool.false_or, Int.reducePow, Int.reduceToNat, Bool.not_not, sm9_1, sm6_1, sm4_1, sm1_1, mk_1, mj_1, sm9_2, sm6_2, sm4_2, sm1_2, mk_2, mj_2, sm9_10, sm6_10, sm4_10, sm1_10, mk_10, mj_10, sm9_13, sm6_13, sm4_13, sm1_13, mk_13, mj_13, sm9_60, sm6_60, sm4_60, sm1_60, mk_60, mj_60, sm9_101, sm6_101, sm4_101, sm1_101, mk_101, mj_101, sm9_105, sm6_105, sm4_105, sm1_105, mk_105, mj_105, sm9_7919, sm6_7919, sm4_7919, mk_7919, mj_7919, sm9_2305843009213693951, sm6_2305843009213693951, sm4_2305843009213693951, mk_2305843009213693951, mj_2305843009213693951, sm9_6364136223846793005, sm4_6364136223846793005, mk_6364136223846793005, mj_6364136223846793005, List.length_map, h4, hv']; try rfl))
      walk_at "st"
      walk_at "ev"
theorem whole_eq (i : Int) : den__law_whole [.int i] = some (.bl true) := rfl
/-- a row of the triangle -/
def row (n : Nat) : List Int := (List.range (n + 1)).map fun k => (choose n k : Int)
theorem row_at {n k : Nat} (h : k ≤ n) : atI ((row n).map D.int) (k : Int) = some (.int (choose n k)) := by
  unfold row
  rw [List.map_map]
  exact atI_mapN (by rw [List.getElem?_range (by omega)])
theorem row_len (n : Nat) : ((row n).map D.int).length = n + 1 := by unfold row; simp
theorem row_next (n : Nat) : [D.int 1] ++ (List.range n).map (fun k => D.int (choose (n + 1) (k + 1))) ++ [D.int 1] = (row (n + 1)).map D.int := by
  unfold row
  rw [List.map_map, List.range_succ, List.map_append, List.range_succ_eq_map, List.map_cons, List.map_map]
  have e1 : (D.int ∘ fun k => ((choose (n + 1) k : Nat) : Int)) 0 = D.int 1 := by show D.int (choose (n + 1) 0 : Nat) = _; rw [choose_zero]; rfl
  have e2 : List.map (D.int ∘ fun k => ((choose (n + 1) k : Nat) : Int)) [n + 1] = [D.int 1] := by show [D.int (choose (n + 1) (n + 1) : Nat)] = _; rw [choose_self]; rfl
  rw [e1, e2]
  rfl
theorem law_true : ∀ ns : List Int, ns.length ≤ 63 → den_law [.scr (ns.map .int)] = some (.bl true) := by
  intro ns _
  obtain ⟨c0, q0⟩ := cell_ex ns 0
  obtain ⟨c1, q1⟩ := cell_ex ns 1
  obtain ⟨c2, q2⟩ := cell_ex ns 2
  have p0 : den__law_cell [.scr (ns.map .int), .int 0] = some (.int c0) := q0
  have p1 : den__law_cell [.scr (ns.map .int), .int 1] = some (.int c1) := q1
  have p2 : den__law_cell [.scr (ns.map .int), .int 2] = some (.int c2) := q2
  refine fnD_rt rfl ?_
  unfold b_law
  (apply st_nx; · (simp only [fnD, chks, PKn.chk, D.lf, D.lfs, sSeq, sNil, sIf, sRet, sSet, sDrop, sFor, sThen, sPar, sTg, sApp, sExt, sRev, sClr, sPut, sWhile, clrs, eK, eV, e1, e2, eA, eAnd, eOr, eNot, eIf, eTup, eLst, eCall, eSl, oNo, oYes, aNil, aCons, t2b, b2e, bAnd, bOr, bNot, t2t, tTrue, iSeq, iTupD, iRg1, iRg2, tgN, tgT, setAll, i1, i2, gAdd, gSbI, gMul, gDiv, gMod, gPow, gAnd, gOr, gXor, gNeg, gLt, gLe, gGt, gGe, gEqS, gNeS, gAbs, gLen, gIx, gIxT, gCat, gList, gListT, gTuple, gSlL, gSlT, gCatT, gSum, gAll, gAny, gInT, Option.bind_some, Option.bind_none, Option.map_some, List.getElem?_cons_zero, List.getElem?_cons_succ, List.set_cons_zero, List.set_cons_succ, List.replicate, List.cons_append, List.nil_append, Bool.and_true, Bool.true_and, Bool.and_false, Bool.false_and, if_true, if_false, reduceIte, Bool.false_eq_true, List.length_cons, List.length_nil, Bool.not_true, Bool.not_false, decide_true, decide_false, ite_true, ite_false, Bool.not_eq_true, Bool.not_eq_false, decide_eq_true_eq, Nat.reduceAdd, Nat.reduceLeDiff, Int.reduceLT, Int.reduceLE, Int.reduceNeg, Int.reduceAdd, Int.reduceSub, Int.reduceMul, Int.reduceMod, Int.reduceDiv, Nat.reduceLT, Int.reduceEq, Nat.reduceEqDiff, true_and, and_true, and_self, false_and, and_false, not_true_eq_false, not_false_eq_true, Bool.or_true, Bool.true_or, Bool.or_false, Bool.false_or, Int.reducePow, Int.reduceToNat, Bool.not_not, sm9_1, sm6_1, sm4_1, sm1_1, mk_1, mj_1, sm9_2, sm6_2, sm4_2, sm1_2, mk_2, mj_2, sm9_10, sm6_10, sm4_10, sm1_10, mk_10, mj_10, sm9_13, sm6_13, sm4_13, sm1_13, mk_13, mj_13, sm9_60, sm6_60, sm4_60, sm1_60, mk_60, mj_60, sm9_101, sm6_101, sm4_101, sm1_101, mk_101, mj_101, sm9_105, sm6_105, sm4_105, sm1_105, mk_105, mj_105, sm9_7919, sm6_7919, sm4_7919, mk_7919, mj_7919, sm9_2305843009213693951, sm6_2305843009213693951, sm4_2305843009213693951, mk_2305843009213693951, mj_2305843009213693951, sm9_6364136223846793005, sm4_6364136223846793005, mk_6364136223846793005, mj_6364136223846793005, p0]; try rfl))
  (apply st_nx; · (simp only [fnD, chks, PKn.chk, D.lf, D.lfs, sSeq, sNil, sIf, sRet, sSet, sDrop, sFor, sThen, sPar, sTg, sApp, sExt, sRev, sClr, sPut, sWhile, clrs, eK, eV, e1, e2, eA, eAnd, eOr, eNot, eIf, eTup, eLst, eCall, eSl, oNo, oYes, aNil, aCons, t2b, b2e, bAnd, bOr, bNot, t2t, tTrue, iSeq, iTupD, iRg1, iRg2, tgN, tgT, setAll, i1, i2, gAdd, gSbI, gMul, gDiv, gMod, gPow, gAnd, gOr, gXor, gNeg, gLt, gLe, gGt, gGe, gEqS, gNeS, gAbs, gLen, gIx, gIxT, gCat, gList, gListT, gTuple, gSlL, gSlT, gCatT, gSum, gAll, gAny, gInT, Option.bind_some, Option.bind_none, Option.map_some, List.getElem?_cons_zero, List.getElem?_cons_succ, List.set_cons_zero, List.set_cons_succ, List.replicate, List.cons_append, List.nil_append, Bool.and_true, Bool.true_and, Bool.and_false, Bool.false_and, if_true, if_false, reduceIte, Bool.false_eq_true, List.length_cons, List.length_nil, Bool.not_true, Bool.not_false, decide_true, decide_false, ite_true, ite_false, Bool.not_eq_true, Bool.not_eq_false, decide_eq_true_eq, Nat.reduceAdd, Nat.reduceLeDiff, Int.reduceLT, Int.reduceLE, Int.reduceNeg, Int.reduceAdd, Int.reduceSub, Int.reduceMul, Int.reduceMod, Int.reduceDiv, Nat.reduceLT, Int.reduceEq, Nat.reduceEqDiff, true_and, and_true, and_self, false_and, and_false, not_true_eq_false, not_false_eq_true, Bool.or_true, Bool.true_or, Bool.or_false, Bool.false_or, Int.reducePow, Int.reduceToNat, Bool.not_not, sm9_1, sm6_1, sm4_1, sm1_1, mk_1, mj_1, sm9_2, sm6_2, sm4_2, sm1_2, mk_2, mj_2, sm9_10, sm6_10, sm4_10, sm1_10, mk_10, mj_10, sm9_13, sm6_13, sm4_13, sm1_13, mk_13, mj_13, sm9_60, sm6_60, sm4_60, sm1_60, mk_60, mj_60, sm9_101, sm6_101, sm4_101, sm1_101, mk_101, mj_101, sm9_105, sm6_105, sm4_105, sm1_105, mk_105, mj_105, sm9_7919, sm6_7919, sm4_7919, mk_7919, mj_7919, sm9_2305843009213693951, sm6_2305843009213693951, sm4_2305843009213693951, mk_2305843009213693951, mj_2305843009213693951, sm9_6364136223846793005, sm4_6364136223846793005, mk_6364136223846793005, mj_6364136223846793005, p1]; try rfl))
  have hx : ∃ x y : Nat, x ≤ 100 ∧ y ≤ 104 ∧ (sIf (t2b (e2 gEqS (e2 gMod (eCall den__law_cell (aCons (eV 0) (aCons (eK (.int 2)) aNil))) (eK (.int 2))) (eK (.int 1)))) (sSeq (sSet 1 (e2 gMod (eCall den__law_cell (aCons (eV 0) (aCons (eK (.int 0)) aNil))) (eK (.int 13))))
 (sSet 2 (e2 gMod (eCall den__law_cell (aCons (eV 0) (aCons (eK (.int 1)) aNil))) (eK (.int 13))))) sNil) [.scr (ns.map .int), .int (c0 % 101), .int (c1 % 105), .non, .non, .non, .non, .non] = some (.nx [.scr (ns.map .int), .int x, .int y, .non, .non, .non, .non, .non]) := by
    by_cases h : c2 % 2 = 1
    · refine ⟨(c0 % 13).toNat, (c1 % 13).toNat, by omega, by omega, ?_⟩
      rw [show (((c0 % 13).toNat : Nat) : Int) = c0 % 13 by omega, show (((c1 % 13).toNat : Nat) : Int) = c1 % 13 by omega]
      simp only [fnD, chks, PKn.chk, D.lf, D.lfs, sSeq, sNil, sIf, sRet, sSet, sDrop, sFor, sThen, sPar, sTg, sApp, sExt, sRev, sClr, sPut, sWhile, clrs, eK, eV, e1, e2, eA, eAnd, eOr, eNot, eIf, eTup, eLst, eCall, eSl, oNo, oYes, aNil, aCons, t2b, b2e, bAnd, bOr, bNot, t2t, tTrue, iSeq, iTupD, iRg1, iRg2, tgN, tgT, setAll, i1, i2, gAdd, gSbI, gMul, gDiv, gMod, gPow, gAnd, gOr, gXor, gNeg, gLt, gLe, gGt, gGe, gEqS, gNeS, gAbs, gLen, gIx, gIxT, gCat, gList, gListT, gTuple, gSlL, gSlT, gCatT, gSum, gAll, gAny, gInT, Option.bind_some, Option.bind_none, Option.map_some, List.getElem?_cons_zero, List.getElem?_cons_succ, List.set_cons_zero, List.set_cons_succ, List.replicate, List.cons_append, List.nil_append, Bool.and_true, Bool.true_and, Bool.and_false, Bool.false_and, if_true, if_false, reduceIte, Bool.false_eq_true, List.length_cons, List.length_nil, Bool.not_true, Bool.not_false, decide_true, decide_false, ite_true, ite_false, Bool.not_eq_true, Bool.not_eq_false, decide_eq_true_eq, Nat.reduceAdd, Nat.reduceLeDiff, Int.reduceLT, Int.reduceLE, Int.reduceNeg, Int.reduceAdd, Int.reduceSub, Int.reduceMul, Int.reduceMod, Int.reduceDiv, Nat.reduceLT, Int.reduceEq, Nat.reduceEqDiff, true_and, and_true, and_self, false_and, and_false, not_true_eq_false, not_false_eq_true, Bool.or_true, Bool.true_or, Bool.or_false, Bool.false_or, Int.reducePow, Int.reduceToNat, Bool.not_not, sm9_1, sm6_1, sm4_1, sm1_1, mk_1, mj_1, sm9_2, sm6_2, sm4_2, sm1_2, mk_2, mj_2, sm9_10, sm6_10, sm4_10, sm1_10, mk_10, mj_10, sm9_13, sm6_13, sm4_13, sm1_13, mk_13, mj_13, sm9_60, sm6_60, sm4_60, sm1_60, mk_60, mj_60, sm9_101, sm6_101, sm4_101, sm1_101, mk_101, mj_101, sm9_105, sm6_105, sm4_105, sm1_105, mk_105, mj_105, sm9_7919, sm6_7919, sm4_7919, mk_7919, mj_7919, sm9_2305843009213693951, sm6_2305843009213693951, sm4_2305843009213693951, mk_2305843009213693951, mj_2305843009213693951, sm9_6364136223846793005, sm4_6364136223846793005, mk_6364136223846793005, mj_6364136223846793005, p0, p1, p2, h]
    · refine ⟨(c0 % 101).toNat, (c1 % 105).toNat, by omega, by omega, ?_⟩
      rw [show (((c0 % 101).toNat : Nat) : Int) = c0 % 101 by omega, show (((c1 % 105).toNat : Nat) : Int) = c1 % 105 by omega]
      simp only [fnD, chks, PKn.chk, D.lf, D.lfs, sSeq, sNil, sIf, sRet, sSet, sDrop, sFor, sThen, sPar, sTg, sApp, sExt, sRev, sClr, sPut, sWhile, clrs, eK, eV, e1, e2, eA, eAnd, eOr, eNot, eIf, eTup, eLst, eCall, eSl, oNo, oYes, aNil, aCons, t2b, b2e, bAnd, bOr, bNot, t2t, tTrue, iSeq, iTupD, iRg1, iRg2, tgN, tgT, setAll, i1, i2, gAdd, gSbI, gMul, gDiv, gMod, gPow, gAnd, gOr, gXor, gNeg, gLt, gLe, gGt, gGe, gEqS, gNeS, gAbs, gLen, gIx, gIxT, gCat, gList, gListT, gTuple, gSlL, gSlT, gCatT, gSum, gAll, gAny, gInT, Option.bind_some, Option.bind_none, Option.map_some, List.getElem?_cons_zero, List.getElem?_cons_succ, List.set_cons_zero, List.set_cons_succ, List.replicate, List.cons_append, List.nil_append, Bool.and_true, Bool.true_and, Bool.and_false, Bool.false_and, if_true, if_false, reduceIte, Bool.false_eq_true, List.length_cons, List.length_nil, Bool.not_true, Bool.not_false, decide_true, decide_false, ite_true, ite_false, Bool.not_eq_true, Bool.not_eq_false, decide_eq_true_eq, Nat.reduceAdd, Nat.reduceLeDiff, Int.reduceLT, Int.reduceLE, Int.reduceNeg, Int.reduceAdd, Int.reduceSub, Int.reduceMul, Int.reduceMod, Int.reduceDiv, Nat.reduceLT, Int.reduceEq, Nat.reduceEqDiff, true_and, and_true, and_self, false_and, and_false, not_true_eq_false, not_false_eq_true, Bool.or_true, Bool.true_or, Bool.or_false, Bool.false_or, Int.reducePow, Int.reduceToNat, Bool.not_not, sm9_1, sm6_1, sm4_1, sm1_1, mk_1, mj_1, sm9_2, sm6_2, sm4_2, sm1_2, mk_2, mj_2, sm9_10, sm6_10, sm4_10, sm1_10, mk_10, mj_10, sm9_13, sm6_13, sm4_13, sm1_13, mk_13, mj_13, sm9_60, sm6_60, sm4_60, sm1_60, mk_60, mj_60, sm9_101, sm6_101, sm4_101, sm1_101, mk_101, mj_101, sm9_105, sm6_105, sm4_105, sm1_105, mk_105, mj_105, sm9_7919, sm6_7919, sm4_7919, mk_7919, mj_7919, sm9_2305843009213693951, sm6_2305843009213693951, sm4_2305843009213693951, mk_2305843009213693951, mj_2305843009213693951, sm9_6364136223846793005, sm4_6364136223846793005, mk_6364136223846793005, mj_6364136223846793005, p2, h]
  obtain ⟨x, y, hx, hy, hxy⟩ := hx
  refine st_nx hxy ?_
  walk_at "st"
  apply st_nx
  · refine (for_eq (items := rangeD 0 x) ?_).trans ?_
    · walk_at "ev"
      rw [if_pos (small_b (by omega) (by omega))]
    · rw [rangeD_nat]
      refine loop_inv (fun i => [.scr (ns.map .int), .int x, .int y, .lst ((row i).map .int), .non, .non, .non, .non]) x (by simp) rfl fun i hi d hd => ?_
      rw [List.getElem?_map, List.getElem?_range hi] at hd
      cases hd
      refine ⟨_, [.scr (ns.map .int), .int x, .int y, .lst ((row (i + 1)).map .int), .int i, .non, .non, .non], rfl, .inl ?_, rfl⟩
      have hc : eComp (iRg1 (e2 gSbI (e1 gLen (eV 3)) (eK (.int 1)))) (tgN 7) tTrue (e2 gAdd (e2 gIx (eV 3) (eV 7)) (e2 gIx (eV 3) (e2 gAdd (eV 7) (eK (.int 1))))) [.scr (ns.map .int), .int x, .int y, .lst ((row i).map .int), .int i, .non, .non, .non] = some (.lst ((List.range i).map fun (k : Nat) => D.int (choose (i + 1) (k + 1)))) := by
        refine comp_eq (items := rangeD 0 i) ?_ ?_ (by simp; omega)
        · have h3 : (((i + 1 : Nat) : Int) - 1) = i := by omega
          simp only [fnD, chks, PKn.chk, D.lf, D.lfs, sSeq, sNil, sIf, sRet, sSet, sDrop, sFor, sThen, sPar, sTg, sApp, sExt, sRev, sClr, sPut, sWhile, clrs, eK, eV, e1, e2, eA, eAnd, eOr, eNot, eIf, eTup, eLst, eCall, eSl, oNo, oYes, aNil, aCons, t2b, b2e, bAnd, bOr, bNot, t2t, tTrue, iSeq, iTupD, iRg1, iRg2, tgN, tgT, setAll, i1, i2, gAdd, gSbI, gMul, gDiv, gMod, gPow, gAnd, gOr, gXor, gNeg, gLt, gLe, gGt, gGe, gEqS, gNeS, gAbs, gLen, gIx, gIxT, gCat, gList, gListT, gTuple, gSlL, gSlT, gCatT, gSum, gAll, gAny, gInT, Option.bind_some, Option.bind_none, Option.map_some, List.getElem?_cons_zero, List.getElem?_cons_succ, List.set_cons_zero, List.set_cons_succ, List.replicate, List.cons_append, List.nil_append, Bool.and_true, Bool.true_and, Bool.and_false, Bool.false_and, if_true, if_false, reduceIte, Bool.false_eq_true, List.length_cons, List.length_nil, Bool.not_true, Bool.not_false, decide_true, decide_false, ite_true, ite_false, Bool.not_eq_true, Bool.not_eq_false, decide_eq_true_eq, Nat.reduceAdd, Nat.reduceLeDiff, Int.reduceLT, Int.reduceLE, Int.reduceNeg, Int.reduceAdd, Int.reduceSub, Int.reduceMul, Int.reduceMod, Int.reduceDiv, Nat.reduceLT, Int.reduceEq, Nat.reduceEqDiff, true_and, and_true, and_self, false_and, and_false, not_true_eq_false, not_false_eq_true, Bool.or_true, Bool.true_or, Bool.or_false, Bool.false_or, Int.reducePow, Int.reduceToNat, Bool.not_not, sm9_1, sm6_1, sm4_1, sm1_1, mk_1, mj_1, sm9_2, sm6_2, sm4_2, sm1_2, mk_2, mj_2, sm9_10, sm6_10, sm4_10, sm1_10, mk_10, mj_10, sm9_13, sm6_13, sm4_13, sm1_13, mk_13, mj_13, sm9_60, sm6_60, sm4_60, sm1_60, mk_60, mj_60, sm9_101, sm6_101, sm4_101, sm1_101, mk_101, mj_101, sm9_105, sm6_105, sm4_105, sm1_105, mk_105, mj_105, sm9_7919, sm6_7919, sm4_7919, mk_7919, mj_7919, sm9_2305843009213693951, sm6_2305843009213693951, sm4_2305843009213693951, mk_2305843009213693951, mj_2305843009213693951, sm9_6364136223846793005, sm4_6364136223846793005, mk_6364136223846793005, mj_6364136223846793005, row_len, h3]
          rw [if_pos (small_b (by omega) (by omega))]
        · rw [rangeD_nat]
          refine comp_map _ _ _ fun k hk => ⟨_, rfl, rfl, ?_⟩
          have hk := List.mem_range.mp hk
          have h4 : ((k : Int) + 1) = ((k + 1 : Nat) : Int) := by omega
          simp only [fnD, chks, PKn.chk, D.lf, D.lfs, sSeq, sNil, sIf, sRet, sSet, sDrop, sFor, sThen, sPar, sTg, sApp, sExt, sRev, sClr, sPut, sWhile, clrs, eK, eV, e1, e2, eA, eAnd, eOr, eNot, eIf, eTup, eLst, eCall, eSl, oNo, oYes, aNil, aCons, t2b, b2e, bAnd, bOr, bNot, t2t, tTrue, iSeq, iTupD, iRg1, iRg2, tgN, tgT, setAll, i1, i2, gAdd, gSbI, gMul, gDiv, gMod, gPow, gAnd, gOr, gXor, gNeg, gLt, gLe, gGt, gGe, gEqS, gNeS, gAbs, gLen, gIx, gIxT, gCat, gList, gListT, gTuple, gSlL, gSlT, gCatT, gSum, gAll, gAny, gInT, Option.bind_some, Option.bind_none, Option.map_some, List.getElem?_cons_zero, List.getElem?_cons_succ, List.set_cons_zero, List.set_cons_succ, List.replicate, List.cons_append, List.nil_append, Bool.and_true, Bool.true_and, Bool.and_false, Bool.false_and, if_true, if_false, reduceIte, Bool.false_eq_true, List.length_cons, List.length_nil, Bool.not_true, Bool.not_false, decide_true, decide_false, ite_true, ite_false, Bool.not_eq_true, Bool.not_eq_false, decide_eq_true_eq, Nat.reduceAdd, Nat.reduceLeDiff, Int.reduceLT, Int.reduceLE, Int.reduceNeg, Int.reduceAdd, Int.reduceSub, Int.reduceMul, Int.reduceMod, Int.reduceDiv, Nat.reduceLT, Int.reduceEq, Nat.reduceEqDiff, true_and, and_true, and_self, false_and, and_false, not_true_eq_false, not_false_eq_true, Bool.or_true, Bool.true_or, Bool.or_false, Bool.false_or, Int.reducePow, Int.reduceToNat, Bool.not_not, sm9_1, sm6_1, sm4_1, sm1_1, mk_1, mj_1, sm9_2, sm6_2, sm4_2, sm1_2, mk_2, mj_2, sm9_10, sm6_10, sm4_10, sm1_10, mk_10, mj_10, sm9_13, sm6_13, sm4_13, sm1_13, mk_13, mj_13, sm9_60, sm6_60, sm4_60, sm1_60, mk_60, mj_60, sm9_101, sm6_101, sm4_101, sm1_101, mk_101, mj_101, sm9_105, sm6_105, sm4_105, sm1_105, mk_105, mj_105, sm9_7919, sm6_7919, sm4_7919, mk_7919, mj_7919, sm9_2305843009213693951, sm6_2305843009213693951, sm4_2305843009213693951, mk_2305843009213693951, mj_2305843009213693951, sm9_6364136223846793005, sm4_6364136223846793005, mk_6364136223846793005, mj_6364136223846793005, row_at (show k ≤ i by omega), h4, row_at (show k + 1 ≤ i by omega)]
          rfl
      have hl : ((List.range i).map fun (k : Nat) => D.int (choose (i + 1) (k + 1))).length = i := by simp
      simp only [fnD, chks, PKn.chk, D.lf, D.lfs, sSeq, sNil, sIf, sRet, sSet, sDrop, sFor, sThen, sPar, sTg, sApp, sExt, sRev, sClr, sPut, sWhile, clrs, eK, eV, e1, e2, eA, eAnd, eOr, eNot, eIf, eTup, eLst, eCall, eSl, oNo, oYes, aNil, aCons, t2b, b2e, bAnd, bOr, bNot, t2t, tTrue, iSeq, iTupD, iRg1, iRg2, tgN, tgT, setAll, i1, i2, gAdd, gSbI, gMul, gDiv, gMod, gPow, gAnd, gOr, gXor, gNeg, gLt, gLe, gGt, gGe, gEqS, gNeS, gAbs, gLen, gIx, gIxT, gCat, gList, gListT, gTuple, gSlL, gSlT, gCatT, gSum, gAll, gAny, gInT, Option.bind_some, Option.bind_none, Option.map_some, List.getElem?_cons_zero, List.getElem?_cons_succ, List.set_cons_zero, List.set_cons_succ, List.replicate, List.cons_append, List.nil_append, Bool.and_true, Bool.true_and, Bool.and_false, Bool.false_and, if_true, if_false, reduceIte, Bool.false_eq_true, List.length_cons, List.length_nil, Bool.not_true, Bool.not_false, decide_true, decide_false, ite_true, ite_false, Bool.not_eq_true, Bool.not_eq_false, decide_eq_true_eq, Nat.reduceAdd, Nat.reduceLeDiff, Int.reduceLT, Int.reduceLE, Int.reduceNeg, Int.reduceAdd, Int.reduceSub, Int.reduceMul, Int.reduceMod, Int.reduceDiv, Nat.reduceLT, Int.reduceEq, Nat.reduceEqDiff, true_and, and_true, and_self, false_and, and_false, not_true_eq_false, not_false_eq_true, Bool.or_true, Bool.true_or, Bool.or_false, Bool.false_or, Int.reducePow, Int.reduceToNat, Bool.not_not, sm9_1, sm6_1, sm4_1, sm1_1, mk_1, mj_1, sm9_2, sm6_2, sm4_2, sm1_2, mk_2, mj_2, sm9_10, sm6_10, sm4_10, sm1_10, mk_10, mj_10, sm9_13, sm6_13, sm4_13, sm1_13, mk_13, mj_13, sm9_60, sm6_60, sm4_60, sm1_60, mk_60, mj_60, sm9_101, sm6_101, sm4_101, sm1_101, mk_101, mj_101, sm9_105, sm6_105, sm4_105, sm1_105, mk_105, mj_105, sm9_7919, sm6_7919, sm4_7919, mk_7919, mj_7919, sm9_2305843009213693951, sm6_2305843009213693951, sm4_2305843009213693951, mk_2305843009213693951, mj_2305843009213693951, sm9_6364136223846793005, sm4_6364136223846793005, mk_6364136223846793005, mj_6364136223846793005, hc, hl, List.length_append]
      rw [if_pos (by omega)]
      simp only [fnD, chks, PKn.chk, D.lf, D.lfs, sSeq, sNil, sIf, sRet, sSet, sDrop, sFor, sThen, sPar, sTg, sApp, sExt, sRev, sClr, sPut, sWhile, clrs, eK, eV, e1, e2, eA, eAnd, eOr, eNot, eIf, eTup, eLst, eCall, eSl, oNo, oYes, aNil, aCons, t2b, b2e, bAnd, bOr, bNot, t2t, tTrue, iSeq, iTupD, iRg1, iRg2, tgN, tgT, setAll, i1, i2, gAdd, gSbI, gMul, gDiv, gMod, gPow, gAnd, gOr, gXor, gNeg, gLt, gLe, gGt, gGe, gEqS, gNeS, gAbs, gLen, gIx, gIxT, gCat, gList, gListT, gTuple, gSlL, gSlT, gCatT, gSum, gAll, gAny, gInT, Option.bind_some, Option.bind_none, Option.map_some, List.getElem?_cons_zero, List.getElem?_cons_succ, List.set_cons_zero, List.set_cons_succ, List.replicate, List.cons_append, List.nil_append, Bool.and_true, Bool.true_and, Bool.and_false, Bool.false_and, if_true, if_false, reduceIte, Bool.false_eq_true, List.length_cons, List.length_nil, Bool.not_true, Bool.not_false, decide_true, decide_false, ite_true, ite_false, Bool.not_eq_true, Bool.not_eq_false, decide_eq_true_eq, Nat.reduceAdd, Nat.reduceLeDiff, Int.reduceLT, Int.reduceLE, Int.reduceNeg, Int.reduceAdd, Int.reduceSub, Int.reduceMul, Int.reduceMod, Int.reduceDiv, Nat.reduceLT, Int.reduceEq, Nat.reduceEqDiff, true_and, and_true, and_self, false_and, and_false, not_true_eq_false, not_false_eq_true, Bool.or_true, Bool.true_or, Bool.or_false, Bool.false_or, Int.reducePow, Int.reduceToNat, Bool.not_not, sm9_1, sm6_1, sm4_1, sm1_1, mk_1, mj_1, sm9_2, sm6_2, sm4_2, sm1_2, mk_2, mj_2, sm9_10, sm6_10, sm4_10, sm1_10, mk_10, mj_10, sm9_13, sm6_13, sm4_13, sm1_13, mk_13, mj_13, sm9_60, sm6_60, sm4_60, sm1_60, mk_60, mj_60, sm9_101, sm6_101, sm4_101, sm1_101, mk_101, mj_101, sm9_105, sm6_105, sm4_105, sm1_105, mk_105, mj_105, sm9_7919, sm6_7919, sm4_7919, mk_7919, mj_7919, sm9_2305843009213693951, sm6_2305843009213693951, sm4_2305843009213693951, mk_2305843009213693951, mj_2305843009213693951, sm9_6364136223846793005, sm4_6364136223846793005, mk_6364136223846793005, mj_6364136223846793005, List.length_append, hl]
      rw [if_pos (by omega)]
      have := row_next i
      rw [List.append_assoc] at this
      walk_at "ev"
      rw [← this]
      rfl
  walk_at "st"
  refine st_nx (ρ' := [.scr (ns.map .int), .int x, .int y, .lst ((row x).map .int), .non, .int (choose x y), .non, .non]) ?_ ?_
  · by_cases h : y ≤ x
    · have h' : (y : Int) ≤ x := by omega
      simp only [fnD, chks, PKn.chk, D.lf, D.lfs, sSeq, sNil, sIf, sRet, sSet, sDrop, sFor, sThen, sPar, sTg, sApp, sExt, sRev, sClr, sPut, sWhile, clrs, eK, eV, e1, e2, eA, eAnd, eOr, eNot, eIf, eTup, eLst, eCall, eSl, oNo, oYes, aNil, aCons, t2b, b2e, bAnd, bOr, bNot, t2t, tTrue, iSeq, iTupD, iRg1, iRg2, tgN, tgT, setAll, i1, i2, gAdd, gSbI, gMul, gDiv, gMod, gPow, gAnd, gOr, gXor, gNeg, gLt, gLe, gGt, gGe, gEqS, gNeS, gAbs, gLen, gIx, gIxT, gCat, gList, gListT, gTuple, gSlL, gSlT, gCatT, gSum, gAll, gAny, gInT, Option.bind_some, Option.bind_none, Option.map_some, List.getElem?_cons_zero, List.getElem?_cons_succ, List.set_cons_zero, List.set_cons_succ, List.replicate, List.cons_append, List.nil_append, Bool.and_true, Bool.true_and, Bool.and_false, Bool.false_and, if_true, if_false, reduceIte, Bool.false_eq_true, List.length_cons, List.length_nil, Bool.not_true, Bool.not_false, decide_true, decide_false, ite_true, ite_false, Bool.not_eq_true, Bool.not_eq_false, decide_eq_true_eq, Nat.reduceAdd, Nat.reduceLeDiff, Int.reduceLT, Int.reduceLE, Int.reduceNeg, Int.reduceAdd, Int.reduceSub, Int.reduceMul, Int.reduceMod, Int.reduceDiv, Nat.reduceLT, Int.reduceEq, Nat.reduceEqDiff, true_and, and_true, and_self, false_and, and_false, not_true_eq_false, not_false_eq_true, Bool.or_true, Bool.true_or, Bool.or_false, Bool.false_or, Int.reducePow, Int.reduceToNat, Bool.not_not, sm9_1, sm6_1, sm4_1, sm1_1, mk_1, mj_1, sm9_2, sm6_2, sm4_2, sm1_2, mk_2, mj_2, sm9_10, sm6_10, sm4_10, sm1_10, mk_10, mj_10, sm9_13, sm6_13, sm4_13, sm1_13, mk_13, mj_13, sm9_60, sm6_60, sm4_60, sm1_60, mk_60, mj_60, sm9_101, sm6_101, sm4_101, sm1_101, mk_101, mj_101, sm9_105, sm6_105, sm4_105, sm1_105, mk_105, mj_105, sm9_7919, sm6_7919, sm4_7919, mk_7919, mj_7919, sm9_2305843009213693951, sm6_2305843009213693951, sm4_2305843009213693951, mk_2305843009213693951, mj_2305843009213693951, sm9_6364136223846793005, sm4_6364136223846793005, mk_6364136223846793005, mj_6364136223846793005, h', row_at h]
    · have h' : ¬ (y : Int) ≤ x := by omega
      simp only [fnD, chks, PKn.chk, D.lf, D.lfs, sSeq, sNil, sIf, sRet, sSet, sDrop, sFor, sThen, sPar, sTg, sApp, sExt, sRev, sClr, sPut, sWhile, clrs, eK, eV, e1, e2, eA, eAnd, eOr, eNot, eIf, eTup, eLst, eCall, eSl, oNo, oYes, aNil, aCons, t2b, b2e, bAnd, bOr, bNot, t2t, tTrue, iSeq, iTupD, iRg1, iRg2, tgN, tgT, setAll, i1, i2, gAdd, gSbI, gMul, gDiv, gMod, gPow, gAnd, gOr, gXor, gNeg, gLt, gLe, gGt, gGe, gEqS, gNeS, gAbs, gLen, gIx, gIxT, gCat, gList, gListT, gTuple, gSlL, gSlT, gCatT, gSum, gAll, gAny, gInT, Option.bind_some, Option.bind_none, Option.map_some, List.getElem?_cons_zero, List.getElem?_cons_succ, List.set_cons_zero, List.set_cons_succ, List.replicate, List.cons_append, List.nil_append, Bool.and_true, Bool.true_and, Bool.and_false, Bool.false_and, if_true, if_false, reduceIte, Bool.false_eq_true, List.length_cons, List.length_nil, Bool.not_true, Bool.not_false, decide_true, decide_false, ite_true, ite_false, Bool.not_eq_true, Bool.not_eq_false, decide_eq_true_eq, Nat.reduceAdd, Nat.reduceLeDiff, Int.reduceLT, Int.reduceLE, Int.reduceNeg, Int.reduceAdd, Int.reduceSub, Int.reduceMul, Int.reduceMod, Int.reduceDiv, Nat.reduceLT, Int.reduceEq, Nat.reduceEqDiff, true_and, and_true, and_self, false_and, and_false, not_true_eq_false, not_false_eq_true, Bool.or_true, Bool.true_or, Bool.or_false, Bool.false_or, Int.reducePow, Int.reduceToNat, Bool.not_not, sm9_1, sm6_1, sm4_1, sm1_1, mk_1, mj_1, sm9_2, sm6_2, sm4_2, sm1_2, mk_2, mj_2, sm9_10, sm6_10, sm4_10, sm1_10, mk_10, mj_10, sm9_13, sm6_13, sm4_13, sm1_13, mk_13, mj_13, sm9_60, sm6_60, sm4_60, sm1_60, mk_60, mj_60, sm9_101, sm6_101, sm4_101, sm1_101, mk_101, mj_101, sm9_105, sm6_105, sm4_105, sm1_105, mk_105, mj_105, sm9_7919, sm6_7919, sm4_7919, mk_7919, mj_7919, sm9_2305843009213693951, sm6_2305843009213693951, sm4_2305843009213693951, mk_2305843009213693951, mj_2305843009213693951, sm9_6364136223846793005, sm4_6364136223846793005, mk_6364136223846793005, mj_6364136223846793005, h', choose_gt x y (by omega)]
      rfl
  have h1 := chosen_eq x y hx (by omega)
  have h2 := chosen_eq x x hx (by omega)
  have h3 := chosen_eq x (x + 1) hx (by omega)
  rw [choose_self] at h2
  rw [choose_gt x (x + 1) (by omega)] at h3
  have h4 : ((x : Int) + 1) = ((x + 1 : Nat) : Int) := by omega
  (apply st_nx; · (simp only [fnD, chks, PKn.chk, D.lf, D.lfs, sSeq, sNil, sIf, sRet, sSet, sDrop, sFor, sThen, sPar, sTg, sApp, sExt, sRev, sClr, sPut, sWhile, clrs, eK, eV, e1, e2, eA, eAnd, eOr, eNot, eIf, eTup, eLst, eCall, eSl, oNo, oYes, aNil, aCons, t2b, b2e, bAnd, bOr, bNot, t2t, tTrue, iSeq, iTupD, iRg1, iRg2, tgN, tgT, setAll, i1, i2, gAdd, gSbI, gMul, gDiv, gMod, gPow, gAnd, gOr, gXor, gNeg, gLt, gLe, gGt, gGe, gEqS, gNeS, gAbs, gLen, gIx, gIxT, gCat, gList, gListT, gTuple, gSlL, gSlT, gCatT, gSum, gAll, gAny, gInT, Option.bind_some, Option.bind_none, Option.map_some, List.getElem?_cons_zero, List.getElem?_cons_succ, List.set_cons_zero, List.set_cons_succ, List.replicate, List.cons_append, List.nil_append, Bool.and_true, Bool.true_and, Bool.and_false, Bool.false_and, if_true, if_false, reduceIte, Bool.false_eq_true, List.length_cons, List.length_nil, Bool.not_true, Bool.not_false, decide_true, decide_false, ite_true, ite_false, Bool.not_eq_true, Bool.not_eq_false, decide_eq_true_eq, Nat.reduceAdd, Nat.reduceLeDiff, Int.reduceLT, Int.reduceLE, Int.reduceNeg, Int.reduceAdd, Int.reduceSub, Int.reduceMul, Int.reduceMod, Int.reduceDiv, Nat.reduceLT, Int.reduceEq, Nat.reduceEqDiff, true_and, and_true, and_self, false_and, and_false, not_true_eq_false, not_false_eq_true, Bool.or_true, Bool.true_or, Bool.or_false, Bool.false_or, Int.reducePow, Int.reduceToNat, Bool.not_not, sm9_1, sm6_1, sm4_1, sm1_1, mk_1, mj_1, sm9_2, sm6_2, sm4_2, sm1_2, mk_2, mj_2, sm9_10, sm6_10, sm4_10, sm1_10, mk_10, mj_10, sm9_13, sm6_13, sm4_13, sm1_13, mk_13, mj_13, sm9_60, sm6_60, sm4_60, sm1_60, mk_60, mj_60, sm9_101, sm6_101, sm4_101, sm1_101, mk_101, mj_101, sm9_105, sm6_105, sm4_105, sm1_105, mk_105, mj_105, sm9_7919, sm6_7919, sm4_7919, mk_7919, mj_7919, sm9_2305843009213693951, sm6_2305843009213693951, sm4_2305843009213693951, mk_2305843009213693951, mj_2305843009213693951, sm9_6364136223846793005, sm4_6364136223846793005, mk_6364136223846793005, mj_6364136223846793005, h1]; try rfl))
  simp only [fnD, chks, PKn.chk, D.lf, D.lfs, sSeq, sNil, sIf, sRet, sSet, sDrop, sFor, sThen, sPar, sTg, sApp, sExt, sRev, sClr, sPut, sWhile, clrs, eK, eV, e1, e2, eA, eAnd, eOr, eNot, eIf, eTup, eLst, eCall, eSl, oNo, oYes, aNil, aCons, t2b, b2e, bAnd, bOr, bNot, t2t, tTrue, iSeq, iTupD, iRg1, iRg2, tgN, tgT, setAll, i1, i2, gAdd, gSbI, gMul, gDiv, gMod, gPow, gAnd, gOr, gXor, gNeg, gLt, gLe, gGt, gGe, gEqS, gNeS, gAbs, gLen, gIx, gIxT, gCat, gList, gListT, gTuple, gSlL, gSlT, gCatT, gSum, gAll, gAny, gInT, Option.bind_some, Option.bind_none, Option.map_some, List.getElem?_cons_zero, List.getElem?_cons_succ, List.set_cons_zero, List.set_cons_succ, List.replicate, List.cons_append, List.nil_append, Bool.and_true, Bool.true_and, Bool.and_false, Bool.false_and, if_true, if_false, reduceIte, Bool.false_eq_true, List.length_cons, List.length_nil, Bool.not_true, Bool.not_false, decide_true, decide_false, ite_true, ite_false, Bool.not_eq_true, Bool.not_eq_false, decide_eq_true_eq, Nat.reduceAdd, Nat.reduceLeDiff, Int.reduceLT, Int.reduceLE, Int.reduceNeg, Int.reduceAdd, Int.reduceSub, Int.reduceMul, Int.reduceMod, Int.reduceDiv, Nat.reduceLT, Int.reduceEq, Nat.reduceEqDiff, true_and, and_true, and_self, false_and, and_false, not_true_eq_false, not_false_eq_true, Bool.or_true, Bool.true_or, Bool.or_false, Bool.false_or, Int.reducePow, Int.reduceToNat, Bool.not_not, sm9_1, sm6_1, sm4_1, sm1_1, mk_1, mj_1, sm9_2, sm6_2, sm4_2, sm1_2, mk_2, mj_2, sm9_10, sm6_10, sm4_10, sm1_10, mk_10, mj_10, sm9_13, sm6_13, sm4_13, sm1_13, mk_13, mj_13, sm9_60, sm6_60, sm4_60, sm1_60, mk_60, mj_60, sm9_101, sm6_101, sm4_101, sm1_101, mk_101, mj_101, sm9_105, sm6_105, sm4_105, sm1_105, mk_105, mj_105, sm9_7919, sm6_7919, sm4_7919, mk_7919, mj_7919, sm9_2305843009213693951, sm6_2305843009213693951, sm4_2305843009213693951, mk_2305843009213693951, mj_2305843009213693951, sm9_6364136223846793005, sm4_6364136223846793005, mk_6364136223846793005, mj_6364136223846793005, whole_eq, h1, h2, h4, h3]
  rfl

def tbl : Tb := fun _ => (0, [])
section
variable {P : Program} {w : World} {K : PySem.W.Frag} {mg : Str → Option Value} {base : Heap} {T : Tb}
theorem ok__law_cell (F : FtF K mg "_law_cell" "_law_cell" (topS 3) ["_law_script", "_law_k"]) (z_len : mg "len" = none) : OkF P w K mg base T 1 "_law_cell" ["_law_script", "_law_k"] den__law_cell (.q .A) :=
 mk_okf (k := 0) (Γn := [.fz .U, .fz .A, .no, .no]) F sc__law_cell rfl rfl (fun _ => ⟨_, rfl⟩) fun f cdv A outer s H E hr =>
 (dss_cons (Γ1 := [.fz .U, .fz .A, .no, .no]) (ds_if (Γn := [.fz .U, .fz .A, .no, .no]) (PW.pt (dw_or (dt_cmp op_eq (de_len (q := .A) (by rfl) z_len (de_v 0 (q := .U) rfl (pv 0))) (de_int (q := .A)) (nomark _) (cs_eqS rfl)) (dw_or1 (dt_cmp op_eq (de_mod (q := .A) (de_ix (de_v 0 (q := .U) rfl (pv 0)) (de_int (q := .A))) (de_int (q := .A))) (de_int (q := .A)) (nomark _) (cs_eqS rfl))))) (dss_one (Γ1 := [.fz .U, .fz .A, .no, .no]) (ds_ret (q := .A) (de_if (dt_cmp op_lt (de_v 1 (q := .A) rfl (pv 1)) (de_len (q := .A) (by rfl) z_len (de_v 0 (q := .U) rfl (pv 0))) (nomark _) (cs_lt rfl)) (de_A (q := .A) (de_ix (de_v 0 (q := .U) rfl (pv 0)) (de_v 1 (q := .A) rfl (pv 1)))) (de_int (q := .A)))) rfl) (dss_nil rfl))
 (dss_cons (Γ1 := [.fz .U, .fz .A, .fz .A, .no]) (ds_set (i := 2) (q := .A) sc__law_cell.nd rfl (by first | exact Or.inl rfl | exact Or.inr rfl) (de_A (q := .A) (de_ix (de_v 0 (q := .U) rfl (pv 0)) (de_mod (q := .A) (de_v 1 (q := .A) rfl (pv 1)) (de_len (q := .A) (by rfl) z_len (de_v 0 (q := .U) rfl (pv 0)))))))
 (dss_cons (Γ1 := [.fz .U, .fz .A, .fz .A, .fz .A]) (ds_set (i := 3) (q := .A) sc__law_cell.nd rfl (by first | exact Or.inl rfl | exact Or.inr rfl) (de_mod (q := .A) (de_mul (q := .A) (de_add (q := .A) (de_v 2 (q := .A) rfl (pv 2)) (de_mul (q := .A) (de_int (q := .A)) (de_add (q := .A) (de_v 1 (q := .A) rfl (pv 1)) (de_int (q := .A))))) (de_int (q := .A))) (de_int (q := .A))))
 (dss_one (Γ1 := [.fz .U, .fz .A, .no, .no]) (ds_ret (q := .A) (de_add (q := .A) (de_mul (q := .A) (de_div (q := .A) (de_mod (q := .A) (de_v 2 (q := .A) rfl (pv 2)) (de_pow (q := .A) (de_int (q := .A)) (de_int (q := .A)))) (de_int (q := .A))) (de_int (q := .A))) (de_v 3 (q := .A) rfl (pv 3)))) rfl))))
theorem ok_chosen (F : FtF K mg "chosen" "chosen" (topS 1) ["x", "y"]) (z_range : mg "range" = none) : OkF P w K mg base T 1 "chosen" ["x", "y"] den_chosen (.q .A) :=
 mk_okf (k := 0) (Γn := [.fz .A, .fz .A, .no, .no]) F sc_chosen rfl rfl (fun _ => ⟨_, rfl⟩) fun f cdv A outer s H E hr =>
 (dss_cons (Γ1 := [.fz .A, .fz .A, .no, .no]) (ds_if (Γn := [.fz .A, .fz .A, .no, .no]) (dt_cmp op_gt (de_v 1 (q := .A) rfl (pv 1)) (de_v 0 (q := .A) rfl (pv 0)) (nomark _) (cs_gt rfl)) (dss_one (Γ1 := [.fz .A, .fz .A, .no, .no]) (ds_ret (q := .A) (de_int (q := .A))) rfl) (dss_nil rfl))
 (dss_cons (Γ1 := [.fz .A, .fz .A, .fz .A, .no]) (ds_set (i := 2) (q := .A) sc_chosen.nd rfl (by first | exact Or.inl rfl | exact Or.inr rfl) (de_int (q := .A)))
 (dss_cons (Γ1 := [.fz .A, .fz .A, .fz .A, .no]) (ds_for (cl := [3]) (Γ1 := [.fz .A, .fz .A, .fz .A, .fz .A]) PassesOwn.never rfl (di_range1 (q := .A) (by rfl) z_range (de_v 1 (q := .A) rfl (pv 1))) (pg_name (i := 3) sc_chosen.nd rfl (by first | exact Or.inl rfl | exact Or.inr rfl)) (tgs_n (q := .A) (by decide)) (dss_one (Γ1 := [.fz .A, .fz .A, .fz .A, .fz .A]) (ds_set (i := 2) (q := .A) sc_chosen.nd rfl (by first | exact Or.inl rfl | exact Or.inr rfl) (de_div (q := .A) (de_mul (q := .A) (de_v 2 (q := .A) rfl (pv 2)) (de_sub (q := .A) (de_v 0 (q := .A) rfl (pv 0)) (de_v 3 (q := .A) rfl (pv 3)))) (de_add (q := .A) (de_v 3 (q := .A) rfl (pv 3)) (de_int (q := .A))))) rfl) (by decide))
 (dss_one (Γ1 := [.fz .A, .fz .A, .no, .no]) (ds_ret (q := .A) (de_v 2 (q := .A) rfl (pv 2))) rfl))))
theorem ok__law_whole (F : FtF K mg "_law_whole" "_law_whole" (topS 4) ["_law_found"]) (z_isinstance : mg "isinstance" = none) (z_int : mg "int" = none) (z_bool : mg "bool" = none) : OkF P w K mg base T 1 "_law_whole" ["_law_found"] den__law_whole (.q .A) :=
 mk_okf (k := 0) (Γn := [.fz .A]) F sc__law_whole rfl rfl (fun _ => ⟨_, rfl⟩) fun f cdv A outer s H E hr =>
 (dss_one (Γ1 := [.fz .A]) (ds_ret (q := .A) (de_andV (q := .A) (de_isi (q := .A) (by rfl) z_isinstance (de_v 0 (q := .A) rfl (pv 0)) (pe_bltn (v := .ty "int") (by rfl) z_int (by decide +kernel) rfl)) (de_one (de_notV (q := .A) (de_isi (q := .A) (by rfl) z_isinstance (de_v 0 (q := .A) rfl (pv 0)) (pe_bltn (v := .ty "bool") (by rfl) z_bool (by decide +kernel) rfl)))))) rfl)
theorem fn_law {f : Addr} {fd : FuncData} (F : Fun K "law" "law" (topS 5) f fd) (o__law_cell : OkF P w K mg base T 1 "_law_cell" ["_law_script", "_law_k"] den__law_cell (.q .A)) (o_chosen : OkF P w K mg base T 1 "chosen" ["x", "y"] den_chosen (.q .A)) (o__law_whole : OkF P w K mg base T 1 "_law_whole" ["_law_found"] den__law_whole (.q .A)) (z_range : mg "range" = none) (z_len : mg "len" = none) : FnOk P w K mg base CX0 2 f fd ["_law_script"] (spD K T 1 den_law (.q .A)) :=
 fn_body (k := 1) (Γn := [.fz .U, .no, .no, .no, .no, .no, .no, .no]) F sc_law rfl rfl (fun _ => ⟨_, rfl⟩) fun f cdv A outer s H E hr =>
 (dss_cons (Γ1 := [.fz .U, .fz .A, .no, .no, .no, .no, .no, .no]) (ds_set (i := 1) (q := .A) sc_law.nd rfl (by first | exact Or.inl rfl | exact Or.inr rfl) (de_mod (q := .A) (de_call o__law_cell hr (by rfl) (da_cons (de_v 0 (q := .U) rfl (pv 0)) (da_cons (de_int (q := .A)) da_nil)) (aCons_len (aCons_len aNil_len))) (de_int (q := .A))))
 (dss_cons (Γ1 := [.fz .U, .fz .A, .fz .A, .no, .no, .no, .no, .no]) (ds_set (i := 2) (q := .A) sc_law.nd rfl (by first | exact Or.inl rfl | exact Or.inr rfl) (de_mod (q := .A) (de_call o__law_cell hr (by rfl) (da_cons (de_v 0 (q := .U) rfl (pv 0)) (da_cons (de_int (q := .A)) da_nil)) (aCons_len (aCons_len aNil_len))) (de_int (q := .A))))
 (dss_cons (Γ1 := [.fz .U, .fz .A, .fz .A, .no, .no, .no, .no, .no]) (ds_if (Γn := [.fz .U, .fz .A, .fz .A, .no, .no, .no, .no, .no]) (dt_cmp op_eq (de_mod (q := .A) (de_call o__law_cell hr (by rfl) (da_cons (de_v 0 (q := .U) rfl (pv 0)) (da_cons (de_int (q := .A)) da_nil)) (aCons_len (aCons_len aNil_len))) (de_int (q := .A))) (de_int (q := .A)) (nomark _) (cs_eqS rfl)) (dss_cons (Γ1 := [.fz .U, .fz .A, .fz .A, .no, .no, .no, .no, .no]) (ds_set (i := 1) (q := .A) sc_law.nd rfl (by first | exact Or.inl rfl | exact Or.inr rfl) (de_mod (q := .A) (de_call o__law_cell hr (by rfl) (da_cons (de_v 0 (q := .U) rfl (pv 0)) (da_cons (de_int (q := .A)) da_nil)) (aCons_len (aCons_len aNil_len))) (de_int (q := .A))))
 (dss_one (Γ1 := [.fz .U, .fz .A, .fz .A, .no, .no, .no, .no, .no]) (ds_set (i := 2) (q := .A) sc_law.nd rfl (by first | exact Or.inl rfl | exact Or.inr rfl) (de_mod (q := .A) (de_call o__law_cell hr (by rfl) (da_cons (de_v 0 (q := .U) rfl (pv 0)) (da_cons (de_int (q := .A)) da_nil)) (aCons_len (aCons_len aNil_len))) (de_int (q := .A)))) rfl)) (dss_nil rfl))
 (dss_cons (Γ1 := [.fz .U, .fz .A, .fz .A, .ow .A, .no, .no, .no, .no]) (ds_seto (i := 3) (q := .A) sc_law.nd rfl (by first | exact Or.inl rfl | exact Or.inr rfl) (de_lst (q := .A) (dq_cons (q := .A) (de_int (q := .A)) dq_nil)))
 (dss_cons (Γ1 := [.fz .U, .fz .A, .fz .A, .ow .A, .no, .no, .no, .no]) (ds_for (cl := [4, 7]) (Γ1 := [.fz .U, .fz .A, .fz .A, .ow .A, .fz .A, .no, .no, .no]) PassesOwn.never rfl (di_range1 (q := .A) (by rfl) z_range (de_v 1 (q := .A) rfl (pv 1))) (pg_name (i := 4) sc_law.nd rfl (by first | exact Or.inl rfl | exact Or.inr rfl)) (tgs_n (q := .A) (by decide)) (dss_one (Γ1 := [.fz .U, .fz .A, .fz .A, .ow .A, .fz .A, .no, .no, .no]) (ds_seto (i := 3) (q := .A) sc_law.nd rfl (by first | exact Or.inl rfl | exact Or.inr rfl) (de_cat (q := .A) (de_ob (de_cat (q := .A) (de_ob (de_lst (q := .A) (dq_cons (q := .A) (de_int (q := .A)) dq_nil))) (de_comp (p := .A) (Γ1 := [.fz .U, .fz .A, .fz .A, .ow .A, .fz .A, .no, .no, .fz .A]) (own := [("_law_k", 7)]) rfl sc_law.nd (di_range1 (q := .A) (by rfl) z_range (de_sub (q := .A) (de_len (q := .A) (by rfl) z_len (de_vo 3 (q := .A) rfl (pv 3))) (de_int (q := .A)))) (blkOk_by (N := nm_law) (sc := defScope (topS 5)) (own := [("_law_k", 7)]) (by decide +kernel)) (fun _ _ _ _ _ => (pg_name (i := 7) sc_law.nd rfl (by first | exact Or.inl rfl | exact Or.inr rfl))) (tgs_n (q := .A) (by decide)) (fun _ _ _ _ _ => pts_no) (fun _ _ _ _ _ => (de_add (q := .A) (de_ix (de_vo 3 (q := .A) rfl (pv 3)) (de_v 7 (q := .A) rfl (pv 7))) (de_ix (de_vo 3 (q := .A) rfl (pv 3)) (de_add (q := .A) (de_v 7 (q := .A) rfl (pv 7)) (de_int (q := .A)))))) (by decide) (by decide)))) (de_lst (q := .A) (dq_cons (q := .A) (de_int (q := .A)) dq_nil)))) rfl) (by decide))
 (dss_cons (Γ1 := [.fz .U, .fz .A, .fz .A, .ow .A, .no, .fz .A, .no, .no]) (ds_set (i := 5) (q := .A) sc_law.nd rfl (by first | exact Or.inl rfl | exact Or.inr rfl) (de_int (q := .A)))
 (dss_cons (Γ1 := [.fz .U, .fz .A, .fz .A, .ow .A, .no, .fz .A, .no, .no]) (ds_if (Γn := [.fz .U, .fz .A, .fz .A, .ow .A, .no, .fz .A, .no, .no]) (dt_cmp op_le (de_v 2 (q := .A) rfl (pv 2)) (de_v 1 (q := .A) rfl (pv 1)) (nomark _) (cs_le rfl)) (dss_one (Γ1 := [.fz .U, .fz .A, .fz .A, .ow .A, .no, .fz .A, .no, .no]) (ds_set (i := 5) (q := .A) sc_law.nd rfl (by first | exact Or.inl rfl | exact Or.inr rfl) (de_ix (de_vo 3 (q := .A) rfl (pv 3)) (de_v 2 (q := .A) rfl (pv 2)))) rfl) (dss_nil rfl))
 (dss_cons (Γ1 := [.fz .U, .fz .A, .fz .A, .ow .A, .no, .fz .A, .fz .A, .no]) (ds_set (i := 6) (q := .A) sc_law.nd rfl (by first | exact Or.inl rfl | exact Or.inr rfl) (de_call o_chosen hr (by rfl) (da_cons (de_v 1 (q := .A) rfl (pv 1)) (da_cons (de_v 2 (q := .A) rfl (pv 2)) da_nil)) (aCons_len (aCons_len aNil_len))))
 (dss_one (Γ1 := [.fz .U, .no, .no, .no, .no, .no, .no, .no]) (ds_ret (q := .A) (de_andV (q := .A) (de_call o__law_whole hr (by rfl) (da_cons (de_v 6 (q := .A) rfl (pv 6)) da_nil) (aCons_len aNil_len)) (de_andV (q := .A) (de_cmp (q := .A) op_eq (de_v 6 (q := .A) rfl (pv 6)) (de_v 5 (q := .A) rfl (pv 5)) (nomark _) (cs_eqS rfl)) (de_andV (q := .A) (de_cmp (q := .A) op_eq (de_call o_chosen hr (by rfl) (da_cons (de_v 1 (q := .A) rfl (pv 1)) (da_cons (de_v 1 (q := .A) rfl (pv 1)) da_nil)) (aCons_len (aCons_len aNil_len))) (de_int (q := .A)) (nomark _) (cs_eqS rfl)) (de_one (de_cmp (q := .A) op_eq (de_call o_chosen hr (by rfl) (da_cons (de_v 1 (q := .A) rfl (pv 1)) (da_cons (de_add (q := .A) (de_v 1 (q := .A) rfl (pv 1)) (de_int (q := .A))) da_nil)) (aCons_len (aCons_len aNil_len))) (de_int (q := .A)) (nomark _) (cs_eqS rfl))))))) rfl)))))))))
end
theorem all_mk {l : PySem.W.OpenLaw} {w : World} {K : PySem.W.Frag} {h : Heap} {mg : Str → Option Value} {fa : Addr} (X : K.In h) (G : h.Ns mainGlobals mg) (hfa : mg "law" = some (.ref fa))
 (hφ : ∀ ns : List Int, ns.length ≤ 63 → den_law [.scr (ns.map .int)] = some (.bl true))
 {f__law_cell : Addr} {od__law_cell an__law_cell : Option Addr} {sl__law_cell : Array (Option Value)} {oc__law_cell kV__law_cell dc__law_cell pm__law_cell cd__law_cell ct__law_cell : Value}
 (a__law_cell : PySem.W.nsIn K mainGlobals "_law_cell" = some (some (.ref f__law_cell))) (l__law_cell : K.lookup f__law_cell = some ⟨oc__law_cell, od__law_cell, .func (PySem.W.fnOf "_law_cell" "_law_cell" (defArgs (topS 3)) (defBody (topS 3)) (defScope (topS 3)) .none kV__law_cell dc__law_cell pm__law_cell an__law_cell cd__law_cell ct__law_cell), sl__law_cell⟩) (c__law_cell : PySem.W.codeIn K cd__law_cell "_law_cell" = true) (k__law_cell : PySem.W.keepIn K (.ref f__law_cell) = true)
 {f_chosen : Addr} {od_chosen an_chosen : Option Addr} {sl_chosen : Array (Option Value)} {oc_chosen kV_chosen dc_chosen pm_chosen cd_chosen ct_chosen : Value}
 (a_chosen : PySem.W.nsIn K mainGlobals "chosen" = some (some (.ref f_chosen))) (l_chosen : K.lookup f_chosen = some ⟨oc_chosen, od_chosen, .func (PySem.W.fnOf "chosen" "chosen" (defArgs (topS 1)) (defBody (topS 1)) (defScope (topS 1)) .none kV_chosen dc_chosen pm_chosen an_chosen cd_chosen ct_chosen), sl_chosen⟩) (c_chosen : PySem.W.codeIn K cd_chosen "chosen" = true) (k_chosen : PySem.W.keepIn K (.ref f_chosen) = true)
 {f__law_whole : Addr} {od__law_whole an__law_whole : Option Addr} {sl__law_whole : Array (Option Value)} {oc__law_whole kV__law_whole dc__law_whole pm__law_whole cd__law_whole ct__law_whole : Value}
 (a__law_whole : PySem.W.nsIn K mainGlobals "_law_whole" = some (some (.ref f__law_whole))) (l__law_whole : K.lookup f__law_whole = some ⟨oc__law_whole, od__law_whole, .func (PySem.W.fnOf "_law_whole" "_law_whole" (defArgs (topS 4)) (defBody (topS 4)) (defScope (topS 4)) .none kV__law_whole dc__law_whole pm__law_whole an__law_whole cd__law_whole ct__law_whole), sl__law_whole⟩) (c__law_whole : PySem.W.codeIn K cd__law_whole "_law_whole" = true) (k__law_whole : PySem.W.keepIn K (.ref f__law_whole) = true)
 {f_law : Addr} {od_law an_law : Option Addr} {sl_law : Array (Option Value)} {oc_law kV_law dc_law pm_law cd_law ct_law : Value}
 (a_law : PySem.W.nsIn K mainGlobals "law" = some (some (.ref f_law))) (l_law : K.lookup f_law = some ⟨oc_law, od_law, .func (PySem.W.fnOf "law" "law" (defArgs (topS 5)) (defBody (topS 5)) (defScope (topS 5)) .none kV_law dc_law pm_law an_law cd_law ct_law), sl_law⟩) (c_law : PySem.W.codeIn K cd_law "law" = true) (k_law : PySem.W.keepIn K (.ref f_law) = true)
 (y_len : PySem.W.nsIn K mainGlobals "len" = some none)
 (y_range : PySem.W.nsIn K mainGlobals "range" = some none)
 (y_isinstance : PySem.W.nsIn K mainGlobals "isinstance" = some none)
 (y_int : PySem.W.nsIn K mainGlobals "int" = some none)
 (y_bool : PySem.W.nsIn K mainGlobals "bool" = some none) :
 ∃ fd : FuncData, (∀ (s : Shared) (v : Value), BindsTo s fd ⟨[v], []⟩ [("_law_script", v)]) ∧ ∀ base : Heap, K.In base → base.Ns mainGlobals mg → FnOk l.prog w K mg base CX0 2 fa fd ["_law_script"] (spLaw K 63) := by
  have z_len := PySem.W.mg_none_of X G y_len
  have z_range := PySem.W.mg_none_of X G y_range
  have z_isinstance := PySem.W.mg_none_of X G y_isinstance
  have z_int := PySem.W.mg_none_of X G y_int
  have z_bool := PySem.W.mg_none_of X G y_bool
  have F__law_cell : FtF K mg "_law_cell" "_law_cell" (topS 3) ["_law_script", "_law_k"] := ft_mk X G ⟨_, _, _, _, _, _, _, _, _, _, a__law_cell, l__law_cell, c__law_cell, k__law_cell⟩ fun _ _ _ _ _ _ us hl => match us, hl with | [_, _], _ => rfl
  have F_chosen : FtF K mg "chosen" "chosen" (topS 1) ["x", "y"] := ft_mk X G ⟨_, _, _, _, _, _, _, _, _, _, a_chosen, l_chosen, c_chosen, k_chosen⟩ fun _ _ _ _ _ _ us hl => match us, hl with | [_, _], _ => rfl
  have F__law_whole : FtF K mg "_law_whole" "_law_whole" (topS 4) ["_law_found"] := ft_mk X G ⟨_, _, _, _, _, _, _, _, _, _, a__law_whole, l__law_whole, c__law_whole, k__law_whole⟩ fun _ _ _ _ _ _ us hl => match us, hl with | [_], _ => rfl
  refine ft_law X G hfa ⟨_, _, _, _, _, _, _, _, _, _, a_law, l_law, c_law, k_law⟩ (fun _ _ _ _ _ _ s v => .of_eq rfl) fun fd base F => ?_
  have o__law_cell := ok__law_cell (P := l.prog) (w := w) (base := base) (T := tbl) F__law_cell z_len
  have o_chosen := ok_chosen (P := l.prog) (w := w) (base := base) (T := tbl) F_chosen z_range
  have o__law_whole := ok__law_whole (P := l.prog) (w := w) (base := base) (T := tbl) F__law_whole z_isinstance z_int z_bool
  exact law_ok (fn_law (T := tbl) F o__law_cell o_chosen o__law_whole z_range z_len) hφ
end Lw
open PySem PySem.W PyProof.Rows
set_option maxHeartbeats 0 in
theorem PySem.Challenge.cw_toggleclock_k80_chosen_holds : PySem.Challenge.rw_toggleclock_k80_chosen.Holds := by
  w_on; o_law; k_head; (case hw => w_witness2)
  k_fill
  refine L2.walk_of (l := PySem.Challenge.rw_toggleclock_k80_chosen) (n := 63) (k := 2) (x := "_law_script") (CX := fun _ => L2.CX0) (sp := fun w => DL.spLaw _ 63) rfl (by decide) rfl ⟨rfl, by decide, by decide⟩ (fun w h Y => PySem.W.kIn_of Y) ?F (fun _ _ a ns hl hO hS => DL.law_sp hl hO hS) (fun _ _ _ _ _ h => h)
  case F =>
    intro w mg fa h KX G hmg
    refine' Lw.all_mk KX G hmg Lw.law_true ?a__law_cell ?l__law_cell ?c__law_cell ?k__law_cell ?a_chosen ?l_chosen ?c_chosen ?k_chosen ?a__law_whole ?l__law_whole ?c__law_whole ?k__law_whole ?a_law ?l_law ?c_law ?k_law ?y_len ?y_range ?y_isinstance ?y_int ?y_bool
    (case a__law_cell => k_is)
    (case l__law_cell => k_is)
    (case c__law_cell => k_is)
    (case k__law_cell => k_is)
    (case a_chosen => k_is)
    (case l_chosen => k_is)
    (case c_chosen => k_is)
    (case k_chosen => k_is)
    (case a__law_whole => k_is)
    (case l__law_whole => k_is)
    (case c__law_whole => k_is)
    (case k__law_whole => k_is)
    (case a_law => k_is)
    (case l_law => k_is)
    (case c_law => k_is)
    (case k_law => k_is)
    (case y_len => k_is)
    (case y_range => k_is)
    (case y_isinstance => k_is)
    (case y_int => k_is)
    (case y_bool => k_is)
#print axioms PySem.Challenge.cw_toggleclock_k80_chosen_holds
