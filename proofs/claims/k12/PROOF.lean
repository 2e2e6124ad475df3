import PyProof.Rows.All
import Wide.All
import OpenK.AllK
import Wide.FinOn
import HandS.ForMost
import HandS.ForExc
import HandS.IsInst
import HandS.StrMore
import HandS.Deep
import HandS.Wide
import HandS.Flow
import HandS.Style
import HandS.TupAny
import HandS.TupLe
import PyProof.ReprReads
import PyProof.ReprRoads
import PyProof.StrBlock2
import HandS.More
import PySem.Challenge.RW_frozenbodies_k12_kinds_known
set_option Elab.async false
set_option linter.all false
set_option maxRecDepth 100000
set_option maxHeartbeats 4000000
/-! Q1: values as trees, the abstract heap, how they stand in the hand layer's heap; lifted readings. -/
namespace Q
open PySem PySem.Spec PyProof.Rows L2

/-- a value: a tuple is a tree (so is a list that nobody changes, the script), all that may change is at an address -/
inductive A where
  | non | bl (b : Bool) | int (i : Int) | str (x : Str) | tup (xs : List A) | fro (xs : List A) | ref (a : Addr)
/-- what stands at an address: a list, a dict, an instance of the class C -/
inductive O where
  | lst (xs : List A) | dct (kvs : List (A × A)) | ins (C : Str) (fs : List (Str × A))
abbrev Gp := Addr → Option O
def up (G : Gp) (a : Addr) (o : O) : Gp := fun b => if b = a then some o else G b
theorem up_same {G : Gp} {a : Addr} {o : O} : up G a o a = some o := by unfold up; rw [if_pos rfl]
theorem up_ne {G : Gp} {a b : Addr} {o : O} (h : b ≠ a) : up G a o b = G b := by unfold up; rw [if_neg h]
abbrev En := List (Option A)
structure Ex where
  cls : Str
  val : A
abbrev KA := A → Gp → Prop
abbrev KX := Ex → Gp → Prop
abbrev EA := En → Gp → KA → KX → Prop
abbrev BA := En → Gp → (Bool → Gp → Prop) → KX → Prop
abbrev LA := En → Gp → (List A → Gp → Prop) → KX → Prop
structure Fl where
  nx : En → Gp → Prop
  rt : KA
  bk : En → Gp → Prop := fun _ _ => False
  ct : En → Gp → Prop := fun _ _ => False
  ex : Ex → En → Gp → Prop
abbrev SA := Fl → En → Gp → Prop

/-- the written part, the classes' addresses -/
structure Tx where
  K : PySem.W.Frag
  cm : Str → Option Addr

/-- a list that nobody changes -/
def SqF (K : PySem.W.Frag) (H : Hp) (a : Addr) (xs : List V) : Prop := (∃ o, H a = some (.frz o (.lst xs))) ∨ (SqL K (fun _ => none) a xs)
theorem SqF.sq {K : PySem.W.Frag} {H : Hp} {a : Addr} {xs : List V} (h : SqF K H a xs) : SqL K H a xs := by
  rcases h with ⟨o, h⟩ | ((h | ⟨o, h⟩) | h)
  · exact .inl (.inr ⟨o, h⟩)
  · cases h
  · cases h
  · exact .inr h
/-- what never changes -/
def imm : HO → Prop
  | .tup _ => True
  | .frz _ _ => True
  | _ => False
def Im (H H' : Hp) : Prop := ∀ p u, imm u → H p = some u → H' p = some u
theorem Im.rd {H H' : Hp} (k : Im H H') {p : Addr} {u : List V} (h : Rd H p (.tup u)) : Rd H' p (.tup u) := by
  rcases h with h | ⟨o, h⟩
  · exact .inl (k _ _ trivial h)
  · exact .inr ⟨o, k _ _ trivial h⟩
mutual
/-- the value v stands for the tree -/
def RV (K : PySem.W.Frag) (H : Hp) : A → V → Prop
  | .non, v => v = .non
  | .bl b, v => v = .bl b
  | .int i, v => v = .int i
  | .str x, v => v = .str x
  | .ref a, v => v = .ref a
  | .tup xs, v => ∃ p vs, v = .ref p ∧ SqT K H p vs ∧ RVs K H xs vs
  | .fro xs, v => ∃ p vs, v = .ref p ∧ SqF K H p vs ∧ RVs K H xs vs
def RVs (K : PySem.W.Frag) (H : Hp) : List A → List V → Prop
  | [], vs => vs = []
  | x :: xs, vs => ∃ v r, vs = v :: r ∧ RV K H x v ∧ RVs K H xs r
end
section
variable {K : PySem.W.Frag} {H H' : Hp}
theorem RVs.len : ∀ {xs : List A} {vs : List V}, RVs K H xs vs → vs.length = xs.length
  | [], vs, h => by simp only [RVs] at h; subst h; rfl
  | x :: xs, vs, h => by
    simp only [RVs] at h
    obtain ⟨v, r, rfl, _, h2⟩ := h
    simp [RVs.len h2]
theorem RVs.get : ∀ {xs : List A} {vs : List V} {i : Nat} {a : A}, RVs K H xs vs → xs[i]? = some a → ∃ v, vs[i]? = some v ∧ RV K H a v
  | [], _, _, _, _, e => by simp at e
  | x :: xs, vs, 0, a, h, e => by
    simp only [RVs] at h
    obtain ⟨v, r, rfl, h1, h2⟩ := h
    simp at e; subst e; exact ⟨v, rfl, h1⟩
  | x :: xs, vs, i + 1, a, h, e => by
    simp only [RVs] at h
    obtain ⟨v, r, rfl, h1, h2⟩ := h
    obtain ⟨w, e1, e2⟩ := RVs.get (i := i) h2 (by simpa using e)
    exact ⟨w, by simpa using e1, e2⟩
theorem RVs.get' : ∀ {xs : List A} {vs : List V} {i : Nat} {v : V}, RVs K H xs vs → vs[i]? = some v → ∃ a, xs[i]? = some a ∧ RV K H a v
  | [], _, _, _, h, e => by simp only [RVs] at h; subst h; simp at e
  | x :: xs, vs, 0, v', h, e => by
    simp only [RVs] at h
    obtain ⟨v, r, rfl, h1, h2⟩ := h
    simp at e; subst e; exact ⟨x, rfl, h1⟩
  | x :: xs, vs, i + 1, v', h, e => by
    simp only [RVs] at h
    obtain ⟨v, r, rfl, h1, h2⟩ := h
    obtain ⟨w, e1, e2⟩ := RVs.get' (i := i) h2 (by simpa using e)
    exact ⟨w, by simpa using e1, e2⟩
theorem RVs.app : ∀ {xs ys : List A} {vs ws : List V}, RVs K H xs vs → RVs K H ys ws → RVs K H (xs ++ ys) (vs ++ ws)
  | [], ys, vs, ws, h, h' => by simp only [RVs] at h; subst h; exact h'
  | x :: xs, ys, vs, ws, h, h' => by
    simp only [RVs] at h
    obtain ⟨v, r, rfl, h1, h2⟩ := h
    exact ⟨v, r ++ ws, rfl, h1, RVs.app h2 h'⟩
theorem RVs.one {x : A} {v : V} (h : RV K H x v) : RVs K H [x] [v] := ⟨v, [], rfl, h, rfl⟩
theorem RVs.cons {x : A} {v : V} {xs : List A} {vs : List V} (h : RV K H x v) (h' : RVs K H xs vs) : RVs K H (x :: xs) (v :: vs) := ⟨v, vs, rfl, h, h'⟩
theorem RVs.take : ∀ {xs : List A} {vs : List V} (n : Nat), RVs K H xs vs → RVs K H (xs.take n) (vs.take n)
  | xs, vs, 0, _ => by simp only [List.take_zero]; rfl
  | [], vs, n + 1, h => by simp only [RVs] at h; subst h; rfl
  | x :: xs, vs, n + 1, h => by
    simp only [RVs] at h
    obtain ⟨v, r, rfl, h1, h2⟩ := h
    exact .cons h1 (RVs.take n h2)
theorem RVs.drop : ∀ {xs : List A} {vs : List V} (n : Nat), RVs K H xs vs → RVs K H (xs.drop n) (vs.drop n)
  | xs, vs, 0, h => h
  | [], vs, n + 1, h => by simp only [RVs] at h; subst h; rfl
  | x :: xs, vs, n + 1, h => by
    simp only [RVs] at h
    obtain ⟨v, r, rfl, h1, h2⟩ := h
    exact RVs.drop n h2
theorem RVs.set : ∀ {xs : List A} {vs : List V} (i : Nat) {a : A} {v : V}, RVs K H xs vs → RV K H a v → RVs K H (xs.set i a) (vs.set i v)
  | [], vs, i, a, v, h, _ => by simp only [RVs] at h; subst h; rfl
  | x :: xs, vs, 0, a, v, h, h' => by
    simp only [RVs] at h
    obtain ⟨w, r, rfl, h1, h2⟩ := h
    exact .cons h' h2
  | x :: xs, vs, i + 1, a, v, h, h' => by
    simp only [RVs] at h
    obtain ⟨w, r, rfl, h1, h2⟩ := h
    exact .cons h1 (RVs.set i h2 h')
theorem RVs.reverse : ∀ {xs : List A} {vs : List V}, RVs K H xs vs → RVs K H xs.reverse vs.reverse
  | [], vs, h => by simp only [RVs] at h; subst h; rfl
  | x :: xs, vs, h => by
    simp only [RVs] at h
    obtain ⟨v, r, rfl, h1, h2⟩ := h
    rw [List.reverse_cons, List.reverse_cons]
    exact RVs.app (RVs.reverse h2) (.one h1)
theorem RVs.eraseIdx : ∀ {xs : List A} {vs : List V} (i : Nat), RVs K H xs vs → RVs K H (xs.eraseIdx i) (vs.eraseIdx i)
  | [], vs, i, h => by simp only [RVs] at h; subst h; rfl
  | x :: xs, vs, 0, h => by
    simp only [RVs] at h
    obtain ⟨v, r, rfl, h1, h2⟩ := h
    exact h2
  | x :: xs, vs, i + 1, h => by
    simp only [RVs] at h
    obtain ⟨v, r, rfl, h1, h2⟩ := h
    exact .cons h1 (RVs.eraseIdx i h2)
theorem RVs.rep : ∀ {xs : List A} {vs : List V} (n : Nat), RVs K H xs vs → RVs K H (List.replicate n xs).flatten (List.replicate n vs).flatten
  | xs, vs, 0, _ => rfl
  | xs, vs, n + 1, h => by
    rw [List.replicate_succ, List.replicate_succ, List.flatten_cons, List.flatten_cons]
    exact RVs.app h (RVs.rep n h)
theorem SqT.mono {p : Addr} {vs : List V} (k : Im H H') (h : SqT K H p vs) : SqT K H' p vs := by
  rcases h with h | h
  · exact .inl (k.rd h)
  · exact .inr h
theorem SqF.mono {p : Addr} {vs : List V} (k : Im H H') (h : SqF K H p vs) : SqF K H' p vs := by
  rcases h with ⟨o, h⟩ | h
  · exact .inl ⟨o, k _ _ trivial h⟩
  · exact .inr h
mutual
theorem RV.mono (k : Im H H') : ∀ {a : A} {v : V}, RV K H a v → RV K H' a v
  | .non, _, h | .bl _, _, h | .int _, _, h | .str _, _, h | .ref _, _, h => by simp only [RV] at h ⊢; exact h
  | .tup xs, v, h => by
    simp only [RV] at h ⊢
    obtain ⟨p, vs, e, h1, h2⟩ := h
    exact ⟨p, vs, e, SqT.mono k h1, RVs.mono k h2⟩
  | .fro xs, v, h => by
    simp only [RV] at h ⊢
    obtain ⟨p, vs, e, h1, h2⟩ := h
    exact ⟨p, vs, e, SqF.mono k h1, RVs.mono k h2⟩
theorem RVs.mono (k : Im H H') : ∀ {xs : List A} {vs : List V}, RVs K H xs vs → RVs K H' xs vs
  | [], vs, h => h
  | x :: xs, vs, h => by
    simp only [RVs] at h ⊢
    obtain ⟨v, r, e, h1, h2⟩ := h
    exact ⟨v, r, e, RV.mono k h1, RVs.mono k h2⟩
end
end
/-- a key of the hand layer as a tree -/
def keyA : Key → A
  | .inl i => .int i
  | .inr x => .str x
section
variable (T : Tx)
def RK (H : Hp) (kvs : List (A × A)) (qs : List (Key × V)) : Prop := Paired (fun (p : A × A) (q : Key × V) => p.1 = keyA q.1 ∧ RV T.K H p.2 q.2) kvs qs
def RKT (H : Hp) (kvs : List (A × A)) (qs : List (List Key × V)) : Prop := Paired (fun (p : A × A) (q : List Key × V) => p.1 = .tup (q.1.map keyA) ∧ RV T.K H p.2 q.2) kvs qs
def RF (H : Hp) (fs : List (Str × A)) (gs : List (Str × V)) : Prop := Paired (fun (p : Str × A) (q : Str × V) => p.1 = q.1 ∧ RV T.K H p.2 q.2) fs gs
/-- the object at a stands for o -/
def RO (H : Hp) (a : Addr) : O → Prop
  | .lst xs => ∃ vs, H a = some (.lst vs) ∧ RVs T.K H xs vs
  | .dct kvs => (∃ qs, H a = some (.dK qs) ∧ RK T H kvs qs) ∨ ∃ qs, H a = some (.dT qs) ∧ RKT T H kvs qs
  | .ins C fs => ∃ c dx gs, T.cm C = some c ∧ H a = some (.ins c dx gs) ∧ RF T H fs gs
def RG (H : Hp) (G : Gp) : Prop := ∀ a o, G a = some o → RO T H a o
end
section
variable {T : Tx} {H H' : Hp} {G G' : Gp}
theorem RO.nimm {a : Addr} {o : O} (h : RO T H a o) {u : HO} (i : imm u) : H a ≠ some u := by
  intro z
  cases o with
  | lst xs => obtain ⟨vs, e, _⟩ := h; rw [e] at z; cases z; exact i
  | dct kvs => rcases h with ⟨vs, e, _⟩ | ⟨vs, e, _⟩ <;> (rw [e] at z; cases z; exact i)
  | ins C fs => obtain ⟨_, _, _, _, e, _⟩ := h; rw [e] at z; cases z; exact i
theorem RG.nimm (h : RG T H G) {p : Addr} {u : HO} (i : imm u) (r : H p = some u) : G p = none := by
  cases e : G p with
  | none => rfl
  | some o => exact absurd r ((h p o e).nimm i)
theorem RO.there {a : Addr} {o : O} (h : RO T H a o) : H a ≠ none := by
  intro z
  cases o with
  | lst xs => obtain ⟨vs, e, _⟩ := h; rw [e] at z; cases z
  | dct kvs => rcases h with ⟨vs, e, _⟩ | ⟨vs, e, _⟩ <;> (rw [e] at z; cases z)
  | ins C fs => obtain ⟨_, _, _, _, e, _⟩ := h; rw [e] at z; cases z
theorem RG.free (h : RG T H G) {p : Addr} (e : H p = none) : G p = none := by
  cases q : G p with
  | none => rfl
  | some o => exact absurd e (h p o q).there
/-- what lies outside of G is kept -/
def Kp (G : Gp) (H : Hp) (G' : Gp) (H' : Hp) : Prop := ∀ b u, G b = none → H b = some u → G' b = none ∧ H' b = some u
theorem Kp.refl : Kp G H G H := fun _ _ a b => ⟨a, b⟩
theorem Kp.trans {G1 : Gp} {H1 : Hp} (a : Kp G H G1 H1) (b : Kp G1 H1 G' H') : Kp G H G' H' := fun c u x y => b c u (a c u x y).1 (a c u x y).2
theorem Kp.tups (k : Kp G H G' H') (r : RG T H G) : Im H H' := fun p u i h => (k p u (r.nimm i h) h).2
theorem Kp.rv (k : Kp G H G' H') (r : RG T H G) {a : A} {v : V} (h : RV T.K H a v) : RV T.K H' a v := h.mono (k.tups r)
theorem Kp.rvs (k : Kp G H G' H') (r : RG T H G) {a : List A} {v : List V} (h : RVs T.K H a v) : RVs T.K H' a v := h.mono (k.tups r)
theorem RK.mono (k : Im H H') {kvs : List (A × A)} {qs : List (Key × V)} (h : RK T H kvs qs) : RK T H' kvs qs := Paired.mapP h fun _ _ z => ⟨z.1, z.2.mono k⟩
theorem RKT.mono (k : Im H H') {kvs : List (A × A)} {qs : List (List Key × V)} (h : RKT T H kvs qs) : RKT T H' kvs qs := Paired.mapP h fun _ _ z => ⟨z.1, z.2.mono k⟩
theorem RF.mono (k : Im H H') {kvs : List (Str × A)} {qs : List (Str × V)} (h : RF T H kvs qs) : RF T H' kvs qs := Paired.mapP h fun _ _ z => ⟨z.1, z.2.mono k⟩
theorem RO.mono (k : Im H H') {a : Addr} {o : O} (e : H' a = H a) (h : RO T H a o) : RO T H' a o := by
  cases o with
  | lst xs => obtain ⟨vs, q, r⟩ := h; exact ⟨vs, e.trans q, r.mono k⟩
  | dct kvs =>
    rcases h with ⟨vs, q, r⟩ | ⟨vs, q, r⟩
    · exact .inl ⟨vs, e.trans q, r.mono k⟩
    · exact .inr ⟨vs, e.trans q, r.mono k⟩
  | ins C fs => obtain ⟨c, dx, gs, m, q, r⟩ := h; exact ⟨c, dx, gs, m, e.trans q, r.mono k⟩
/-- an object laid or written at p -/
theorem im_upd {p : Addr} {h : HO} (n : ∀ u, imm u → H p ≠ some u) : Im H (upd H p h) := fun q u i z => by
  have e : q ≠ p := fun e => by subst e; exact n u i z
  exact (upd_ne e).trans z
theorem RG.up (r : RG T H G) {p : Addr} {h : HO} {o : O} (n : ∀ u, imm u → H p ≠ some u) (new : RO T (upd H p h) p o) : RG T (upd H p h) (up G p o) := fun b u e => by
  by_cases hb : b = p
  · subst hb; rw [up_same] at e; cases e; exact new
  · rw [up_ne hb] at e
    exact (r b u e).mono (im_upd n) (upd_ne hb)
theorem nimm_none {p : Addr} (e : H p = none) (u : HO) (_ : imm u) : H p ≠ some u := by rw [e]; intro z; cases z
/-- something that is no object of G's is laid -/
theorem RG.newT (r : RG T H G) {p : Addr} {h : HO} (e : H p = none) : RG T (upd H p h) G := fun b u q => by
  have hb : b ≠ p := fun z => by subst z; exact (r _ u q).there e
  exact (r b u q).mono (im_upd (nimm_none e)) (upd_ne hb)
theorem RG.new (r : RG T H G) {p : Addr} {h : HO} {o : O} (e : H p = none) (n : RO T (upd H p h) p o) : RG T (upd H p h) (Q.up G p o) := r.up (nimm_none e) n
theorem Kp.new {p : Addr} {h : HO} {o : O} (e : H p = none) : Kp G H (up G p o) (upd H p h) := fun b u x y => by
  have hb : b ≠ p := fun z => by subst z; rw [e] at y; cases y
  exact ⟨(up_ne hb).trans x, (upd_ne hb).trans y⟩
theorem Kp.newT {p : Addr} {h : HO} (e : H p = none) : Kp G H G (upd H p h) := fun b u x y => by
  have hb : b ≠ p := fun z => by subst z; rw [e] at y; cases y
  exact ⟨x, (upd_ne hb).trans y⟩
theorem Kp.wr {p : Addr} {h : HO} {o : O} (e : G p ≠ none) : Kp G H (up G p o) (upd H p h) := fun b u x y => by
  have hb : b ≠ p := fun z => by subst z; exact e x
  exact ⟨(up_ne hb).trans x, (upd_ne hb).trans y⟩
end
/-- the frame's places -/
def RS (K : PySem.W.Frag) (H : Hp) (ς : En) (σ : L2.St) : Prop := ς.length = σ.length ∧ ∀ (i : Nat) (a : A), ς[i]? = some (some a) → ∃ v, σ[i]? = some (some v) ∧ RV K H a v
theorem RS.mono {K : PySem.W.Frag} {H H' : Hp} {ς : En} {σ : L2.St} (k : Im H H') (h : RS K H ς σ) : RS K H' ς σ :=
  ⟨h.1, fun i a e => let ⟨v, e1, r⟩ := h.2 i a e; ⟨v, e1, r.mono k⟩⟩
theorem RS.set {K : PySem.W.Frag} {H : Hp} {ς : En} {σ : L2.St} (h : RS K H ς σ) (i : Nat) {a : A} {v : V} (r : RV K H a v) : RS K H (ς.set i (some a)) (σ.set i (some v)) := by
  refine ⟨by simpa using h.1, fun j b e => ?_⟩
  by_cases hj : i = j
  · subst hj
    by_cases hl : i < ς.length
    · rw [List.getElem?_set_self hl] at e
      cases e
      exact ⟨v, List.getElem?_set_self (by rw [← h.1]; exact hl), r⟩
    · rw [List.getElem?_eq_none (by simpa using hl)] at e; cases e
  · rw [List.getElem?_set_ne hj] at e
    obtain ⟨w, e1, r1⟩ := h.2 j b e
    exact ⟨w, by rw [List.getElem?_set_ne hj]; exact e1, r1⟩
end Q
/-! Q2: lifted readings; expressions. -/
namespace Q
open PySem PySem.Spec PyProof.Rows L2
def RX (T : Tx) (H : Hp) (e : Ex) (c : Value) (d : Option Addr) : Prop := ∃ a, T.cm e.cls = some a ∧ c = .ref a ∧ ((d = none ∧ e.val = .non) ∨ ∃ x gs, d = some x ∧ H x = some (.xd gs) ∧ RF T H [(("" : Str), e.val)] gs)
def LQ (T : Tx) (G : Gp) (H : Hp) (Qa : KA) (Q : VK) : Prop := ∀ a G' v H', Qa a G' → RV T.K H' a v → RG T H' G' → Kp G H G' H' → Q v H'
def LX (T : Tx) (G : Gp) (H : Hp) (Xa : KX) (W : XK) : Prop := ∀ e G' c d H', Xa e G' → RX T H' e c d → RG T H' G' → Kp G H G' H' → W c d H'
theorem LQ.step {T : Tx} {G G1 : Gp} {H H1 : Hp} {Qa : KA} {Q : VK} (q : LQ T G H Qa Q) (k : Kp G H G1 H1) : LQ T G1 H1 Qa Q := fun a G' v H' h rv rg k' => q a G' v H' h rv rg (k.trans k')
theorem LX.step {T : Tx} {G G1 : Gp} {H H1 : Hp} {Xa : KX} {W : XK} (q : LX T G H Xa W) (k : Kp G H G1 H1) : LX T G1 H1 Xa W := fun e G' c d H' h rv rg k' => q e G' c d H' h rv rg (k.trans k')
/-- an expression's reading, lifted -/
def lE (T : Tx) (W : L2.WX) (t : EA) : TE := fun σ H Q => ∃ ς G Qa Xa, RS T.K H ς σ ∧ RG T H G ∧ t ς G Qa Xa ∧ LQ T G H Qa Q ∧ LX T G H Xa (WE W σ)
def lB (T : Tx) (W : L2.WX) (t : BA) : TT := fun σ H Q => ∃ ς G Qa Xa, RS T.K H ς σ ∧ RG T H G ∧ t ς G Qa Xa ∧ (∀ b G' H', Qa b G' → RG T H' G' → Kp G H G' H' → Q b H') ∧ LX T G H Xa (WE W σ)
def lL (T : Tx) (W : L2.WX) (t : LA) : TA := fun σ H Q => ∃ ς G Qa Xa, RS T.K H ς σ ∧ RG T H G ∧ t ς G Qa Xa ∧ (∀ as G' vs H', Qa as G' → RVs T.K H' as vs → RG T H' G' → Kp G H G' H' → Q vs H') ∧ LX T G H Xa (WE W σ)
/-- operations of values -/
abbrev P1 := A → Gp → KA → Prop
abbrev P2 := A → A → Gp → KA → Prop
abbrev PN := List A → Gp → KA → Prop
def l2 (T : Tx) (f : P2) : R2 := fun x y H Q => ∃ a b G Qa, RV T.K H a x ∧ RV T.K H b y ∧ RG T H G ∧ f a b G Qa ∧ LQ T G H Qa Q
def lN (T : Tx) (f : PN) : List V → Hp → VK → Prop := fun xs H Q => ∃ as G Qa, RVs T.K H as xs ∧ RG T H G ∧ f as G Qa ∧ LQ T G H Qa Q
def lM (T : Tx) (f : A → PN) : V → List V → Hp → VK → Prop := fun x xs H Q => ∃ a as G Qa, RV T.K H a x ∧ RVs T.K H as xs ∧ RG T H G ∧ f a as G Qa ∧ LQ T G H Qa Q
theorem PE.imp {X : Cx} {e : Expr} {t t' : TE} (p : PE X e t) (h : ∀ σ H Q, t' σ H Q → t σ H Q) : PE X e t' := ⟨fun pins s σ H Q I q => p.run pins s σ H Q I (h σ H Q q)⟩
theorem PT.imp {X : Cx} {e : Expr} {t t' : TT} (p : PT X e t) (h : ∀ σ H Q, t' σ H Q → t σ H Q) : PT X e t' := ⟨fun pins s σ H Q I q => p.run pins s σ H Q I (h σ H Q q)⟩
theorem PA.imp {X : Cx} {e : List Expr} {t t' : TA} (p : PA X e t) (h : ∀ σ H Q, t' σ H Q → t σ H Q) : PA X e t' := ⟨fun pos pins s σ H Q I q => p.run pos pins s σ H Q I (h σ H Q q)⟩
theorem PS.imp {X : Cx} {e : Stmt} {t t' : TS} (p : PS X e t) (h : ∀ D σ H, t' D σ H → t D σ H) : PS X e t' := ⟨fun pins s σ H D I q => p.run pins s σ H D I (h D σ H q)⟩
theorem PSs.imp {X : Cx} {e : List Stmt} {t t' : TS} (p : PSs X e t) (h : ∀ D σ H, t' D σ H → t D σ H) : PSs X e t' := ⟨fun pins s σ H D I q => p.run pins s σ H D I (h D σ H q)⟩

/-! ### combinators -/
def eVar (i : Nat) : EA := fun ς G Q _ => match ς[i]? with
  | some (some a) => Q a G
  | _ => False
def eC (a : A) : EA := fun _ G Q _ => Q a G
def eBin (f : P2) (ta tb : EA) : EA := fun ς G Q X => ta ς G (fun x G1 => tb ς G1 (fun y G2 => f x y G2 Q) X) X
def eChain (f g : P2) (ta tb tc : EA) : EA := fun ς G Q X => ta ς G (fun x G1 => tb ς G1 (fun y G2 => f x y G2 fun z G3 => match z with
  | .bl true => tc ς G3 (fun w G4 => g y w G4 Q) X
  | .bl false => Q (.bl false) G3
  | _ => False) X) X
def eNeg (ta : EA) : EA := fun ς G Q X => ta ς G (fun x G1 => match x with
  | .int i => Q (.int (-i)) G1
  | _ => False) X
/-- a value's truth -/
def truA : A → Gp → (Bool → Gp → Prop) → Prop
  | .non, G, Q => Q false G
  | .bl b, G, Q => Q b G
  | .int i, G, Q => Q (i != 0) G
  | .str x, G, Q => x.length ≤ sizeLine ∧ Q (x.length != 0) G
  | .tup xs, G, Q => Q (!xs.isEmpty) G
  | .fro xs, G, Q => Q (!xs.isEmpty) G
  | .ref a, G, Q => match G a with
    | some (.lst xs) => Q (!xs.isEmpty) G
    | _ => False
def eNot (ta : EA) : EA := fun ς G Q X => ta ς G (fun x G1 => truA x G1 fun b G2 => Q (.bl (!b)) G2) X
def eAnd (ta tb : EA) : EA := fun ς G Q X => ta ς G (fun x G1 => truA x G1 fun b G2 => if b = true then tb ς G2 Q X else Q x G2) X
def eOr (ta tb : EA) : EA := fun ς G Q X => ta ς G (fun x G1 => truA x G1 fun b G2 => if b = true then Q x G2 else tb ς G2 Q X) X
def eIf (t : BA) (ta tb : EA) : EA := fun ς G Q X => t ς G (fun b G1 => if b = true then ta ς G1 Q X else tb ς G1 Q X) X
def lNil : LA := fun _ G Q _ => Q [] G
def lCons (t : EA) (u : LA) : LA := fun ς G Q X => t ς G (fun a G1 => u ς G1 (fun as G2 => Q (a :: as) G2) X) X
def eTup (t : LA) : EA := fun ς G Q X => t ς G (fun as G1 => as.length ≤ sizeLine ∧ Q (.tup as) G1) X
def new (o : O) (G : Gp) (Q : KA) : Prop := ∀ p, G p = none → Q (.ref p) (up G p o)
def eLst (t : LA) : EA := fun ς G Q X => t ς G (fun as G1 => as.length ≤ sizeLine ∧ new (.lst as) G1 Q) X
def eDct0 : EA := fun _ G Q _ => new (.dct []) G Q
def eBi (f : PN) (t : LA) : EA := fun ς G Q X => t ς G (fun as G1 => f as G1 Q) X
def eMt (f : A → PN) (to : EA) (t : LA) : EA := fun ς G Q X => to ς G (fun x G1 => t ς G1 (fun as G2 => f x as G2 Q) X) X
abbrev Cal := String → List A → Gp → KA → KX → Prop
def eCall (c : Cal) (f : String) (t : LA) : EA := fun ς G Q X => t ς G (fun as G1 => c f as G1 Q X) X
/-! tests -/
def bV (t : EA) : BA := fun ς G Q X => t ς G (fun x G1 => truA x G1 Q) X
def bNot (t : BA) : BA := fun ς G Q X => t ς G (fun b G1 => Q (!b) G1) X
def bAnd (t u : BA) : BA := fun ς G Q X => t ς G (fun b G1 => if b = true then u ς G1 Q X else Q false G1) X
def bOr (t u : BA) : BA := fun ς G Q X => t ς G (fun b G1 => if b = true then Q true G1 else u ς G1 Q X) X
def bB (t : EA) : BA := fun ς G Q X => t ς G (fun x G1 => match x with
  | .bl b => Q b G1
  | _ => False) X

/-! ### their rules -/
section
variable {X : Cx} {T : Tx} {W : L2.WX} {a b e : Expr} {es : List Expr} {ta tb tc : EA} {t u : LA} {pos : Pos}
theorem p_var {i : Nat} {x : Str} (hN : X.N[i]? = some x) (hv : Vis X.env.scope x) (hd : (x == ("__debug__" : Str)) = false) (hcd : (x == ("__classdict__" : Str)) = false) : PE X (.Name x pos) (lE T W (eVar i)) := by
  refine PE.imp (pe_var hN hv hd hcd) fun σ H Q ⟨ς, G, Qa, Xa, rs, rg, h, q, _⟩ => ?_
  unfold eVar at h
  split at h
  · rename_i a e
    obtain ⟨v, e1, r⟩ := rs.2 i a e
    exact ⟨v, e1, q _ _ _ _ h r rg Kp.refl⟩
  · exact h.elim
theorem p_const {e : Expr} {a : A} {v : V} (h : PE X e (tC v)) (r : ∀ H, RV T.K H a v) : PE X e (lE T W (eC a)) :=
  PE.imp h fun σ H Q ⟨ς, G, Qa, Xa, rs, rg, h, q, _⟩ => q _ _ _ _ h (r H) rg Kp.refl
theorem p_bin {op : Operator} {f : P2} (ho : OpR X (binaryOp op) (l2 T f)) (ha : PE X a (lE T W ta)) (hb : PE X b (lE T W tb)) : PE X (.BinOp a op b pos) (lE T W (eBin f ta tb)) := by
  refine PE.imp (pe_op ho ha hb) fun σ H Q ⟨ς, G, Qa, Xa, rs, rg, h, q, hx⟩ => ⟨ς, G, _, Xa, rs, rg, h, fun x G1 v H1 h1 rv rg1 k1 => ?_, hx⟩
  exact ⟨ς, G1, _, Xa, rs.mono (k1.tups rg), rg1, h1, fun y G2 w H2 h2 rw rg2 k2 => ⟨x, y, G2, Qa, k2.rv rg1 rv, rw, rg2, h2, q.step (k1.trans k2)⟩, hx.step k1⟩
theorem p_cmp {op : CmpOp} {f : P2} (ho : OpR X (compareOp op) (l2 T f)) (ha : PE X a (lE T W ta)) (hb : PE X b (lE T W tb)) (hm : behindInMarks op b = false) : PE X (.Compare a [op] [b] pos) (lE T W (eBin f ta tb)) := by
  refine PE.imp (pe_cmpR ho ha hb hm) fun σ H Q ⟨ς, G, Qa, Xa, rs, rg, h, q, hx⟩ => ⟨ς, G, _, Xa, rs, rg, h, fun x G1 v H1 h1 rv rg1 k1 => ?_, hx⟩
  exact ⟨ς, G1, _, Xa, rs.mono (k1.tups rg), rg1, h1, fun y G2 w H2 h2 rw rg2 k2 => ⟨x, y, G2, Qa, k2.rv rg1 rv, rw, rg2, h2, q.step (k1.trans k2)⟩, hx.step k1⟩
theorem RV.bl {K : PySem.W.Frag} {H : Hp} {a : A} {b : Bool} (h : RV K H a (.bl b)) : a = .bl b := by
  cases a <;> simp only [RV] at h
  all_goals first | (cases h; rfl) | (exfalso; obtain ⟨_, _, z, _⟩ := h; cases z) | cases h
theorem q_cmp {op : CmpOp} {f : P2} (ho : OpR X (compareOp op) (l2 T f)) (ha : PE X a (lE T W ta)) (hb : PE X b (lE T W tb)) (hm : behindInMarks op b = false) : PT X (.Compare a [op] [b] pos) (lB T W (bB (eBin f ta tb))) := by
  refine PT.imp (pt_cmpR ho ha hb hm) fun σ H Q ⟨ς, G, Qa, Xa, rs, rg, h, q, hx⟩ => ⟨ς, G, _, Xa, rs, rg, h, fun x G1 v H1 h1 rv rg1 k1 => ?_, hx⟩
  refine ⟨ς, G1, _, Xa, rs.mono (k1.tups rg), rg1, h1, fun y G2 w H2 h2 rw rg2 k2 => ⟨x, y, G2, _, k2.rv rg1 rv, rw, rg2, h2, fun z G3 v3 H3 h3 r3 rg3 k3 => ?_⟩, hx.step k1⟩
  cases z with
  | bl bz => ?_
  | _ => exact False.elim h3
  simp only [RV] at r3
  exact ⟨_, r3, q _ _ _ h3 rg3 ((k1.trans k2).trans k3)⟩
theorem p_chain {op op' : CmpOp} {f g : P2} {c : Expr} (ho : OpR X (compareOp op) (l2 T f)) (ho' : OpR X (compareOp op') (l2 T g)) (ha : PE X a (lE T W ta)) (hb : PE X b (lE T W tb)) (hc : PE X c (lE T W tc))
    (hm : lastMarks [op, op'] [b, c] = false) : PE X (.Compare a [op, op'] [b, c] pos) (lE T W (eChain f g ta tb tc)) := by
  refine PE.imp (pe_chain ho ho' ha hb hc hm) fun σ H Q ⟨ς, G, Qa, Xa, rs, rg, h, q, hx⟩ => ⟨ς, G, _, Xa, rs, rg, h, fun x G1 v H1 h1 rv rg1 k1 => ?_, hx⟩
  refine ⟨ς, G1, _, Xa, rs.mono (k1.tups rg), rg1, h1, fun y G2 w H2 h2 rw rg2 k2 => ⟨x, y, G2, _, k2.rv rg1 rv, rw, rg2, h2, fun z G3 v3 H3 h3 r3 rg3 k3 => ?_⟩, hx.step k1⟩
  have k23 := k2.trans k3
  have k13 := k1.trans k23
  cases z with
  | bl bz => ?_
  | _ => exact False.elim h3
  simp only [RV] at r3
  subst r3
  refine ⟨bz, rfl, ?_⟩
  cases bz
  · exact q _ _ _ _ h3 (by simp only [RV]) rg3 k13
  · exact ⟨ς, G3, _, Xa, rs.mono (k13.tups rg), rg3, h3, fun w' G4 v4 H4 h4 r4 rg4 k4 => ⟨y, w', G4, Qa, (k3.trans k4).rv rg2 rw, r4, rg4, h4, q.step (k13.trans k4)⟩, hx.step k13⟩
theorem q_chain {op op' : CmpOp} {f g : P2} {c : Expr} (ho : OpR X (compareOp op) (l2 T f)) (ho' : OpR X (compareOp op') (l2 T g)) (ha : PE X a (lE T W ta)) (hb : PE X b (lE T W tb)) (hc : PE X c (lE T W tc))
    (hm : lastMarks [op, op'] [b, c] = false) : PT X (.Compare a [op, op'] [b, c] pos) (lB T W (bB (eChain f g ta tb tc))) := by
  refine PT.imp (pt_chain ho ho' ha hb hc hm) fun σ H Q ⟨ς, G, Qa, Xa, rs, rg, h, q, hx⟩ => ⟨ς, G, _, Xa, rs, rg, h, fun x G1 v H1 h1 rv rg1 k1 => ?_, hx⟩
  refine ⟨ς, G1, _, Xa, rs.mono (k1.tups rg), rg1, h1, fun y G2 w H2 h2 rw rg2 k2 => ⟨x, y, G2, _, k2.rv rg1 rv, rw, rg2, h2, fun z G3 v3 H3 h3 r3 rg3 k3 => ?_⟩, hx.step k1⟩
  have k23 := k2.trans k3
  have k13 := k1.trans k23
  cases z with
  | bl bz => ?_
  | _ => exact False.elim h3
  simp only [RV] at r3
  subst r3
  refine ⟨bz, rfl, ?_⟩
  cases bz
  · exact ⟨false, rfl, q _ _ _ h3 rg3 k13⟩
  · refine ⟨ς, G3, _, Xa, rs.mono (k13.tups rg), rg3, h3, fun w' G4 v4 H4 h4 r4 rg4 k4 => ⟨y, w', G4, _, (k3.trans k4).rv rg2 rw, r4, rg4, h4, fun z' G5 v5 H5 h5 r5 rg5 k5 => ?_⟩, hx.step k13⟩
    cases z' with
    | bl b5 => ?_
    | _ => exact False.elim h5
    simp only [RV] at r5
    exact ⟨b5, r5, q _ _ _ h5 rg5 ((k13.trans k4).trans k5)⟩
end
end Q
/-! Q3: truth, lists, calls. -/
namespace Q
open PySem PySem.Spec PyProof.Rows L2
section
variable {X : Cx} {T : Tx} {W : L2.WX} {a b e : Expr} {es rest : List Expr} {ta tb tc : EA} {t u : LA} {pos : Pos}
theorem tru_rep {G : Gp} {H : Hp} {x : A} {v : V} {Q : Bool → Gp → Prop} (rg : RG T H G) (r : RV T.K H x v) (h : truA x G Q) : ∃ k, TruV T.K v H k ∧ Q k G := by
  cases x with
  | non => simp only [RV] at r; subst r; exact ⟨false, rfl, h⟩
  | bl c => simp only [RV] at r; subst r; exact ⟨c, rfl, h⟩
  | int i => simp only [RV] at r; subst r; exact ⟨_, rfl, h⟩
  | str y =>
    simp only [RV] at r; subst r
    refine ⟨_, ⟨h.1, rfl⟩, ?_⟩
    have e : ((y.length : Int) != 0) = (y.length != 0) := by
      cases hy : y.length with
      | zero => rfl
      | succ n => rfl
    rw [e]; exact h.2
  | tup xs =>
    simp only [RV] at r
    obtain ⟨p, vs, rfl, s, rv⟩ := r
    refine ⟨_, .inr (.inl ⟨vs, s, rfl⟩), ?_⟩
    have hl := rv.len
    have e : (!vs.isEmpty) = !xs.isEmpty := by cases vs <;> cases xs <;> simp_all
    rw [e]; exact h
  | fro xs =>
    simp only [RV] at r
    obtain ⟨p, vs, rfl, s, rv⟩ := r
    refine ⟨_, .inl ⟨vs, s.sq, rfl⟩, ?_⟩
    have hl := rv.len
    have e : (!vs.isEmpty) = !xs.isEmpty := by cases vs <;> cases xs <;> simp_all
    rw [e]; exact h
  | ref p =>
    simp only [RV] at r; subst r
    simp only [truA] at h
    cases hg : G p with
    | none => rw [hg] at h; exact h.elim
    | some o =>
      rw [hg] at h
      have ro := rg p o hg
      cases o with
      | lst xs =>
        obtain ⟨vs, e1, rv⟩ := ro
        have hl := rv.len
        have e : (!vs.isEmpty) = !xs.isEmpty := by cases vs <;> cases xs <;> simp_all
        exact ⟨_, .inl ⟨vs, .of e1, rfl⟩, by rw [e]; exact h⟩
      | dct _ => exact h.elim
      | ins _ _ => exact h.elim
theorem p_neg (ha : PE X a (lE T W ta)) : PE X (.UnaryOp .USub a pos) (lE T W (eNeg ta)) := by
  refine PE.imp (pe_un un_neg ha) fun σ H Q ⟨ς, G, Qa, Xa, rs, rg, h, q, hx⟩ => ⟨ς, G, _, Xa, rs, rg, h, fun x G1 v H1 h1 rv rg1 k1 => ?_, hx⟩
  cases x with
  | int i => ?_
  | _ => exact False.elim h1
  simp only [RV] at rv
  exact ⟨i, rv, q _ _ _ _ h1 (by simp only [RV]) rg1 k1⟩
theorem p_not (hT : T.K = X.K) (ha : PE X a (lE T W ta)) : PE X (.UnaryOp .Not a pos) (lE T W (eNot ta)) := by
  refine PE.imp (pe_notT ha) fun σ H Q ⟨ς, G, Qa, Xa, rs, rg, h, q, hx⟩ => ⟨ς, G, _, Xa, rs, rg, h, fun x G1 v H1 h1 rv rg1 k1 => ?_, hx⟩
  obtain ⟨k, tv, h2⟩ := tru_rep rg1 rv h1
  exact ⟨k, hT ▸ tv, q _ _ _ _ h2 (by simp only [RV]) rg1 k1⟩
theorem p_one {op : BoolOp} {t : TE} (h : PE X a t) : PE X (.BoolOp op [a] pos) t := pe_one h
theorem p_and (hT : T.K = X.K) (ha : PE X a (lE T W ta)) (hb : PE X (.BoolOp .And (b :: rest) pos) (lE T W tb)) : PE X (.BoolOp .And (a :: b :: rest) pos) (lE T W (eAnd ta tb)) := by
  refine PE.imp (pe_andT ha hb) fun σ H Q ⟨ς, G, Qa, Xa, rs, rg, h, q, hx⟩ => ⟨ς, G, _, Xa, rs, rg, h, fun x G1 v H1 h1 rv rg1 k1 => ?_, hx⟩
  obtain ⟨k, tv, h2⟩ := tru_rep rg1 rv h1
  refine ⟨k, hT ▸ tv, ?_⟩
  cases k
  · rw [if_neg Bool.false_ne_true] at h2 ⊢
    exact q _ _ _ _ h2 rv rg1 k1
  · rw [if_pos rfl] at h2 ⊢
    exact ⟨ς, G1, Qa, Xa, rs.mono (k1.tups rg), rg1, h2, q.step k1, hx.step k1⟩
theorem p_or (hT : T.K = X.K) (ha : PE X a (lE T W ta)) (hb : PE X (.BoolOp .Or (b :: rest) pos) (lE T W tb)) : PE X (.BoolOp .Or (a :: b :: rest) pos) (lE T W (eOr ta tb)) := by
  refine PE.imp (pe_orT ha hb) fun σ H Q ⟨ς, G, Qa, Xa, rs, rg, h, q, hx⟩ => ⟨ς, G, _, Xa, rs, rg, h, fun x G1 v H1 h1 rv rg1 k1 => ?_, hx⟩
  obtain ⟨k, tv, h2⟩ := tru_rep rg1 rv h1
  refine ⟨k, hT ▸ tv, ?_⟩
  cases k
  · rw [if_neg Bool.false_ne_true] at h2 ⊢
    exact ⟨ς, G1, Qa, Xa, rs.mono (k1.tups rg), rg1, h2, q.step k1, hx.step k1⟩
  · rw [if_pos rfl] at h2 ⊢
    exact q _ _ _ _ h2 rv rg1 k1
theorem p_if {c : Expr} {tt : BA} (hc : PT X c (lB T W tt)) (ha : PE X a (lE T W ta)) (hb : PE X b (lE T W tb)) : PE X (.IfExp c a b pos) (lE T W (eIf tt ta tb)) := by
  refine PE.imp (pe_ifExp hc ha hb) fun σ H Q ⟨ς, G, Qa, Xa, rs, rg, h, q, hx⟩ => ⟨ς, G, _, Xa, rs, rg, h, fun k G1 H1 h1 rg1 k1 => ?_, hx⟩
  cases k
  · rw [if_neg Bool.false_ne_true] at h1 ⊢
    exact ⟨ς, G1, Qa, Xa, rs.mono (k1.tups rg), rg1, h1, q.step k1, hx.step k1⟩
  · rw [if_pos rfl] at h1 ⊢
    exact ⟨ς, G1, Qa, Xa, rs.mono (k1.tups rg), rg1, h1, q.step k1, hx.step k1⟩
/-! tests -/
theorem q_val (hT : T.K = X.K) (ha : PE X a (lE T W ta)) (he : ∀ whole, isTrue a X.env whole = (do let v ← whole; standAt a.pos; holding [v] (truthy v))) : PT X a (lB T W (bV ta)) := by
  refine PT.imp (pt_truth ha he) fun σ H Q ⟨ς, G, Qa, Xa, rs, rg, h, q, hx⟩ => ⟨ς, G, _, Xa, rs, rg, h, fun x G1 v H1 h1 rv rg1 k1 => ?_, hx⟩
  obtain ⟨k, tv, h2⟩ := tru_rep rg1 rv h1
  exact ⟨k, hT ▸ tv, q _ _ _ h2 rg1 k1⟩
theorem q_not {tt : BA} (ha : PT X a (lB T W tt)) : PT X (.UnaryOp .Not a pos) (lB T W (bNot tt)) :=
  PT.imp (pt_not ha) fun σ H Q ⟨ς, G, Qa, Xa, rs, rg, h, q, hx⟩ => ⟨ς, G, _, Xa, rs, rg, h, fun k G1 H1 h1 rg1 k1 => q _ _ _ h1 rg1 k1, hx⟩
theorem PW.imp {X : Cx} {e : Expr} {t t' : TT} (p : PW X e t) (h : ∀ σ H Q, t' σ H Q → t σ H Q) : PW X e t' := ⟨fun wh pins s σ H Q I q => p.run wh pins s σ H Q I (h σ H Q q)⟩
theorem q_and1 {tt : BA} (ha : PT X a (lB T W tt)) : PW X (.BoolOp .And [a] pos) (lB T W tt) := pw_and1 ha
theorem q_or1 {tt : BA} (ha : PT X a (lB T W tt)) : PW X (.BoolOp .Or [a] pos) (lB T W tt) := pw_or1 ha
theorem q_and {tt uu : BA} (ha : PT X a (lB T W tt)) (hb : PW X (.BoolOp .And (b :: rest) pos) (lB T W uu)) : PW X (.BoolOp .And (a :: b :: rest) pos) (lB T W (bAnd tt uu)) := by
  refine PW.imp (pw_and ha hb) fun σ H Q ⟨ς, G, Qa, Xa, rs, rg, h, q, hx⟩ => ⟨ς, G, _, Xa, rs, rg, h, fun k G1 H1 h1 rg1 k1 => ?_, hx⟩
  cases k
  · rw [if_neg Bool.false_ne_true] at h1 ⊢
    exact q _ _ _ h1 rg1 k1
  · rw [if_pos rfl] at h1 ⊢
    exact ⟨ς, G1, Qa, Xa, rs.mono (k1.tups rg), rg1, h1, fun b' G' H' z rg' k' => q b' G' H' z rg' (k1.trans k'), hx.step k1⟩
theorem q_or {tt uu : BA} (ha : PT X a (lB T W tt)) (hb : PW X (.BoolOp .Or (b :: rest) pos) (lB T W uu)) : PW X (.BoolOp .Or (a :: b :: rest) pos) (lB T W (bOr tt uu)) := by
  refine PW.imp (pw_or ha hb) fun σ H Q ⟨ς, G, Qa, Xa, rs, rg, h, q, hx⟩ => ⟨ς, G, _, Xa, rs, rg, h, fun k G1 H1 h1 rg1 k1 => ?_, hx⟩
  cases k
  · rw [if_neg Bool.false_ne_true] at h1 ⊢
    exact ⟨ς, G1, Qa, Xa, rs.mono (k1.tups rg), rg1, h1, fun b' G' H' z rg' k' => q b' G' H' z rg' (k1.trans k'), hx.step k1⟩
  · rw [if_pos rfl] at h1 ⊢
    exact q _ _ _ h1 rg1 k1
/-! lists of expressions -/
theorem l_nil : PA X [] (lL T W lNil) := PA.imp pa_nil fun σ H Q ⟨ς, G, Qa, Xa, rs, rg, h, q, hx⟩ => q _ _ _ _ h rfl rg Kp.refl
theorem l_cons (ha : PE X e (lE T W ta)) (hr : PA X es (lL T W t)) (hs : starEach (e :: es) X.env = (false, eval e X.env) :: starEach es X.env) : PA X (e :: es) (lL T W (lCons ta t)) := by
  refine PA.imp (pa_cons ha hr hs) fun σ H Q ⟨ς, G, Qa, Xa, rs, rg, h, q, hx⟩ => ⟨ς, G, _, Xa, rs, rg, h, fun x G1 v H1 h1 rv rg1 k1 => ?_, hx⟩
  exact ⟨ς, G1, _, Xa, rs.mono (k1.tups rg), rg1, h1, fun as G2 vs H2 h2 rw rg2 k2 => q _ _ _ _ h2 (.cons (k2.rv rg1 rv) rw) rg2 (k1.trans k2), hx.step k1⟩
theorem p_tup {x1 : Nat} (h : PA X es (lL T W t)) : PE X (.Tuple es x1 pos) (lE T W (eTup t)) := by
  refine PE.imp (pe_tup h) fun σ H Q ⟨ς, G, Qa, Xa, rs, rg, h, q, hx⟩ => ⟨ς, G, _, Xa, rs, rg, h, fun as G1 vs H1 h1 rv rg1 k1 => ?_, hx⟩
  refine ⟨by rw [rv.len]; exact h1.1, fun p hp => ?_⟩
  exact q _ _ _ _ h1.2 ⟨p, vs, rfl, .of upd_same, rv.mono (im_upd (nimm_none hp))⟩ (rg1.newT hp) (k1.trans (Kp.newT hp))
theorem new_lst {T : Tx} {G1 : Gp} {H1 : Hp} {as : List A} {vs : List V} {Qa : KA} {Q : VK} (rg1 : RG T H1 G1) (rv : RVs T.K H1 as vs) (h : new (.lst as) G1 Qa) (q : LQ T G1 H1 Qa Q) {p : Addr} (hp : H1 p = none) : Q (.ref p) (upd H1 p (.lst vs)) :=
  q _ _ _ _ (h p (rg1.free hp)) (by simp only [RV]) (rg1.new hp ⟨vs, upd_same, rv.mono (im_upd (nimm_none hp))⟩) (Kp.new hp)
theorem p_lst (h : PA X es (lL T W t)) : PE X (.List es pos) (lE T W (eLst t)) := by
  refine PE.imp (pe_lst h) fun σ H Q ⟨ς, G, Qa, Xa, rs, rg, h, q, hx⟩ => ⟨ς, G, _, Xa, rs, rg, h, fun as G1 vs H1 h1 rv rg1 k1 => ?_, hx⟩
  exact ⟨by rw [rv.len]; exact h1.1, fun p hp => new_lst rg1 rv h1.2 (q.step k1) hp⟩
theorem p_dct0 : PE X (.Dict [] [] pos) (lE T W eDct0) := by
  refine PE.imp pe_dnewK fun σ H Q ⟨ς, G, Qa, Xa, rs, rg, h, q, hx⟩ => fun p hp => ?_
  exact q _ _ _ _ (h p (rg.free hp)) (by simp only [RV]) (rg.new hp (.inl ⟨[], upd_same, .nil⟩)) (Kp.new hp)
theorem p_bi {f : PN} {x : Str} {p : Pos} {id : String} (hc : CallR X (.builtin id) (lN T f)) (hg : Gl X x) (hm : X.mg x = none) (hv : bootBuiltins x = some (.builtin id)) (ha : PA X (e :: es) (lL T W t)) (hn : x ≠ "__name__") (hdb : (x == ("__debug__" : Str)) = false)
    (he : starEach (e :: es) X.env = (false, eval e X.env) :: starEach es X.env) (hpl : (backTo pos (starEach es X.env)).any (·.1) = false) : PE X (.Call (.Name x p) (e :: es) [] pos) (lE T W (eBi f t)) := by
  refine PE.imp (pe_callB hc hg hm hv ha hn hdb he hpl) fun σ H Q ⟨ς, G, Qa, Xa, rs, rg, h, q, hx⟩ => ⟨ς, G, _, Xa, rs, rg, h, fun as G1 vs H1 h1 rv rg1 k1 => ?_, hx⟩
  exact ⟨as, G1, Qa, rv, rg1, h1, q.step k1⟩
theorem p_bt {f : PN} {x : Str} {p : Pos} {id : String} (hc : CallR X (.type id) (lN T f)) (hg : Gl X x) (hm : X.mg x = none) (hv : bootBuiltins x = some (.type id)) (ha : PA X (e :: es) (lL T W t)) (hn : x ≠ "__name__") (hdb : (x == ("__debug__" : Str)) = false)
    (he : starEach (e :: es) X.env = (false, eval e X.env) :: starEach es X.env) (hpl : (backTo pos (starEach es X.env)).any (·.1) = false) : PE X (.Call (.Name x p) (e :: es) [] pos) (lE T W (eBi f t)) := by
  refine PE.imp (pe_callTy hc hg hm hv ha hn hdb he hpl) fun σ H Q ⟨ς, G, Qa, Xa, rs, rg, h, q, hx⟩ => ⟨ς, G, _, Xa, rs, rg, h, fun as G1 vs H1 h1 rv rg1 k1 => ?_, hx⟩
  exact ⟨as, G1, Qa, rv, rg1, h1, q.step k1⟩
end
end Q
/-! Qr: the text of data, where only the addresses of dicts must not be the module table's. -/
namespace Q
open PySem PySem.Spec PyProof.Rows L2
/-- the dicts that a reading goes over are not the module table -/
def NoSys (h : Heap) (as : List Addr) : Prop := ∀ a ∈ as, (∃ o es ep, h.get? a = some o ∧ o.data = .dict es ep) → a ≠ sysModules
section
variable {h : Heap} {as bs : List Addr} {a : Addr}
theorem NoSys.nil : NoSys h [] := fun _ z => nomatch z
theorem NoSys.app (x : NoSys h as) (y : NoSys h bs) : NoSys h (as ++ bs) := fun a m => by
  rcases List.mem_append.mp m with m | m
  · exact x a m
  · exact y a m
theorem NoSys.left (x : NoSys h (as ++ bs)) : NoSys h as := fun a m => x a (List.mem_append_left _ m)
theorem NoSys.right (x : NoSys h (as ++ bs)) : NoSys h bs := fun a m => x a (List.mem_append_right _ m)
theorem NoSys.tail (x : NoSys h (a :: as)) : NoSys h as := fun b m => x b (List.mem_cons_of_mem _ m)
theorem NoSys.seq {o : Obj} {vs : Array Value} {n : Nat} (ho : h.get? a = some o) (hd : o.data = .seq vs n) (x : NoSys h as) : NoSys h (a :: as) := fun b m => by
  rcases List.mem_cons.mp m with rfl | m
  · rintro ⟨o', es, ep, e, d⟩
    rw [ho] at e; cases e
    rw [hd] at d; cases d
  · exact x b m
theorem NoSys.dct (ne : a ≠ sysModules) (x : NoSys h as) : NoSys h (a :: as) := fun b m => by
  rcases List.mem_cons.mp m with rfl | m
  · exact fun _ => ne
  · exact x b m
end
section
variable {P : Program} {w : World} {h₀ : Heap}
mutual
theorem rk_one : ∀ {v : Value} {d : PyData} {as : List Addr}, Reads h₀ v d as → d.showable = true → NoSys h₀ as → d.shown.length ≤ sizeLine →
    ∃ bs, ReadAtMost h₀ d.depth bs ∧ ReprK P w bs h₀ d.depth v d.shown
  | _, _, _, .none, _, _, _ =>
    ⟨[], (fun _ z => nomatch z), by simp only [PyData.shown]
                                    exact .of_is ReprIs.none _ _ _⟩
  | _, _, _, .bool b, _, _, _ =>
    ⟨[], (fun _ z => nomatch z), by simp only [PyData.shown]
                                    exact .of_is (ReprIs.bool b) _ _ _⟩
  | _, _, _, .int i t, sh, _, _ =>
    ⟨[], (fun _ z => nomatch z), by simp only [PyData.shown]
                                    exact .of_is (ReprIs.int t (by simpa [PyData.showable] using sh)) _ _ _⟩
  | _, _, _, .str x t, _, _, sz =>
    ⟨[], (fun _ z => nomatch z), by simp only [PyData.shown]
                                    exact .of_is (ReprIs.str x t (by simpa only [PyData.shown] using sz)) _ _ _⟩
  | _, _, _, .list (a := a) (vs := vs) (xs := xs) e1 e2 e3 e4, sh, ns, sz => by
    have sz' : (listText (PyData.shownAll xs)).length ≤ sizeLine := by
      simpa only [PyData.shown] using sz
    obtain ⟨bs, hb, hk⟩ := rk_all e4 (by simpa [PyData.showable] using sh) ns.tail
      (fun t ht => Nat.le_trans (listText_mem_le ht) sz')
    have r : Reads h₀ (.ref a) (.list xs) _ :=
      .list e1 e2 e3 e4
    have na : a ∉ bs :=
      not_mem_of_deeper r (by simp only [PyData.depth]; omega) hb
    refine ⟨a :: bs,
      ReadAtMost.cons r (by simp only [PyData.depth]; omega) hb, ?_⟩
    simp only [PyData.depth, PyData.shown]
    obtain ⟨l⟩ := vs
    cases l with
    | nil =>
      have e5 : ReadsAll h₀ [] xs _ := e4
      cases e5
      simp only [PyData.shownAll, listText_nil]
      exact ReprK.listEmpty e1 e2 e3
    | cons x l =>
      exact ReprK.list e1 e2 e3 na (by simpa using hk.length_eq)
        (fun i y e => hk.item i y (by simpa using e))
  | _, _, _, .tuple (a := a) (xs := xs) e1 e2 e3 e4, sh, ns, sz => by
    have sz' : (tupleText (PyData.shownAll xs)).length ≤ sizeLine := by
      simpa only [PyData.shown] using sz
    obtain ⟨bs, hb, hk⟩ := rk_all e4 (by simpa [PyData.showable] using sh) ns
      (fun t ht => Nat.le_trans (tupleText_mem_le ht) sz')
    have r : Reads h₀ (.ref a) (.tuple xs) _ :=
      .tuple e1 e2 e3 e4
    have na : a ∉ bs :=
      not_mem_of_deeper r (by simp only [PyData.depth]; omega) hb
    refine ⟨a :: bs,
      ReadAtMost.cons r (by simp only [PyData.depth]; omega) hb, ?_⟩
    simp only [PyData.depth, PyData.shown]
    exact ReprK.tuple e1 e2 e3 na hk
  | _, _, _, .dict (a := a) (es := es) (kvs := kvs) (as := p1) (bs := p2) e1 e2 e3 e4 e5, sh, ns, sz => by
    have sz' : (dictText (PyData.shownKv kvs)).length ≤ sizeLine := by
      simpa only [PyData.shown] using sz
    obtain ⟨s1, s2⟩ := PyData.showableKv_split kvs
      (by simpa [PyData.showable] using sh)
    have ns' : NoSys h₀ (p1 ++ p2) := by simpa using ns.tail
    obtain ⟨b1, hb1, k1⟩ := rk_all e4 s1 ns'.left fun t ht =>
      let ⟨p, hp, hl⟩ := PyData.shownKv_key_le kvs t ht
      Nat.le_trans hl (Nat.le_trans (dictText_mem_le hp) sz')
    obtain ⟨b2, hb2, k2⟩ := rk_all e5 s2 ns'.right fun t ht =>
      let ⟨p, hp, hl⟩ := PyData.shownKv_val_le kvs t ht
      Nat.le_trans hl (Nat.le_trans (dictText_mem_le hp) sz')
    have r : Reads h₀ (.ref a) (.dict kvs) _ :=
      .dict e1 e2 e3 e4 e5
    have hb : ReadAtMost h₀ (PyData.depthKv kvs) (b1 ++ b2) :=
      (hb1.mono (PyData.depthAll_keys_le kvs)).append
        (hb2.mono (PyData.depthAll_vals_le kvs))
    have na : a ∉ b1 ++ b2 :=
      not_mem_of_deeper r (by simp only [PyData.depth]; omega) hb
    have hs : (a == sysModules) = false :=
      beq_eq_false_iff_ne.mpr (ns a (by simp) ⟨_, _, _, e1, e3⟩)
    refine ⟨a :: (b1 ++ b2),
      ReadAtMost.cons r (by simp only [PyData.depth]; omega) hb, ?_⟩
    simp only [PyData.depth, PyData.shown, PyData.shownKv_eq]
    refine ReprK.dict e1 e2 e3 hs na (ReprEntriesK.of_two es.toList _ _ ?_ ?_)
    · exact k1.more_le (fun b z => List.mem_append_left _ z)
        (PyData.depthAll_keys_le kvs)
    · exact k2.more_le (fun b z => List.mem_append_right _ z)
        (PyData.depthAll_vals_le kvs)
theorem rk_all : ∀ {vs : List Value} {ds : List PyData} {as : List Addr}, ReadsAll h₀ vs ds as → PyData.showableAll ds = true → NoSys h₀ as → (∀ t ∈ PyData.shownAll ds, t.length ≤ sizeLine) →
    ∃ bs, ReadAtMost h₀ (PyData.depthAll ds) bs ∧ ReprAllK P w bs h₀ (PyData.depthAll ds) vs (PyData.shownAll ds)
  | _, _, _, .nil, _, _, _ =>
    ⟨[], (fun _ z => nomatch z), by simp only [PyData.shownAll]
                                    exact .nil⟩
  | _, _, _, .cons (d := d) (ds := ds) r rs, sh, ns, sz => by
    have sh' : d.showable = true ∧ PyData.showableAll ds = true := by
      simpa [PyData.showableAll] using sh
    obtain ⟨b1, hb1, k1⟩ := rk_one r sh'.1 ns.left
      (sz _ (by simp only [PyData.shownAll]; exact List.mem_cons_self ..))
    obtain ⟨b2, hb2, k2⟩ := rk_all rs sh'.2 ns.right fun t ht =>
      sz t (by simp only [PyData.shownAll]; exact List.mem_cons_of_mem _ ht)
    refine ⟨b1 ++ b2, ?_, ?_⟩
    · intro b hm
      simp only [PyData.depthAll]
      rcases List.mem_append.mp hm with hm | hm
      · obtain ⟨d', as', r', q⟩ := hb1 b hm
        exact ⟨d', as', r', Nat.le_trans q (Nat.le_max_left _ _)⟩
      · obtain ⟨d', as', r', q⟩ := hb2 b hm
        exact ⟨d', as', r', Nat.le_trans q (Nat.le_max_right _ _)⟩
    · simp only [PyData.depthAll, PyData.shownAll]
      refine .cons ?_ ?_
      · exact (k1.more fun b z => List.mem_append_left _ z).level_le
          (Nat.le_max_left _ _)
      · exact k2.more_le (fun b z => List.mem_append_right _ z)
          (Nat.le_max_right _ _)
end
/-- repr of what stands at an address -/
theorem repr_ref {a : Addr} {d : PyData} {as : List Addr} {A : Around} {E : Value → Shared → Prop} {s : Shared} {Q : Value → Shared → Prop} (r : Reads s.heap (.ref a) d as) (sh : d.showable = true) (ns : NoSys s.heap as) (hg : A.guards = some [])
    (hu : A.units + (d.depth + 1) < cLine) (sz : d.shown.length ≤ sizeLine)
    (hQ : ∀ h' u tk, (∀ b o, s.heap.get? b = some o → h'.get? b = some o) → Q (.str d.shown u) { s with heap := h', toks := tk }) :
    wpAny (model P w) A (call (.builtin "repr") [.ref a]) Q E s := by
  have kp : ∀ b o, s.heap.get? b = some o → s.heap.get? b = some o := fun _ _ e => e
  have go : ∀ {T idr : String}, s.TypeIs (.ref a) T → SlotG T "__repr__" idr →
      wpAny (model P w) A.in1 (call (.builtin idr) [.ref a]) (fun v s1 => ∃ x u, v = .str x u ∧ Q (.str x u) s1) E s →
      wpAny (model P w) A (call (.builtin "repr") [.ref a]) Q E s := fun t sl c =>
    call_repr_slot (by omega) t sl (wpAny_mono c (fun v s1 ⟨x, u, e, q⟩ => ⟨x, u, e, by subst e; exact q⟩) fun _ _ z => z)
  have hu1 : A.in1.units + d.depth < cLine := by
    show A.units + 1 + d.depth < cLine
    omega
  have fin : ∀ h' u tk, (∀ b o, s.heap.get? b = some o → h'.get? b = some o) →
      (∃ x u', Value.str d.shown u = .str x u' ∧ Q (.str x u') { s with heap := h', toks := tk }) :=
    fun h' u tk hk => ⟨_, _, rfl, hQ h' u tk hk⟩
  cases r with
  | list e1 e2 e3 e4 =>
    rename_i o vs n xs bs0
    have sz' : (listText (PyData.shownAll xs)).length ≤ sizeLine := by
      simpa only [PyData.shown] using sz
    obtain ⟨bs, hb, hk⟩ := rk_all (P := P) (w := w) e4 (by simpa [PyData.showable] using sh) ns.tail
      (fun t ht => Nat.le_trans (listText_mem_le ht) sz')
    have na : a ∉ bs :=
      not_mem_of_deeper (.list e1 e2 e3 e4) (by simp only [PyData.depth]; omega) hb
    refine go ⟨o, e1, e2⟩ F.slot_list_repr.toG ?_
    simp only [PyData.depth] at hu1
    simp only [PyData.shown] at fin
    obtain ⟨l⟩ := vs
    cases l with
    | nil =>
      have e5 : ReadsAll s.heap [] xs _ := e4
      cases e5
      simp only [PyData.shownAll, listText_nil] at fin
      exact call_list_repr_empty ⟨o, e1, e2⟩ e1 e3 (fin s.heap _ _ fun _ _ e => e)
    | cons x l =>
      exact call_list_reprK e1 e2 e3 na (by simpa using hk.length_eq)
        (fun i y e => hk.item i y (by simpa using e)) hg (fun b _ => Clear.nil b) hu1 kp fin sz'
  | tuple e1 e2 e3 e4 =>
    rename_i o vs n xs
    have sz' : (tupleText (PyData.shownAll xs)).length ≤ sizeLine := by
      simpa only [PyData.shown] using sz
    obtain ⟨bs, hb, hk⟩ := rk_all (P := P) (w := w) e4 (by simpa [PyData.showable] using sh) ns
      (fun t ht => Nat.le_trans (tupleText_mem_le ht) sz')
    have na : a ∉ bs :=
      not_mem_of_deeper (.tuple e1 e2 e3 e4) (by simp only [PyData.depth]; omega) hb
    refine go ⟨o, e1, e2⟩ F.slot_tuple_repr ?_
    simp only [PyData.depth] at hu1
    simp only [PyData.shown] at fin
    exact call_tuple_reprK e1 e2 e3 na hk hg (fun b _ => Clear.nil b) hu1 kp fin sz'
  | dict e1 e2 e3 e4 e5 =>
    rename_i o es n kvs p1 p2
    have sz' : (dictText (PyData.shownKv kvs)).length ≤ sizeLine := by
      simpa only [PyData.shown] using sz
    obtain ⟨s1, s2⟩ := PyData.showableKv_split kvs
      (by simpa [PyData.showable] using sh)
    have ns' : NoSys s.heap (p1 ++ p2) := by simpa using ns.tail
    obtain ⟨b1, hb1, k1⟩ := rk_all (P := P) (w := w) e4 s1 ns'.left fun t ht =>
      let ⟨p, hp, hl⟩ := PyData.shownKv_key_le kvs t ht
      Nat.le_trans hl (Nat.le_trans (dictText_mem_le hp) sz')
    obtain ⟨b2, hb2, k2⟩ := rk_all (P := P) (w := w) e5 s2 ns'.right fun t ht =>
      let ⟨p, hp, hl⟩ := PyData.shownKv_val_le kvs t ht
      Nat.le_trans hl (Nat.le_trans (dictText_mem_le hp) sz')
    have hb : ReadAtMost s.heap (PyData.depthKv kvs) (b1 ++ b2) :=
      (hb1.mono (PyData.depthAll_keys_le kvs)).append
        (hb2.mono (PyData.depthAll_vals_le kvs))
    have na : a ∉ b1 ++ b2 :=
      not_mem_of_deeper (.dict e1 e2 e3 e4 e5) (by simp only [PyData.depth]; omega) hb
    have hs : (a == sysModules) = false :=
      beq_eq_false_iff_ne.mpr (ns a (by simp) ⟨_, _, _, e1, e3⟩)
    refine go ⟨o, e1, e2⟩ F.slot_dict_repr ?_
    simp only [PyData.depth] at hu1
    simp only [PyData.shown, PyData.shownKv_eq] at fin
    refine call_dict_reprK e1 e2 e3 hs na (ReprEntriesK.of_two es.toList _ _ ?_ ?_) hg (fun b _ => Clear.nil b) hu1 kp fin
      (by rw [← PyData.shownKv_eq]; exact sz')
    · exact k1.more_le (fun b z => List.mem_append_left _ z)
        (PyData.depthAll_keys_le kvs)
    · exact k2.more_le (fun b z => List.mem_append_right _ z)
        (PyData.depthAll_vals_le kvs)
end
end Q
/-! Q4: operations on values. -/
namespace Q
open PySem PySem.Spec PyProof.Rows L2
/-- what the written part is known to hold -/
structure Tx.Ok (T : Tx) (X : Cx) : Prop where
  k : T.K = X.K
/-! ### data -/
def optL {α β : Type} (f : α → Option β) : List α → Option (List β)
  | [] => some []
  | x :: xs => match f x, optL f xs with
    | some a, some b => some (a :: b)
    | _, _ => none
theorem optL_cons {α β : Type} {f : α → Option β} {x : α} {xs : List α} {r : List β} (h : optL f (x :: xs) = some r) : ∃ a b, f x = some a ∧ optL f xs = some b ∧ r = a :: b := by
  simp only [optL] at h
  cases h1 : f x with
  | none => rw [h1] at h; cases h
  | some a =>
    cases h2 : optL f xs with
    | none => rw [h1, h2] at h; cases h
    | some b => rw [h1, h2] at h; cases h; exact ⟨a, b, rfl, rfl, rfl⟩
/-- the data that a value stands for, to a depth -/
def dat : Nat → Gp → A → Option PyData
  | _, _, .non => some .none
  | _, _, .bl b => some (.bool b)
  | _, _, .int i => some (.int i)
  | _, _, .str x => some (.str x)
  | 0, _, _ => none
  | n + 1, G, .tup xs => (optL (dat n G) xs).map .tuple
  | n + 1, G, .fro xs => (optL (dat n G) xs).map .list
  | n + 1, G, .ref a => match G a with
    | some (.lst xs) => (optL (dat n G) xs).map .list
    | some (.dct kvs) => match optL (fun p => dat n G p.1) kvs, optL (fun p => dat n G p.2) kvs with
      | some ks, some vs => some (.dict (ks.zip vs))
      | _, _ => none
    | _ => none
section
variable {X : Cx} {T : Tx} {pins : List (Addr × Obj)} {σ : L2.St} {H : Hp} {s : Shared} {G : Gp}
theorem optL_len {α β : Type} {f : α → Option β} : ∀ {xs : List α} {r : List β}, optL f xs = some r → r.length = xs.length
  | [], r, h => by simp only [optL] at h; cases h; rfl
  | x :: xs, r, h => by
    obtain ⟨a, b, _, h2, rfl⟩ := optL_cons h
    simp [optL_len h2]
theorem relKey {k : Key} {a : A} {v : Value} (e : a = keyA k) (h : keyIs k v = true) : RV T.K H a (kV k) ∧ RelV (kV k) v := by
  subst e
  rcases keyIs_shape h with ⟨i, t, rfl, rfl⟩ | ⟨x, t, rfl, rfl⟩
  · exact ⟨by simp only [keyA, RV, kV], ⟨t, rfl⟩⟩
  · exact ⟨by simp only [keyA, RV, kV], ⟨t, rfl⟩⟩
theorem rvKeys : ∀ ks : List Key, RVs T.K H (ks.map keyA) (ks.map kV)
  | [] => rfl
  | .inl i :: ks => .cons (by simp only [keyA, RV, kV]) (rvKeys ks)
  | .inr x :: ks => .cons (by simp only [keyA, RV, kV]) (rvKeys ks)
theorem reads_all_of {f : A → Option PyData} (one : ∀ (a : A) (v : V) (u : Value) (d : PyData), f a = some d → RV T.K H a v → RelV v u → ∃ as, Reads s.heap u d as ∧ NoSys s.heap as) :
    ∀ (xs : List A) (vs : List V) (us : List Value) (ds : List PyData), optL f xs = some ds → RVs T.K H xs vs → Vals vs us → ∃ as, ReadsAll s.heap us ds as ∧ NoSys s.heap as
  | [], vs, us, ds, h, r, ru => by
    simp only [RVs] at r; subst r
    simp only [optL] at h; cases h
    cases ru
    exact ⟨[], .nil, .nil⟩
  | x :: xs, vs, us, ds, h, r, ru => by
    obtain ⟨d, ds', h1, h2, rfl⟩ := optL_cons h
    simp only [RVs] at r
    obtain ⟨v, vs', rfl, r1, r2⟩ := r
    cases ru with
    | cons q1 q2 =>
      obtain ⟨as, ra, na⟩ := one _ _ _ _ h1 r1 q1
      obtain ⟨bs, rb, nb⟩ := reads_all_of one xs vs' _ ds' h2 r2 q2
      exact ⟨as ++ bs, .cons ra rb, na.app nb⟩
theorem keys_read {f : A → Option PyData} (one : ∀ (a : A) (v : V) (u : Value) (d : PyData), f a = some d → RV T.K H a v → RelV v u → ∃ as, Reads s.heap u d as ∧ NoSys s.heap as) {P : Program} {w : World} :
    ∀ (kvs : List (A × A)) (qs : List (Key × V)) (vs : List (Key × Value)) (es : List DictEntry) (ks : List PyData), RK T H kvs qs → KV qs vs → Pairs (mixKind P w) es vs → optL (fun p => f p.1) kvs = some ks →
      ∃ as, ReadsAll s.heap (es.map (·.key)) ks as ∧ NoSys s.heap as
  | _, _, _, _, ks, .nil, .nil, hp, h => by
    simp only [optL] at h; cases h
    cases hp
    exact ⟨[], .nil, .nil⟩
  | _, _, _, _, ks, .cons r1 r2, .cons k1 k2, hp, h => by
    obtain ⟨d, ds', h1, h2, rfl⟩ := optL_cons h
    cases hp with
    | cons p1 pv p2 =>
      obtain ⟨as, ra, na⟩ : ∃ as, Reads s.heap _ d as ∧ NoSys s.heap as := by
        have e2 := k1.1
        have e : keyIs _ _ = true := p1
        rw [← e2] at e
        obtain ⟨x1, x2⟩ := relKey (T := T) (H := H) r1.1 e
        exact one _ _ _ _ h1 x1 x2
      obtain ⟨bs, rb, nb⟩ := keys_read one _ _ _ _ ds' r2 k2 p2 h2
      exact ⟨as ++ bs, .cons ra rb, na.app nb⟩
theorem vals_of_pairs {P : Program} {w : World} : ∀ {es : List DictEntry} {vs : List (Key × Value)}, Pairs (mixKind P w) es vs → es.map (·.val) = vs.map (·.2)
  | _, _, .nil => rfl
  | _, _, .cons _ e r => by simp [e, vals_of_pairs r]
theorem vals_of_kv {κ : Type} : ∀ {qs : List (κ × V)} {vs : List (κ × Value)}, KV qs vs → Vals (qs.map (·.2)) (vs.map (·.2))
  | _, _, .nil => .nil
  | _, _, .cons k r => .cons k.2 (vals_of_kv r)
theorem rvs_of_rk : ∀ {kvs : List (A × A)} {qs : List (Key × V)}, RK T H kvs qs → RVs T.K H (kvs.map (·.2)) (qs.map (·.2))
  | _, _, .nil => rfl
  | _, _, .cons r1 r2 => .cons r1.2 (rvs_of_rk r2)
theorem optL_map {α β γ : Type} {f : β → Option γ} {g : α → β} : ∀ {xs : List α}, optL f (xs.map g) = optL (fun x => f (g x)) xs
  | [] => rfl
  | x :: xs => by simp only [List.map_cons, optL, optL_map]
/-- the entries of a dict with tuple keys -/
theorem dT_read {P : Program} {w : World} {f : A → Option PyData} (one : ∀ (a : A) (v : V) (u : Value) (d : PyData), f a = some d → RV T.K H a v → RelV v u → ∃ as, Reads s.heap u d as ∧ NoSys s.heap as) :
    ∀ (kvs : List (A × A)) (qs : List (List Key × V)) (xs : List (List Key × Addr × Value)), RKT T H kvs qs →
      Paired (fun (p : List Key × V) (q : List Key × Addr × Value) => p.1 = q.1 ∧ H q.2.1 = some (.tup (p.1.map kV)) ∧ RelV p.2 q.2.2) qs xs →
      RVs T.K H (kvs.map (·.1)) (xs.map fun q => V.ref q.2.1) ∧ Vals (xs.map fun q => V.ref q.2.1) ((xs.map (entryOfKey (tupleKind (mixKind P w)))).map (·.key)) ∧
      RVs T.K H (kvs.map (·.2)) (qs.map (·.2)) ∧ Vals (qs.map (·.2)) ((xs.map (entryOfKey (tupleKind (mixKind P w)))).map (·.val))
  | _, _, _, .nil, .nil => ⟨rfl, .nil, rfl, .nil⟩
  | _, _, _, .cons r1 r2, .cons k1 k2 => by
    obtain ⟨a1, a2, a3, a4⟩ := dT_read (P := P) (w := w) one _ _ _ r2 k2
    refine ⟨.cons ?_ a1, .cons rfl a2, .cons r1.2 a3, .cons k1.2.2 a4⟩
    dsimp only
    rw [r1.1]
    exact ⟨_, _, rfl, .of k1.2.1, rvKeys _⟩
theorem zip_fst {α β : Type} : ∀ {xs : List α} {ys : List β}, xs.length = ys.length → (xs.zip ys).map (·.1) = xs ∧ (xs.zip ys).map (·.2) = ys
  | [], [], _ => ⟨rfl, rfl⟩
  | x :: xs, y :: ys, h => by
    obtain ⟨a, b⟩ := zip_fst (xs := xs) (ys := ys) (by simpa using h)
    simp [a, b]
  | [], _ :: _, h => by simp at h
  | _ :: _, [], h => by simp at h
theorem dat_reads (ok : T.Ok X) (I : Inv X pins σ H s) (rg : RG T H G) : ∀ (n : Nat) (a : A) (v : V) (u : Value) (d : PyData), dat n G a = some d → RV T.K H a v → RelV v u → ∃ as, Reads s.heap u d as ∧ NoSys s.heap as
  | n, .non, v, u, d, h, r, ru => by
    simp only [dat, Option.some.injEq] at h; subst h; simp only [RV] at r; subst r; cases ru; exact ⟨_, .none, .nil⟩
  | n, .bl b, v, u, d, h, r, ru => by
    simp only [dat, Option.some.injEq] at h; subst h; simp only [RV] at r; subst r; cases ru; exact ⟨_, .bool b, .nil⟩
  | n, .int i, v, u, d, h, r, ru => by
    simp only [dat, Option.some.injEq] at h; subst h; simp only [RV] at r; subst r; obtain ⟨t, rfl⟩ := ru; exact ⟨_, .int i t, .nil⟩
  | n, .str i, v, u, d, h, r, ru => by
    simp only [dat, Option.some.injEq] at h; subst h; simp only [RV] at r; subst r; obtain ⟨t, rfl⟩ := ru; exact ⟨_, .str i t, .nil⟩
  | 0, .tup _, _, _, _, h, _, _ | 0, .fro _, _, _, _, h, _, _ | 0, .ref _, _, _, _, h, _, _ => by simp [dat] at h
  | n + 1, .tup xs, v, u, d, h, r, ru => by
    simp only [dat, Option.map_eq_some_iff] at h
    obtain ⟨ds, h, rfl⟩ := h
    simp only [RV] at r
    obtain ⟨p, vs, rfl, sq, rv⟩ := r
    cases ru
    rw [ok.k] at sq
    obtain ⟨its, q, ⟨o, ho, hc, m, hd⟩, _⟩ := I.tuple sq
    obtain ⟨as, ra, na⟩ := reads_all_of (dat_reads ok I rg n) xs vs its ds h rv q
    exact ⟨as, .tuple ho hc hd ra, na⟩
  | n + 1, .fro xs, v, u, d, h, r, ru => by
    simp only [dat, Option.map_eq_some_iff] at h
    obtain ⟨ds, h, rfl⟩ := h
    simp only [RV] at r
    obtain ⟨p, vs, rfl, sq, rv⟩ := r
    cases ru
    rw [ok.k] at sq
    obtain ⟨its, q, ⟨o, m, ho, hc, _, hd⟩, _⟩ := I.list sq.sq
    obtain ⟨as, ra, na⟩ := reads_all_of (dat_reads ok I rg n) xs vs its ds h rv q
    exact ⟨_, .list ho hc hd ra, .seq ho hd na⟩
  | n + 1, .ref a, v, u, d, h, r, ru => by
    simp only [dat] at h
    simp only [RV] at r; subst r
    cases ru
    cases hg : G a with
    | none => rw [hg] at h; cases h
    | some o =>
      rw [hg] at h
      have ro := rg a o hg
      cases o with
      | lst xs =>
        simp only [Option.map_eq_some_iff] at h
        obtain ⟨ds, h, rfl⟩ := h
        obtain ⟨vs, e, rv⟩ := ro
        obtain ⟨its, q, ⟨o, m, ho, hc, _, hd⟩, _⟩ := I.list (.of e)
        obtain ⟨as, ra, na⟩ := reads_all_of (dat_reads ok I rg n) xs vs its ds h rv q
        exact ⟨_, .list ho hc hd ra, .seq ho hd na⟩
      | dct kvs =>
        simp only at h
        cases h1 : optL (fun p => dat n G p.1) kvs with
        | none => rw [h1] at h; cases h
        | some ks =>
          cases h2 : optL (fun p => dat n G p.2) kvs with
          | none => rw [h1, h2] at h; cases h
          | some ws =>
            rw [h1, h2] at h
            cases h
            obtain ⟨z1, z2⟩ := zip_fst (xs := ks) (ys := ws) (by rw [optL_len h1, optL_len h2])
            rcases ro with ⟨qs, e, rk⟩ | ⟨qs, e, rk⟩
            · obtain ⟨_, ne, vs, kv, ob, es, ep, ho, hx, hd, _, hp, _⟩ := I.hok a _ e
              obtain ⟨as, ra, na⟩ := keys_read (dat_reads ok I rg n) kvs qs vs es.toList ks rk kv hp h1
              obtain ⟨bs, rb, nb⟩ := reads_all_of (dat_reads ok I rg n) (kvs.map (·.2)) (qs.map (·.2)) (vs.map (·.2)) ws (by rw [optL_map]; exact h2) (rvs_of_rk rk) (vals_of_kv kv)
              refine ⟨_, .dict ho hx.1 hd (by rw [z1]; exact ra) (by rw [z2, vals_of_pairs hp]; exact rb), ?_⟩
              have z : a ≠ sysModules := by simpa using ne
              exact .dct z (na.app nb)
            · obtain ⟨_, ne, xs, kv, ob, es, ep, ho, hx, hd, he, _⟩ := I.hok a _ e
              obtain ⟨a1, a2, a3, a4⟩ := dT_read (P := X.prog) (w := X.w) (dat_reads ok I rg n) kvs qs xs rk kv
              obtain ⟨as, ra, na⟩ := reads_all_of (dat_reads ok I rg n) (kvs.map (·.1)) _ _ ks (by rw [optL_map]; exact h1) a1 a2
              obtain ⟨bs, rb, nb⟩ := reads_all_of (dat_reads ok I rg n) (kvs.map (·.2)) _ _ ws (by rw [optL_map]; exact h2) a3 a4
              refine ⟨_, .dict ho hx.1 hd (by rw [z1, he]; exact ra) (by rw [z2, he]; exact rb), ?_⟩
              have z : a ≠ sysModules := by simpa using ne
              exact .dct z (na.app nb)
      | ins _ _ => cases h
end
end Q
/-! Q5: arithmetic, texts, lists, equality, repr, subscripts. -/
namespace Q
open PySem PySem.Spec PyProof.Rows L2
def addA : P2 := fun a b G Q => match a, b with
  | .int i, .int j => Q (.int (i + j)) G
  | .str x, .str y => x.length + y.length ≤ sizeLine ∧ Q (.str (x ++ y)) G
  | .tup xs, .tup ys => xs.length + ys.length ≤ sizeLine ∧ Q (.tup (xs ++ ys)) G
  | .ref p, .ref q => match G p, G q with
    | some (.lst xs), some (.lst ys) => xs.length + ys.length ≤ sizeLine ∧ new (.lst (xs ++ ys)) G Q
    | _, _ => False
  | _, _ => False
def intA (C : Int → Int → Prop) (g : Int → Int → A) : P2 := fun a b G Q => match a, b with
  | .int i, .int j => C i j ∧ Q (g i j) G
  | _, _ => False
def subA : P2 := intA (fun _ _ => True) fun i j => .int (i - j)
def modA : P2 := intA (fun _ j => 0 < j) fun i j => .int (i % j)
def fdivA : P2 := intA CDivW fun i j => .int (i / j)
def powA : P2 := intA CPow fun i j => .int (i ^ j.toNat)
def mulA : P2 := fun a b G Q => match a, b with
  | .int i, .int j => CMulW i j ∧ Q (.int (i * j)) G
  | .str x, .int j => MulOk x j ∧ Q (.str (Txt.mul x j)) G
  | .ref p, .int j => match G p with
    | some (.lst xs) => -(2 ^ 63) ≤ j ∧ j < 2 ^ 63 ∧ xs.length * j.toNat ≤ sizeLine ∧ new (.lst (List.replicate j.toNat xs).flatten) G Q
    | _ => False
  | _, _ => False
section
variable {X : Cx} {T : Tx}
theorem rv_int {K : PySem.W.Frag} {H : Hp} {i : Int} {v : V} (h : RV K H (.int i) v) : v = .int i := by simpa only [RV] using h
theorem rv_str {K : PySem.W.Frag} {H : Hp} {i : Str} {v : V} (h : RV K H (.str i) v) : v = .str i := by simpa only [RV] using h
theorem rv_ref {K : PySem.W.Frag} {H : Hp} {i : Addr} {v : V} (h : RV K H (.ref i) v) : v = .ref i := by simpa only [RV] using h
theorem rv_tup {K : PySem.W.Frag} {H : Hp} {i : List A} {v : V} (h : RV K H (.tup i) v) : ∃ p vs, v = .ref p ∧ SqT K H p vs ∧ RVs K H i vs := by simpa only [RV] using h
theorem rv_i {K : PySem.W.Frag} {H : Hp} (i : Int) : RV K H (.int i) (.int i) := by simp only [RV]
theorem rv_s {K : PySem.W.Frag} {H : Hp} (i : Str) : RV K H (.str i) (.str i) := by simp only [RV]
theorem rv_b {K : PySem.W.Frag} {H : Hp} (i : Bool) : RV K H (.bl i) (.bl i) := by simp only [RV]
theorem rv_r {K : PySem.W.Frag} {H : Hp} (i : Addr) : RV K H (.ref i) (.ref i) := by simp only [RV]
theorem rv_n {K : PySem.W.Frag} {H : Hp} : RV K H .non .non := by simp only [RV]
theorem rv_t {K : PySem.W.Frag} {H : Hp} {p : Addr} {xs : List A} {vs : List V} (h : SqT K H p vs) (r : RVs K H xs vs) : RV K H (.tup xs) (.ref p) := by simp only [RV]; exact ⟨p, vs, rfl, h, r⟩
/-- a new tuple of a tree -/
theorem new_tup {G1 : Gp} {H1 : Hp} {as : List A} {vs : List V} {Qa : KA} {Q : VK} (rg1 : RG T H1 G1) (rv : RVs T.K H1 as vs) (h : Qa (.tup as) G1) (q : LQ T G1 H1 Qa Q) {p : Addr} (hp : H1 p = none) : Q (.ref p) (upd H1 p (.tup vs)) :=
  q _ _ _ _ h (rv_t (.of upd_same) (rv.mono (im_upd (nimm_none hp)))) (rg1.newT hp) (Kp.newT hp)
theorem o_int {f : Value → Value → Sem Value} {C : Int → Int → Prop} {g : Int → Int → V} {ga : Int → Int → A} (h : OpR X f (rI C g)) (hg : ∀ i j H, RV T.K H (ga i j) (g i j)) : OpR X f (l2 T (intA C ga)) := by
  intro pins s σ H x y v u Q I rx ry ⟨a, b, G, Qa, ra, rb, rg, hf, q⟩
  cases a <;> cases b <;> first | exact False.elim hf | skip
  rename_i i j
  exact h pins s σ H x y v u Q I rx ry ⟨i, j, rv_int ra, rv_int rb, hf.1, q _ _ _ _ hf.2 (hg i j H) rg Kp.refl⟩
theorem o_sub : OpR X (binaryOp .Sub) (l2 T subA) := o_int (C := fun _ _ => True) (g := fun i j => .int (i - j)) (fun pins s σ H x y v u Q I rx ry h => op_sub pins s σ H x y v u Q I rx ry (let ⟨i, j, e1, e2, _, q⟩ := h; ⟨i, j, e1, e2, q⟩)) fun i j H => rv_i _
theorem o_mod : OpR X (binaryOp .Mod) (l2 T modA) := o_int op_mod fun i j H => rv_i _
theorem o_fdiv : OpR X (binaryOp .FloorDiv) (l2 T fdivA) := o_int op_fdivW fun i j H => rv_i _
theorem o_pow : OpR X (binaryOp .Pow) (l2 T powA) := o_int op_pow fun i j H => rv_i _
theorem o_add (hT : T.K = X.K) : OpR X (binaryOp .Add) (l2 T addA) := by
  intro pins s σ H x y v u Q I rx ry ⟨a, b, G, Qa, ra, rb, rg, hf, q⟩
  cases a <;> cases b <;> first | exact False.elim hf | skip
  · rename_i i j
    exact op_add pins s σ H x y v u Q I rx ry ⟨i, j, rv_int ra, rv_int rb, q _ _ _ _ hf (rv_i _) rg Kp.refl⟩
  · rename_i i j
    exact op_add_str pins s σ H x y v u Q I rx ry ⟨i, j, rv_str ra, rv_str rb, hf.1, q _ _ _ _ hf.2 (rv_s _) rg Kp.refl⟩
  · rename_i xs ys
    obtain ⟨p1, vs, rfl, s1, r1⟩ := rv_tup ra
    obtain ⟨p2, ws, rfl, s2, r2⟩ := rv_tup rb
    have l1 := r1.len
    have l2 := r2.len
    refine op_catA pins s σ H _ _ v u Q I rx ry ⟨p1, p2, vs, ws, rfl, rfl, hT ▸ s1, hT ▸ s2, by rw [l1, l2]; exact hf.1, fun e => ?_, fun e e2 => ?_, fun e e2 p hp => ?_⟩
    · subst e
      have z : xs = [] := by cases xs <;> simp_all
      subst z
      exact q _ _ _ _ hf.2 rb rg Kp.refl
    · subst e2
      have z : ys = [] := by cases ys <;> simp_all
      subst z
      have hf2 : Qa (.tup (xs ++ [])) G := hf.2
      rw [List.append_nil] at hf2
      exact q _ _ _ _ hf2 ra rg Kp.refl
    · exact new_tup rg (r1.app r2) hf.2 q hp
  · rename_i p1 p2
    have hf : (match G p1, G p2 with
      | some (.lst xs), some (.lst ys) => xs.length + ys.length ≤ sizeLine ∧ new (.lst (xs ++ ys)) G Qa
      | _, _ => False) := hf
    split at hf
    · rename_i xs ys e1 e2
      obtain ⟨vs, h1, r1⟩ := rg p1 _ e1
      obtain ⟨ws, h2, r2⟩ := rg p2 _ e2
      exact op_cat pins s σ H x y v u Q I rx ry ⟨p1, p2, vs, ws, rv_ref ra, rv_ref rb, h1, h2, by rw [r1.len, r2.len]; exact hf.1, fun p hp => new_lst rg (r1.app r2) hf.2 q hp⟩
    · exact hf.elim
theorem o_mul : OpR X (binaryOp .Mult) (l2 T mulA) := by
  intro pins s σ H x y v u Q I rx ry ⟨a, b, G, Qa, ra, rb, rg, hf, q⟩
  cases a <;> cases b <;> first | exact False.elim hf | skip
  · rename_i i j
    exact op_mulW pins s σ H x y v u Q I rx ry ⟨i, j, rv_int ra, rv_int rb, hf.1, q _ _ _ _ hf.2 (rv_i _) rg Kp.refl⟩
  · rename_i i j
    obtain rfl := rv_str ra
    obtain rfl := rv_int rb
    obtain ⟨t, rfl⟩ := rx
    obtain ⟨t', rfl⟩ := ry
    exact PySem.SB.mul hf.1 fun t2 k => ⟨.str _, H, I.tok _, ⟨_, rfl⟩, q _ _ _ _ hf.2 (rv_s _) rg Kp.refl⟩
  · rename_i p1 j
    have hf : (match G p1 with
      | some (.lst xs) => -(2 ^ 63) ≤ j ∧ j < 2 ^ 63 ∧ xs.length * j.toNat ≤ sizeLine ∧ new (.lst (List.replicate j.toNat xs).flatten) G Qa
      | _ => False) := hf
    split at hf
    · rename_i xs e1
      obtain ⟨vs, h1, r1⟩ := rg p1 _ e1
      exact op_rep pins s σ H x y v u Q I rx ry ⟨p1, j, vs, rv_ref ra, rv_int rb, h1, hf.1, hf.2.1, by rw [r1.len]; exact hf.2.2.1, fun p hp => new_lst rg (r1.rep _) hf.2.2.2 q hp⟩
    · exact hf.elim
/-! ### comparisons -/
def lstOf (G : Gp) : A → Option (List A)
  | .ref p => match G p with
    | some (.lst xs) => some xs
    | _ => none
  | .fro xs => some xs
  | _ => none
/-- == and != of data; of two lists that are not of one length; of a tuple and () -/
def eqA (neg : Bool) : P2 := fun a b G Q => (∃ d e, dat 60 G a = some d ∧ dat 60 G b = some e ∧ SeqAt.shaped d = true ∧ SeqAt.shaped e = true ∧ Q (.bl (if neg then !PyData.eqv d e else PyData.eqv d e)) G) ∨
  (∃ xs ys, lstOf G a = some xs ∧ lstOf G b = some ys ∧ xs.length ≠ ys.length ∧ Q (.bl neg) G) ∨ (∃ xs, a = .tup xs ∧ b = .tup [] ∧ Q (.bl (if neg then !xs.isEmpty else xs.isEmpty)) G) ∨
  ∃ x y, a = .str x ∧ b = .str y ∧ Q (.bl (if neg then x != y else x == y)) G
def ltA : P2 := fun a b G Q => match a, b with
  | .int i, .int j => Q (.bl (decide (i < j))) G
  | _, _ => False
def leA : P2 := fun a b G Q => match a, b with
  | .int i, .int j => Q (.bl (decide (i ≤ j))) G
  | _, _ => False
def gtA : P2 := fun a b G Q => match a, b with
  | .int i, .int j => Q (.bl (decide (j < i))) G
  | _, _ => False
def geA : P2 := fun a b G Q => match a, b with
  | .int i, .int j => Q (.bl (decide (j ≤ i))) G
  | _, _ => False
theorem lstOf_list {pins : List (Addr × Obj)} {σ : L2.St} {H : Hp} {s : Shared} {G : Gp} {a : A} {x : V} {u : Value} {xs : List A} (hT : T.K = X.K) (I : Inv X pins σ H s) (rg : RG T H G) (e : lstOf G a = some xs) (r : RV T.K H a x) (ru : RelV x u) :
    ∃ p its, u = .ref p ∧ PlainL s.heap p its ∧ its.size = xs.length := by
  cases a with
  | fro ys =>
    simp only [lstOf, Option.some.injEq] at e
    subst e
    simp only [RV] at r
    obtain ⟨p, vs, rfl, sq, rv⟩ := r
    cases ru
    obtain ⟨its, q, pl, _⟩ := I.list (hT ▸ sq.sq)
    exact ⟨p, _, rfl, pl, by rw [List.size_toArray, ← q.length, rv.len]⟩
  | ref p =>
    simp only [lstOf] at e
    split at e
    · rename_i zs e1
      cases e
      obtain ⟨vs, h1, r1⟩ := rg p _ e1
      obtain rfl := rv_ref r
      cases ru
      obtain ⟨its, q, pl, _⟩ := I.list (.of h1)
      exact ⟨p, _, rfl, pl, by rw [List.size_toArray, ← q.length, r1.len]⟩
    · cases e
  | _ => simp [lstOf] at e
theorem o_eq (ok : T.Ok X) (hu : X.A.units + 64 < cLine) : OpR X (compareOp .Eq) (l2 T (eqA false)) := by
  intro pins s σ H x y v u Q I rx ry ⟨a, b, G, Qa, ra, rb, rg, hf, q⟩
  rcases hf with ⟨d, e, h1, h2, s1, s2, hf⟩ | ⟨xs, ys, h1, h2, hn, hf⟩ | ⟨xs, rfl, rfl, hf⟩ | ⟨x', y', rfl, rfl, hf⟩
  · obtain ⟨as, r1, _⟩ := dat_reads ok I rg 60 a x v d h1 ra rx
    obtain ⟨bs, r2, _⟩ := dat_reads ok I rg 60 b y u e h2 rb ry
    exact SeqAt.compareEq_shaped r1 r2 s1 s2 hu ⟨.bl _, H, I, rfl, q _ _ _ _ hf (rv_b _) rg Kp.refl⟩
  · obtain ⟨p1, i1, rfl, l1, z1⟩ := lstOf_list ok.k I rg h1 ra rx
    obtain ⟨p2, i2, rfl, l2, z2⟩ := lstOf_list ok.k I rg h2 rb ry
    exact SeqAt.eq_list_lengthsAt l1.isList l2.isList (by simp [z1, z2, hn]) (by omega) ⟨.bl _, H, I, rfl, q _ _ _ _ hf (rv_b _) rg Kp.refl⟩
  · obtain ⟨p1, vs, rfl, s1, r1⟩ := rv_tup ra
    obtain ⟨p2, ws, rfl, s2, r2⟩ := rv_tup rb
    cases rx; cases ry
    obtain ⟨i1, q1, t1, _⟩ := I.tuple (ok.k ▸ s1)
    obtain ⟨i2, q2, t2, _⟩ := I.tuple (ok.k ▸ s2)
    have e1 : i1.length = xs.length := by rw [← q1.length, r1.len]
    have e2 : i2.length = 0 := by rw [← q2.length, r2.len]; rfl
    refine SeqAt.eq_tupleAt (e := fun _ => true) t1 t2 (by omega) (fun j h1 h2 => absurd h2 (by simp [e2])) ⟨.bl xs.isEmpty, H, I, ?_, q _ _ _ _ hf (rv_b _) rg Kp.refl⟩
    cases xs <;> simp_all [L2.RelV]
  · obtain rfl := rv_str ra
    obtain rfl := rv_str rb
    obtain ⟨t, rfl⟩ := rx
    obtain ⟨t', rfl⟩ := ry
    exact PyProof.Rows.eq_str ⟨.bl _, H, I, rfl, q _ _ _ _ hf (rv_b _) rg Kp.refl⟩
theorem o_ne (ok : T.Ok X) (hu : X.A.units + 64 < cLine) : OpR X (compareOp .NotEq) (l2 T (eqA true)) := by
  intro pins s σ H x y v u Q I rx ry ⟨a, b, G, Qa, ra, rb, rg, hf, q⟩
  rcases hf with ⟨d, e, h1, h2, s1, s2, hf⟩ | ⟨xs, ys, h1, h2, hn, hf⟩ | ⟨xs, rfl, rfl, hf⟩ | ⟨x', y', rfl, rfl, hf⟩
  · obtain ⟨as, r1, _⟩ := dat_reads ok I rg 60 a x v d h1 ra rx
    obtain ⟨bs, r2, _⟩ := dat_reads ok I rg 60 b y u e h2 rb ry
    exact SeqAt.compareNe_shaped r1 r2 s1 s2 hu ⟨.bl _, H, I, rfl, q _ _ _ _ hf (rv_b _) rg Kp.refl⟩
  · obtain ⟨p1, i1, rfl, l1, z1⟩ := lstOf_list ok.k I rg h1 ra rx
    obtain ⟨p2, i2, rfl, l2, z2⟩ := lstOf_list ok.k I rg h2 rb ry
    exact SeqAt.RcNeAt.lists_lengths l1.isList l2.isList (by simp [z1, z2, hn]) (by omega) _ _ _ _ ⟨.bl _, H, I, rfl, q _ _ _ _ hf (rv_b _) rg Kp.refl⟩
  · obtain ⟨p1, vs, rfl, s1, r1⟩ := rv_tup ra
    obtain ⟨p2, ws, rfl, s2, r2⟩ := rv_tup rb
    cases rx; cases ry
    obtain ⟨i1, q1, t1, _⟩ := I.tuple (ok.k ▸ s1)
    obtain ⟨i2, q2, t2, _⟩ := I.tuple (ok.k ▸ s2)
    have e1 : i1.length = xs.length := by rw [← q1.length, r1.len]
    have e2 : i2.length = 0 := by rw [← q2.length, r2.len]; rfl
    refine SeqAt.RcNeAt.tuples (e := fun _ => true) t1 t2 (by omega) (fun j h1 h2 => absurd h2 (by simp [e2])) _ _ _ _ ⟨.bl (!xs.isEmpty), H, I, ?_, q _ _ _ _ hf (rv_b _) rg Kp.refl⟩
    cases xs <;> simp_all [L2.RelV]
  · obtain rfl := rv_str ra
    obtain rfl := rv_str rb
    obtain ⟨t, rfl⟩ := rx
    obtain ⟨t', rfl⟩ := ry
    exact PyProof.Rows.ne_str ⟨.bl _, H, I, rfl, q _ _ _ _ hf (rv_b _) rg Kp.refl⟩
theorem o_lt : OpR X (compareOp .Lt) (l2 T ltA) := by
  intro pins s σ H x y v u Q I rx ry ⟨a, b, G, Qa, ra, rb, rg, hf, q⟩
  cases a <;> cases b <;> first | exact False.elim hf | skip
  exact op_lt pins s σ H x y v u Q I rx ry ⟨_, _, rv_int ra, rv_int rb, q _ _ _ _ hf (rv_b _) rg Kp.refl⟩
theorem o_le : OpR X (compareOp .LtE) (l2 T leA) := by
  intro pins s σ H x y v u Q I rx ry ⟨a, b, G, Qa, ra, rb, rg, hf, q⟩
  cases a <;> cases b <;> first | exact False.elim hf | skip
  exact op_le pins s σ H x y v u Q I rx ry ⟨_, _, rv_int ra, rv_int rb, q _ _ _ _ hf (rv_b _) rg Kp.refl⟩
theorem o_gt : OpR X (compareOp .Gt) (l2 T gtA) := by
  intro pins s σ H x y v u Q I rx ry ⟨a, b, G, Qa, ra, rb, rg, hf, q⟩
  cases a <;> cases b <;> first | exact False.elim hf | skip
  exact op_gt pins s σ H x y v u Q I rx ry ⟨_, _, rv_int ra, rv_int rb, q _ _ _ _ hf (rv_b _) rg Kp.refl⟩
theorem o_ge : OpR X (compareOp .GtE) (l2 T geA) := by
  intro pins s σ H x y v u Q I rx ry ⟨a, b, G, Qa, ra, rb, rg, hf, q⟩
  cases a <;> cases b <;> first | exact False.elim hf | skip
  exact op_ge pins s σ H x y v u Q I rx ry ⟨_, _, rv_int ra, rv_int rb, q _ _ _ _ hf (rv_b _) rg Kp.refl⟩
/-- x in a list, a tuple, a text -/
def inA (neg : Bool) : P2 := fun a b G Q => (∃ x y, a = .str x ∧ b = .str y ∧ Q (.bl (if neg then !(!(Builtin.Str.occurrences y x 0 y.length 1).isEmpty) else !(Builtin.Str.occurrences y x 0 y.length 1).isEmpty)) G) ∨
  ∃ d ds, dat 60 G a = some d ∧ (dat 60 G b = some (.list ds) ∨ dat 60 G b = some (.tuple ds)) ∧ SeqAt.shaped d = true ∧ PyData.canLayAll0 ds = true ∧ Q (.bl (if neg then !ds.any fun z => PyData.eqv z d else ds.any fun z => PyData.eqv z d)) G
theorem o_in (ok : T.Ok X) (hu : X.A.units + 65 < cLine) : OpR X (compareOp .In) (l2 T (inA false)) := by
  intro pins s σ H x y v u Q I rx ry ⟨a, b, G, Qa, ra, rb, rg, hf, q⟩
  rcases hf with ⟨i, j, rfl, rfl, hf⟩ | ⟨d, ds, h1, h2, s1, s2, hf⟩
  · exact op_in_str pins s σ H x y v u Q I rx ry ⟨i, j, rv_str ra, rv_str rb, q _ _ _ _ hf (rv_b _) rg Kp.refl⟩
  · obtain ⟨as, r1, _⟩ := dat_reads ok I rg 60 a x v d h1 ra rx
    rcases h2 with h2 | h2
    · obtain ⟨bs, r2, _⟩ := dat_reads ok I rg 60 b y u _ h2 rb ry
      exact SeqAt.in_list_reads r2 r1 s2 (SeqAt.canLay_of_shaped s1) (room_in_shaped s1 hu) ⟨.bl _, H, I, rfl, q _ _ _ _ hf (rv_b _) rg Kp.refl⟩
    · obtain ⟨bs, r2, _⟩ := dat_reads ok I rg 60 b y u _ h2 rb ry
      exact SeqAt.in_tuple_reads r2 r1 s2 (SeqAt.canLay_of_shaped s1) (room_in_shaped s1 hu) ⟨.bl _, H, I, rfl, q _ _ _ _ hf (rv_b _) rg Kp.refl⟩
theorem o_notin (ok : T.Ok X) (hu : X.A.units + 65 < cLine) : OpR X (compareOp .NotIn) (l2 T (inA true)) := by
  intro pins s σ H x y v u Q I rx ry ⟨a, b, G, Qa, ra, rb, rg, hf, q⟩
  rcases hf with ⟨i, j, rfl, rfl, hf⟩ | ⟨d, ds, h1, h2, s1, s2, hf⟩
  · exact L2.op_notin_str pins s σ H x y v u Q I rx ry ⟨i, j, rv_str ra, rv_str rb, q _ _ _ _ hf (rv_b _) rg Kp.refl⟩
  · obtain ⟨as, r1, _⟩ := dat_reads ok I rg 60 a x v d h1 ra rx
    rcases h2 with h2 | h2
    · obtain ⟨bs, r2, _⟩ := dat_reads ok I rg 60 b y u _ h2 rb ry
      exact SeqAt.notIn_list_reads r2 r1 s2 (SeqAt.canLay_of_shaped s1) (room_in_shaped s1 hu) ⟨.bl _, H, I, rfl, q _ _ _ _ hf (rv_b _) rg Kp.refl⟩
    · obtain ⟨bs, r2, _⟩ := dat_reads ok I rg 60 b y u _ h2 rb ry
      exact SeqAt.notIn_tuple_reads r2 r1 s2 (SeqAt.canLay_of_shaped s1) (room_in_shaped s1 hu) ⟨.bl _, H, I, rfl, q _ _ _ _ hf (rv_b _) rg Kp.refl⟩
end
end Q
/-! Q6: built-ins, methods, subscripts. -/
namespace Q
open PySem PySem.Spec PyProof.Rows L2
section
variable {X : Cx} {T : Tx} {W : L2.WX} {a b e o : Expr} {es : List Expr} {ta tb to : EA} {t : LA} {pos : Pos}
theorem rvs1 {K : PySem.W.Frag} {H : Hp} {a : A} {vs : List V} (h : RVs K H [a] vs) : ∃ v, vs = [v] ∧ RV K H a v := by
  simp only [RVs] at h
  obtain ⟨v, r, rfl, h1, rfl⟩ := h
  exact ⟨v, rfl, h1⟩
theorem rvs2 {K : PySem.W.Frag} {H : Hp} {a b : A} {vs : List V} (h : RVs K H [a, b] vs) : ∃ v w, vs = [v, w] ∧ RV K H a v ∧ RV K H b w := by
  simp only [RVs] at h
  obtain ⟨v, r, rfl, h1, w, r', rfl, h2, rfl⟩ := h
  exact ⟨v, w, rfl, h1, h2⟩
theorem rvs0 {K : PySem.W.Frag} {H : Hp} {vs : List V} (h : RVs K H [] vs) : vs = [] := by simpa only [RVs] using h
/-- repr -/
def reprA : PN := fun as G Q => ∃ a d, as = [a] ∧ dat 60 G a = some d ∧ d.showable = true ∧ d.shown.length ≤ sizeLine ∧ d.depth ≤ 60 ∧ Q (.str d.shown) G
theorem c_repr (ok : T.Ok X) (hg : X.A.guards = some []) (hu : X.A.units + 64 < cLine) : CallR X (.builtin "repr") (lN T reprA) := by
  intro pins s σ H xs us Q I r h
  obtain ⟨as, G, Qa, rv, rg, ⟨a, d, rfl, h1, h2, h3, h4, hf⟩, q⟩ := h
  obtain ⟨v, rfl, ra⟩ := rvs1 rv
  obtain ⟨u, rfl, ru⟩ := vals1 r
  obtain ⟨bs, rd, na⟩ := dat_reads ok I rg 60 a v u d h1 ra ru
  have fin : ∀ h' u' tk, (∀ b o, s.heap.get? b = some o → h'.get? b = some o) → EP X pins σ Q (.str d.shown u') { s with heap := h', toks := tk } := fun h' u' tk hk =>
    ⟨.str d.shown, H, I.kept hk, ⟨_, rfl⟩, q _ _ _ _ hf (rv_s _) rg Kp.refl⟩
  cases rd with
  | none => exact PySem.P.repr_of_none (fin s.heap _ _ fun _ _ e => e)
  | bool b => exact PySem.P.repr_of_bool (by cases b <;> exact fin s.heap _ _ fun _ _ e => e)
  | int i t => exact PySem.P.repr_of_int (by simpa [PyData.showable] using h2) (fin s.heap _ _ fun _ _ e => e)
  | str x t => exact PySem.P.repr_of_str (fin s.heap _ _ fun _ _ e => e) h3
  | list e1 e2 e3 e4 => exact repr_ref (.list e1 e2 e3 e4) h2 na hg (by omega) h3 fin
  | tuple e1 e2 e3 e4 => exact repr_ref (.tuple e1 e2 e3 e4) h2 na hg (by omega) h3 fin
  | dict e1 e2 e3 e4 e5 => exact repr_ref (.dict e1 e2 e3 e4 e5) h2 na hg (by omega) h3 fin
/-- the items of a list or a tuple -/
def seqOf (G : Gp) : A → Option (List A)
  | .ref p => match G p with
    | some (.lst xs) => some xs
    | _ => none
  | .fro xs => some xs
  | .tup xs => some xs
  | _ => none
theorem seqOf_rep {H : Hp} {G : Gp} {a : A} {v : V} {xs : List A} (rg : RG T H G) (h : seqOf G a = some xs) (r : RV T.K H a v) : ∃ p vs, v = .ref p ∧ (SqL T.K H p vs ∨ SqT T.K H p vs) ∧ RVs T.K H xs vs := by
  cases a with
  | ref p =>
    simp only [seqOf] at h
    split at h
    · rename_i zs e1
      cases h
      obtain ⟨vs, h1, r1⟩ := rg p _ e1
      exact ⟨p, vs, rv_ref r, .inl (.of h1), r1⟩
    · cases h
  | fro ys =>
    simp only [seqOf, Option.some.injEq] at h; subst h
    simp only [RV] at r
    obtain ⟨p, vs, rfl, sq, rv⟩ := r
    exact ⟨p, vs, rfl, .inl sq.sq, rv⟩
  | tup ys =>
    simp only [seqOf, Option.some.injEq] at h; subst h
    obtain ⟨p, vs, rfl, sq, rv⟩ := rv_tup r
    exact ⟨p, vs, rfl, .inr sq, rv⟩
  | _ => simp [seqOf] at h
def lenA : PN := fun as G Q => match as with
  | [.str x] => x.length ≤ sizeLine ∧ Q (.int x.length) G
  | [a] => ∃ xs, seqOf G a = some xs ∧ Q (.int xs.length) G
  | _ => False
theorem c_len (hT : T.K = X.K) : CallR X (.builtin "len") (lN T lenA) := by
  intro pins s σ H xs us Q I r ⟨as, G, Qa, rv, rg, hf, q⟩
  unfold lenA at hf
  split at hf
  · obtain ⟨v, rfl, ra⟩ := rvs1 rv
    obtain rfl := rv_str ra
    exact call_len pins s σ H _ us Q I r ⟨_, _, rfl, ⟨hf.1, rfl⟩, q _ _ _ _ hf.2 (rv_i _) rg Kp.refl⟩
  · obtain ⟨v, rfl, ra⟩ := rvs1 rv
    obtain ⟨ys, h1, hf⟩ := hf
    obtain ⟨p, vs, rfl, sq, rv'⟩ := seqOf_rep rg h1 ra
    refine call_len pins s σ H _ us Q I r ⟨_, _, rfl, ?_, q _ _ _ _ hf (rv_i _) rg Kp.refl⟩
    rcases sq with sq | sq
    · exact .inl ⟨vs, hT ▸ sq, rv'.len.symm⟩
    · exact .inr ⟨vs, hT ▸ sq, rv'.len.symm⟩
  · exact hf.elim
def listA : PN := fun as G Q => ∃ a xs, as = [a] ∧ seqOf G a = some xs ∧ new (.lst xs) G Q
theorem c_list (hT : T.K = X.K) : CallR X (.type "list") (lN T listA) := by
  intro pins s σ H xs us Q I r h
  obtain ⟨as, G, Qa, rv, rg, ⟨a, ys, rfl, h1, hf⟩, q⟩ := h
  obtain ⟨v, rfl, ra⟩ := rvs1 rv
  obtain ⟨p, vs, rfl, sq, rv'⟩ := seqOf_rep rg h1 ra
  exact call_list_of pins s σ H _ us Q I r ⟨p, vs, rfl, hT ▸ sq, fun l hl => new_lst rg rv' hf q hl⟩
def tupleA : PN := fun as G Q => ∃ a xs, as = [a] ∧ seqOf G a = some xs ∧ Q (.tup xs) G
theorem c_tuple (hT : T.K = X.K) : CallR X (.type "tuple") (lN T tupleA) := by
  intro pins s σ H xs us Q I r h
  obtain ⟨as, G, Qa, rv, rg, ⟨a, ys, rfl, h1, hf⟩, q⟩ := h
  obtain ⟨v, rfl, ra⟩ := rvs1 rv
  obtain ⟨p, vs, rfl, sq, rv'⟩ := seqOf_rep rg h1 ra
  refine call_tuple_of pins s σ H _ us Q I r ⟨p, vs, rfl, ?_⟩
  rcases sq with sq | sq
  · exact .inl ⟨hT ▸ sq, fun l hl => new_tup rg rv' hf q hl⟩
  · exact .inr ⟨hT ▸ sq, q _ _ _ _ hf (rv_t sq rv') rg Kp.refl⟩
def absA : PN := fun as G Q => ∃ i, as = [.int i] ∧ Q (.int (if i < 0 then -i else i)) G
theorem c_abs : CallR X (.builtin "abs") (lN T absA) := by
  intro pins s σ H xs us Q I r h
  obtain ⟨as, G, Qa, rv, rg, ⟨i, rfl, hf⟩, q⟩ := h
  obtain ⟨v, rfl, ra⟩ := rvs1 rv
  obtain rfl := rv_int ra
  exact call_abs pins s σ H _ us Q I r ⟨i, rfl, q _ _ _ _ hf (rv_i _) rg Kp.refl⟩
def intOfA : PN := fun as G Q => match as with
  | [.int i] => Q (.int i) G
  | [.bl b] => Q (.int (if b then 1 else 0)) G
  | _ => False
theorem c_int : CallR X (.type "int") (lN T intOfA) := by
  intro pins s σ H xs us Q I r ⟨as, G, Qa, rv, rg, hf, q⟩
  unfold intOfA at hf
  split at hf
  · obtain ⟨v, rfl, ra⟩ := rvs1 rv
    obtain rfl := rv_int ra
    exact call_int1 pins s σ H _ us Q I r (.inl ⟨_, rfl, q _ _ _ _ hf (rv_i _) rg Kp.refl⟩)
  · obtain ⟨v, rfl, ra⟩ := rvs1 rv
    obtain rfl : v = .bl _ := by simpa only [RV] using ra
    exact call_int1 pins s σ H _ us Q I r (.inr ⟨_, rfl, q _ _ _ _ hf (rv_i _) rg Kp.refl⟩)
  · exact hf.elim
/-- all, any of a list of truths -/
def allA (f : List Bool → Bool) : PN := fun as G Q => ∃ a bs, as = [a] ∧ lstOf G a = some (bs.map A.bl) ∧ Q (.bl (f bs)) G
theorem rvs_bls {K : PySem.W.Frag} {H : Hp} : ∀ {bs : List Bool} {vs : List V}, RVs K H (bs.map A.bl) vs → vs = bs.map V.bl
  | [], vs, h => rvs0 h
  | b :: bs, vs, h => by
    rw [List.map_cons] at h
    simp only [RVs] at h
    obtain ⟨v, r, rfl, h1, h2⟩ := h
    simp only [RV] at h1
    rw [h1, rvs_bls h2]; rfl
theorem lstOf_rep {H : Hp} {G : Gp} {a : A} {v : V} {xs : List A} (rg : RG T H G) (h : lstOf G a = some xs) (r : RV T.K H a v) : ∃ p vs, v = .ref p ∧ SqL T.K H p vs ∧ RVs T.K H xs vs := by
  cases a with
  | ref p =>
    simp only [lstOf] at h
    split at h
    · rename_i zs e1
      cases h
      obtain ⟨vs, h1, r1⟩ := rg p _ e1
      exact ⟨p, vs, rv_ref r, .of h1, r1⟩
    · cases h
  | fro ys =>
    simp only [lstOf, Option.some.injEq] at h; subst h
    simp only [RV] at r
    obtain ⟨p, vs, rfl, sq, rv⟩ := r
    exact ⟨p, vs, rfl, sq.sq, rv⟩
  | _ => simp [lstOf] at h
theorem c_all (hT : T.K = X.K) (hc : X.calm = true) : CallR X (.builtin "all") (lN T (allA (·.all id))) := by
  intro pins s σ H xs us Q I r h
  obtain ⟨as, G, Qa, rv, rg, ⟨a, bs, rfl, h1, hf⟩, q⟩ := h
  obtain ⟨v, rfl, ra⟩ := rvs1 rv
  obtain ⟨p, vs, rfl, sq, rv'⟩ := lstOf_rep rg h1 ra
  obtain rfl := rvs_bls rv'
  exact cr_all hc pins s σ H _ us Q I r ⟨p, bs, rfl, hT ▸ sq, q _ _ _ _ hf (rv_b _) rg Kp.refl⟩
theorem c_any (hT : T.K = X.K) (hc : X.calm = true) : CallR X (.builtin "any") (lN T (allA (·.any id))) := by
  intro pins s σ H xs us Q I r h
  obtain ⟨as, G, Qa, rv, rg, ⟨a, bs, rfl, h1, hf⟩, q⟩ := h
  obtain ⟨v, rfl, ra⟩ := rvs1 rv
  obtain ⟨p, vs, rfl, sq, rv'⟩ := lstOf_rep rg h1 ra
  obtain rfl := rvs_bls rv'
  exact cr_any hc pins s σ H _ us Q I r ⟨p, bs, rfl, hT ▸ sq, q _ _ _ _ hf (rv_b _) rg Kp.refl⟩
/-! ### subscripts -/
def ixA : P2 := fun a b G Q => match b with
  | .int i => match a with
    | .str z => z.length ≤ sizeLine ∧ ∃ c, atI z.cps.toList i = some c ∧ Q (.str ⟨#[c]⟩) G
    | a => ∃ xs x, seqOf G a = some xs ∧ atI xs i = some x ∧ Q x G
  | _ => False
theorem atI_rep {K : PySem.W.Frag} {H : Hp} {xs : List A} {vs : List V} {i : Int} {x : A} (r : RVs K H xs vs) (h : atI xs i = some x) : ∃ v, atI vs i = some v ∧ RV K H x v := by
  unfold atI at *
  rw [r.len]
  cases e : ixN xs.length i with
  | none => rw [e] at h; cases h
  | some j =>
    rw [e] at h
    obtain ⟨v, e1, r1⟩ := r.get (i := j) h
    exact ⟨v, e1, r1⟩
theorem p_ix (hT : T.K = X.K) (ha : PE X a (lE T W ta)) (hb : PE X b (lE T W tb)) (hs : PlainIx b) : PE X (.Subscript a b pos) (lE T W (eBin ixA ta tb)) := by
  refine PE.imp (pe_ix ix_seq ha hb hs) fun σ H Q ⟨ς, G, Qa, Xa, rs, rg, h, q, hx⟩ => ⟨ς, G, _, Xa, rs, rg, h, fun x G1 v H1 h1 rv rg1 k1 => ?_, hx⟩
  refine ⟨ς, G1, _, Xa, rs.mono (k1.tups rg), rg1, h1, fun y G2 w H2 h2 rw' rg2 k2 => ?_, hx.step k1⟩
  show rIx X.K v w H2 Q
  have rv2 := k2.rv rg1 rv
  have q2 := q.step (k1.trans k2)
  cases y with
  | int i => ?_
  | _ => exact False.elim h2
  obtain rfl := rv_int rw'
  have sq_case : (∃ xs x', seqOf G2 x = some xs ∧ atI xs i = some x' ∧ Qa x' G2) → rIx X.K v (.int i) H2 Q := fun ⟨xs, x', e1, e2, h2⟩ => by
    obtain ⟨p, vs, rfl, sq, rvs⟩ := seqOf_rep rg2 e1 rv2
    obtain ⟨v', e3, r3⟩ := atI_rep rvs e2
    rcases sq with sq | sq
    · exact .inl ⟨p, vs, i, v', rfl, rfl, hT ▸ sq, e3, q2 _ _ _ _ h2 r3 rg2 Kp.refl⟩
    · exact .inr (.inl ⟨p, vs, i, v', rfl, rfl, hT ▸ sq, e3, q2 _ _ _ _ h2 r3 rg2 Kp.refl⟩)
  cases x with
  | str z =>
    obtain ⟨hz, c, e, h2⟩ := h2
    exact .inr (.inr ⟨z, i, c, rv_str rv2, rfl, hz, e, q2 _ _ _ _ h2 (rv_s _) rg2 Kp.refl⟩)
  | _ => exact sq_case h2
/-! slices -/
abbrev OA := En → Gp → (Option Int → Gp → Prop) → KX → Prop
def oNo : OA := fun _ G Q _ => Q none G
def oSome (t : EA) : OA := fun ς G Q X => t ς G (fun x G1 => match x with
  | .int i => Q (some i) G1
  | _ => False) X
def lO (T : Tx) (W : L2.WX) (t : OA) : TO := fun σ H Q => ∃ ς G Qa Xa, RS T.K H ς σ ∧ RG T H G ∧ t ς G Qa Xa ∧ (∀ i G' H', Qa i G' → RG T H' G' → Kp G H G' H' → Q i H') ∧ LX T G H Xa (WE W σ)
theorem PO.imp {X : Cx} {e : Option Expr} {t t' : TO} (p : PO X e t) (h : ∀ σ H Q, t' σ H Q → t σ H Q) : PO X e t' := ⟨fun pins s σ H Q I q => p.run pins s σ H Q I (h σ H Q q)⟩
theorem o_no : PO X none (lO T W oNo) := PO.imp po_none fun σ H Q ⟨ς, G, Qa, Xa, rs, rg, h, q, hx⟩ => q _ _ _ h rg Kp.refl
theorem o_some (ha : PE X a (lE T W ta)) : PO X (some a) (lO T W (oSome ta)) := by
  refine PO.imp (po_some ha) fun σ H Q ⟨ς, G, Qa, Xa, rs, rg, h, q, hx⟩ => ⟨ς, G, _, Xa, rs, rg, h, fun x G1 v H1 h1 rv rg1 k1 => ?_, hx⟩
  cases x with
  | int i => exact ⟨i, rv_int rv, q _ _ _ h1 rg1 k1⟩
  | _ => exact False.elim h1
def cutA {α : Type} (xs : List α) (lo hi : Option Int) : List α := (xs.drop (HT.sIx xs.length 0 lo)).take (HT.sIx xs.length xs.length hi - HT.sIx xs.length 0 lo)
def slA (a : A) (lo hi : Option Int) (G : Gp) (Q : KA) : Prop := match a with
  | .str z => z.length ≤ sizeLine ∧ Q (.str (L2.cutS z lo hi)) G
  | .tup xs => Q (.tup (cutA xs lo hi)) G
  | a => ∃ xs, lstOf G a = some xs ∧ new (.lst (cutA xs lo hi)) G Q
def eSl (ta : EA) (lo hi : OA) : EA := fun ς G Q X => ta ς G (fun x G1 => lo ς G1 (fun i G2 => hi ς G2 (fun j G3 => slA x i j G3 Q) X) X) X
theorem cut_rep {K : PySem.W.Frag} {H : Hp} {xs : List A} {vs : List V} {i j : Option Int} (r : RVs K H xs vs) : RVs K H (cutA xs i j) (cutV vs i j) := by
  unfold cutA cutV
  rw [r.len]
  exact (r.drop _).take _
end
end Q
/-! Q7: slices, methods, isinstance. -/
namespace Q
open PySem PySem.Spec PyProof.Rows L2
section
variable {X : Cx} {T : Tx} {W : L2.WX} {a b e o : Expr} {es : List Expr} {ta tb to : EA} {t : LA} {pos p2 : Pos}
theorem s_any (hT : T.K = X.K) : SlR X (fun x lo hi H Q => ∃ a G Qa, RV T.K H a x ∧ RG T H G ∧ slA a lo hi G Qa ∧ LQ T G H Qa Q) := by
  intro pins s σ H x v vl vu lo hi sl Q I rx hs pl pu h
  obtain ⟨a, G, Qa, ra, rg, h, q⟩ := h
  have lst : (∃ xs, lstOf G a = some xs ∧ new (.lst (cutA xs lo hi)) G Qa) → rSlL X.K x lo hi H Q := fun ⟨xs, e, n⟩ => by
    obtain ⟨p, vs, rfl, sq, rv⟩ := lstOf_rep rg e ra
    exact ⟨p, vs, rfl, hT ▸ sq, fun p hp => new_lst rg (cut_rep rv) n q hp⟩
  cases a with
  | str z => exact sl_str pins s σ H x v vl vu lo hi sl Q I rx hs pl pu ⟨z, rv_str ra, h.1, q _ _ _ _ h.2 (rv_s _) rg Kp.refl⟩
  | tup xs =>
    obtain ⟨p, vs, rfl, sq, rv⟩ := rv_tup ra
    have hl := rv.len
    refine sl_tupA pins s σ H _ v vl vu lo hi sl Q I rx hs pl pu ⟨p, vs, rfl, hT ▸ sq, fun ⟨h1, h2⟩ => ?_, fun _ p hp => new_tup rg (cut_rep rv) h q hp⟩
    have e : cutA xs lo hi = xs := by
      unfold cutA
      rw [hl] at h1 h2
      rw [h1, h2]; simp
    have h' : Qa (.tup (cutA xs lo hi)) G := h
    rw [e] at h'
    exact q _ _ _ _ h' ra rg Kp.refl
  | _ => exact sl_list pins s σ H x v vl vu lo hi sl Q I rx hs pl pu (lst h)
theorem p_sl {tl th : OA} {lo hi : Option Expr} (hT : T.K = X.K) (ha : PE X a (lE T W ta)) (hl : PO X lo (lO T W tl)) (hh : PO X hi (lO T W th)) : PE X (.Subscript a (.Slice lo hi none p2) pos) (lE T W (eSl ta tl th)) := by
  refine PE.imp (pe_slice (s_any hT) ha hl hh) fun σ H Q ⟨ς, G, Qa, Xa, rs, rg, h, q, hx⟩ => ⟨ς, G, _, Xa, rs, rg, h, fun x G1 v H1 h1 rv rg1 k1 => ?_, hx⟩
  refine ⟨ς, G1, _, Xa, rs.mono (k1.tups rg), rg1, h1, fun i G2 H2 h2 rg2 k2 => ?_, hx.step k1⟩
  have k12 := k1.trans k2
  refine ⟨ς, G2, _, Xa, rs.mono (k12.tups rg), rg2, h2, fun j G3 H3 h3 rg3 k3 => ?_, hx.step k12⟩
  exact ⟨x, G3, Qa, (k2.trans k3).rv rg1 rv, rg3, h3, q.step (k12.trans k3)⟩
def eRev (ta : EA) : EA := fun ς G Q X => ta ς G (fun x G1 => ∃ xs, lstOf G1 x = some xs ∧ new (.lst xs.reverse) G1 Q) X
theorem p_rev {k : Nat} {p1 p2 p3 : Pos} (hT : T.K = X.K) (ha : PE X a (lE T W ta)) : PE X (.Subscript a (.Slice none none (some (.UnaryOp .USub (.Constant (.int 1) k p1) p2)) p3) pos) (lE T W (eRev ta)) := by
  refine PE.imp (pe_revL ha) fun σ H Q ⟨ς, G, Qa, Xa, rs, rg, h, q, hx⟩ => ⟨ς, G, _, Xa, rs, rg, h, fun x G1 v H1 h1 rv rg1 k1 => ?_, hx⟩
  obtain ⟨xs, e, n⟩ := h1
  obtain ⟨p, vs, rfl, sq, rv⟩ := lstOf_rep rg1 e rv
  exact ⟨p, vs, rfl, hT ▸ sq, fun p hp => new_lst rg1 rv.reverse n (q.step k1) hp⟩
/-! ### methods of built-in types -/
def tyA (n : String) (G : Gp) : A → Prop
  | .str _ => n = "str"
  | .ref p => (n = "list" ∧ ∃ xs, G p = some (.lst xs)) ∨ (n = "dict" ∧ ∃ kvs, G p = some (.dct kvs))
  | _ => False
theorem tyA_rep {n : String} {G : Gp} {H : Hp} {a : A} {v : V} (hT : T.K = X.K) (rg : RG T H G) (r : RV T.K H a v) (h : tyA n G a) : tyV X.K n v H := by
  cases a with
  | str z => obtain rfl := rv_str r; exact h
  | ref p =>
    obtain rfl := rv_ref r
    rcases h with ⟨e, xs, h⟩ | ⟨e, kvs, h⟩
    · obtain ⟨vs, h1, _⟩ := rg p _ h
      exact .inl ⟨e, vs, .of h1⟩
    · rcases rg p _ h with ⟨qs, h1, _⟩ | ⟨qs, h1, _⟩
      · exact .inr (.inr (.inl ⟨e, .inl ⟨qs, h1⟩⟩))
      · exact .inr (.inr (.inl ⟨e, .inr ⟨qs, h1⟩⟩))
  | _ => exact False.elim h
def eM (n : String) (f : A → PN) (to : EA) (t : LA) : EA := fun ς G Q X => to ς G (fun x G1 => tyA n G1 x ∧ t ς G1 (fun as G2 => f x as G2 Q) X) X
theorem p_m {n id : String} {name : Str} {apos : Pos} {f : A → PN} (hT : T.K = X.K) (pa : PlainAttrs n) (slot : Slot n name id) (hty : typeOf (.builtin id) = pure (.type "method_descriptor")) (hm : MtR X id (lM T f)) (ho : PE X o (lE T W to)) (ha : PA X (e :: es) (lL T W t))
    (hbase : attributeBase o name X.env (eval o X.env) = eval o X.env)
    (hfew : ((backTo pos (starEach (e :: es) X.env)).all (fun x => !x.1) && (backToKw pos (keywordEach [] X.env)).all (fun x => x.1.isSome) && decide ((e :: es).length + ([] : List Keyword).length + (if ([] : List Keyword).isEmpty then 0 else 1) < 30)) = true)
    (hline : (apos.endLine == pos.line) = true) (hs : starEach (e :: es) X.env = (false, eval e X.env) :: starEach es X.env) (hplain : (backTo pos (starEach es X.env)).any (·.1) = false) :
    PE X (.Call (.Attribute o name apos) (e :: es) [] pos) (lE T W (eM n f to t)) := by
  refine PE.imp (pe_bm pa slot hty hm ho ha hbase hfew hline hs hplain) fun σ H Q ⟨ς, G, Qa, Xa, rs, rg, h, q, hx⟩ => ⟨ς, G, _, Xa, rs, rg, h, fun x G1 v H1 h1 rv rg1 k1 => ?_, hx⟩
  exact ⟨tyA_rep hT rg1 rv h1.1, ς, G1, _, Xa, rs.mono (k1.tups rg), rg1, h1.2, fun as G2 vs H2 h2 rvs rg2 k2 => ⟨x, as, G2, Qa, k2.rv rg1 rv, rvs, rg2, h2, q.step (k1.trans k2)⟩, hx.step k1⟩
theorem p_m0 {n id : String} {name : Str} {apos : Pos} {f : A → PN} (hT : T.K = X.K) (pa : PlainAttrs n) (slot : Slot n name id) (hty : typeOf (.builtin id) = pure (.type "method_descriptor")) (hm : MtR X id (lM T f)) (ho : PE X o (lE T W to))
    (hbase : attributeBase o name X.env (eval o X.env) = eval o X.env) (hline : (apos.endLine == pos.line) = true) : PE X (.Call (.Attribute o name apos) [] [] pos) (lE T W (eM n f to lNil)) := by
  refine PE.imp (pe_bm0 pa slot hty hm ho hbase hline) fun σ H Q ⟨ς, G, Qa, Xa, rs, rg, h, q, hx⟩ => ⟨ς, G, _, Xa, rs, rg, h, fun x G1 v H1 h1 rv rg1 k1 => ?_, hx⟩
  exact ⟨tyA_rep hT rg1 rv h1.1, x, [], G1, Qa, rv, rfl, rg1, h1.2, q.step k1⟩
/-! what they do -/
def wr (p : Addr) (o : O) (G : Gp) (Q : KA) : Prop := Q .non (up G p o)
theorem wr_lst {G1 : Gp} {H1 : Hp} {p : Addr} {xs as : List A} {vs ws : List V} {Qa : KA} {Q : VK} (rg1 : RG T H1 G1) (hp : G1 p = some (.lst xs)) (hv : H1 p = some (.lst ws)) (rv : RVs T.K H1 as vs) (h : wr p (.lst as) G1 Qa) (q : LQ T G1 H1 Qa Q) : Q .non (upd H1 p (.lst vs)) := by
  have n : ∀ u, imm u → H1 p ≠ some u := fun u i z => by rw [hv] at z; cases z; exact i
  exact q _ _ _ _ h rv_n (rg1.up n ⟨vs, upd_same, rv.mono (im_upd n)⟩) (Kp.wr (by rw [hp]; simp))
def appendA : A → PN := fun a as G Q => ∃ p xs y, a = .ref p ∧ as = [y] ∧ G p = some (.lst xs) ∧ xs.length < sizeLine ∧ wr p (.lst (xs ++ [y])) G Q
theorem m_append : MtR X "list.append" (lM T appendA) := by
  intro pins s σ H x xs v us Q I rx rs h
  obtain ⟨a, as, G, Qa, ra, rv, rg, ⟨p, ys, y, rfl, rfl, e, hz, h⟩, q⟩ := h
  obtain ⟨v1, rfl, r1⟩ := rvs1 rv
  obtain ⟨vs, h1, r2⟩ := rg p _ e
  exact mt_append pins s σ H x _ v us Q I rx rs ⟨p, vs, v1, rv_ref ra, rfl, h1, by rw [r2.len]; exact hz, wr_lst rg e h1 (r2.app (.one r1)) h q⟩
def insertA : A → PN := fun a as G Q => ∃ p xs i y, a = .ref p ∧ as = [.int i, y] ∧ G p = some (.lst xs) ∧ xs.length < sizeLine ∧ 0 ≤ i ∧ i < 2 ^ 63 ∧ wr p (.lst (xs.take i.toNat ++ [y] ++ xs.drop i.toNat)) G Q
theorem m_insert : MtR X "list.insert" (lM T insertA) := by
  intro pins s σ H x xs v us Q I rx rs h
  obtain ⟨a, as, G, Qa, ra, rv, rg, ⟨p, ys, i, y, rfl, rfl, e, hz, i0, i1, h⟩, q⟩ := h
  obtain ⟨v1, v2, rfl, r1, r1'⟩ := rvs2 rv
  obtain rfl := rv_int r1
  obtain ⟨vs, h1, r2⟩ := rg p _ e
  exact mt_insert pins s σ H x _ v us Q I rx rs ⟨p, vs, i, v2, rv_ref ra, rfl, h1, by rw [r2.len]; exact hz, i0, i1, wr_lst rg e h1 (((r2.take _).app (.one r1')).app (r2.drop _)) h q⟩
def reverseA : A → PN := fun a as G Q => ∃ p xs, a = .ref p ∧ as = [] ∧ G p = some (.lst xs) ∧ wr p (.lst xs.reverse) G Q
theorem m_reverse : MtR X "list.reverse" (lM T reverseA) := by
  intro pins s σ H x xs v us Q I rx rs h
  obtain ⟨a, as, G, Qa, ra, rv, rg, ⟨p, ys, rfl, rfl, e, h⟩, q⟩ := h
  obtain rfl := rvs0 rv
  obtain ⟨vs, h1, r2⟩ := rg p _ e
  exact mt_reverse pins s σ H x _ v us Q I rx rs ⟨p, vs, rv_ref ra, rfl, h1, wr_lst rg e h1 r2.reverse h q⟩
def clearA : A → PN := fun a as G Q => ∃ p xs, a = .ref p ∧ as = [] ∧ G p = some (.lst xs) ∧ wr p (.lst []) G Q
theorem m_clear : MtR X "list.clear" (lM T clearA) := by
  intro pins s σ H x xs v us Q I rx rs h
  obtain ⟨a, as, G, Qa, ra, rv, rg, ⟨p, ys, rfl, rfl, e, h⟩, q⟩ := h
  obtain rfl := rvs0 rv
  obtain ⟨vs, h1, r2⟩ := rg p _ e
  exact mt_clear pins s σ H x _ v us Q I rx rs ⟨p, vs, rv_ref ra, rfl, h1, wr_lst (vs := []) rg e h1 (by simp only [RVs]) h q⟩
def extendA : A → PN := fun a as G Q => ∃ p b xs ys, a = .ref p ∧ as = [.ref b] ∧ G p = some (.lst xs) ∧ G b = some (.lst ys) ∧ xs.length + ys.length ≤ sizeLine ∧ wr p (.lst (xs ++ ys)) G Q
theorem m_extend : MtR X "list.extend" (lM T extendA) := by
  intro pins s σ H x xs v us Q I rx rs h
  obtain ⟨a, as, G, Qa, ra, rv, rg, ⟨p, b, zs, ys, rfl, rfl, e, e2, hz, h⟩, q⟩ := h
  obtain ⟨v1, rfl, r1⟩ := rvs1 rv
  obtain rfl := rv_ref r1
  obtain ⟨vs, h1, r2⟩ := rg p _ e
  obtain ⟨ws, h3, r4⟩ := rg b _ e2
  exact mt_extend pins s σ H x _ v us Q I rx rs ⟨p, b, vs, ws, rv_ref ra, rfl, h1, h3, by rw [r2.len, r4.len]; exact hz, wr_lst rg e h1 (r2.app r4) h q⟩
/-- a text's truth tests -/
def strB (f : Str → Bool) : A → PN := fun a as G Q => ∃ z, a = .str z ∧ as = [] ∧ Q (.bl (f z)) G
theorem m_strB {id : String} {f : Str → Bool} (h : MtR X id (fun x xs H Q => ∃ a, x = .str a ∧ xs = [] ∧ True ∧ Q (.bl (f a)) H)) : MtR X id (lM T (strB f)) := by
  intro pins s σ H x xs v us Q I rx rs hh
  obtain ⟨a, as, G, Qa, ra, rv, rg, ⟨z, rfl, rfl, hf⟩, q⟩ := hh
  obtain rfl := rvs0 rv
  exact h pins s σ H x _ v us Q I rx rs ⟨z, rv_str ra, rfl, trivial, q _ _ _ _ hf (rv_b _) rg Kp.refl⟩
def upperA : A → PN := fun a as G Q => ∃ z, a = .str z ∧ as = [] ∧ z.length ≤ 5592405 ∧ Q (.str (Txt.upper z)) G
theorem m_upper : MtR X "str.upper" (lM T upperA) := by
  intro pins s σ H x xs v us Q I rx rs hh
  obtain ⟨a, as, G, Qa, ra, rv, rg, ⟨z, rfl, rfl, hz, hf⟩, q⟩ := hh
  obtain rfl := rvs0 rv
  exact mt_upper pins s σ H x _ v us Q I rx rs ⟨z, rv_str ra, rfl, hz, q _ _ _ _ hf (rv_s _) rg Kp.refl⟩
theorem rvs_strs {K : PySem.W.Frag} {H : Hp} : ∀ zs : List Str, RVs K H (zs.map A.str) (zs.map V.str)
  | [] => rfl
  | z :: zs => .cons (rv_s z) (rvs_strs zs)
theorem rvs_strs' {K : PySem.W.Frag} {H : Hp} : ∀ {zs : List Str} {vs : List V}, RVs K H (zs.map A.str) vs → vs = zs.map V.str
  | [], vs, h => rvs0 h
  | z :: zs, vs, h => by
    rw [List.map_cons] at h
    simp only [RVs] at h
    obtain ⟨v, r, rfl, h1, h2⟩ := h
    simp only [RV] at h1
    rw [h1, rvs_strs' h2]; rfl
def splitA : A → PN := fun a as G Q => ∃ z y, a = .str z ∧ as = [.str y] ∧ (y.length == 0) = false ∧ z.length + 2 ≤ sizeLine ∧ new (.lst ((Txt.split z y).map A.str)) G Q
theorem m_split : MtR X "str.split" (lM T splitA) := by
  intro pins s σ H x xs v us Q I rx rs hh
  obtain ⟨a, as, G, Qa, ra, rv, rg, ⟨z, y, rfl, rfl, h0, hz, hf⟩, q⟩ := hh
  obtain ⟨v1, rfl, r1⟩ := rvs1 rv
  obtain rfl := rv_str r1
  exact mt_split pins s σ H x _ v us Q I rx rs ⟨z, y, rv_str ra, rfl, h0, hz, fun p hp => new_lst rg (rvs_strs _) hf q hp⟩
def joinA : A → PN := fun a as G Q => ∃ z b ys, a = .str z ∧ as = [b] ∧ seqOf G b = some (ys.map A.str) ∧ (ys.map (·.length)).sum + ys.length * z.length ≤ 16777216 ∧ Q (.str (Txt.join z ys)) G
theorem m_join (hT : T.K = X.K) : MtR X "str.join" (lM T joinA) := by
  intro pins s σ H x xs v us Q I rx rs hh
  obtain ⟨a, as, G, Qa, ra, rv, rg, ⟨z, b, ys, rfl, rfl, e, hz, hf⟩, q⟩ := hh
  obtain ⟨v1, rfl, r1⟩ := rvs1 rv
  obtain ⟨p, vs, rfl, sq, rvs⟩ := seqOf_rep rg e r1
  obtain rfl := rvs_strs' rvs
  exact mt_join pins s σ H x _ v us Q I rx rs ⟨z, p, ys, rv_str ra, rfl, hT ▸ sq, hz, q _ _ _ _ hf (rv_s _) rg Kp.refl⟩
/-! ### isinstance of built-in types -/
def tyName (G : Gp) : A → Option String
  | .non => some "NoneType"
  | .bl _ => some "bool"
  | .int _ => some "int"
  | .str _ => some "str"
  | .tup _ => some "tuple"
  | .fro _ => some "list"
  | .ref p => match G p with
    | some (.lst _) => some "list"
    | some (.dct _) => some "dict"
    | _ => none
def isiB (n : String) (ts : List String) : Bool := ts.any fun t => n == t || (n == "bool" && t == "int")
def eIsi (ta : EA) (ts : List String) : EA := fun ς G Q X => ta ς G (fun x G1 => ∃ n, tyName G1 x = some n ∧ Q (.bl (isiB n ts)) G1) X
def okTy (t : String) : Bool := ["int", "bool", "str", "tuple", "list", "dict"].contains t
theorem tyName_mem {G : Gp} {a : A} {n : String} (h : tyName G a = some n) : n ∈ ["NoneType", "bool", "int", "str", "tuple", "list", "dict"] := by
  cases a with
  | ref p => simp only [tyName] at h; split at h <;> first | (cases h; decide) | cases h
  | _ => simp only [tyName, Option.some.injEq] at h; subst h; decide
theorem kits : (["NoneType", "bool", "int", "str", "tuple", "list", "dict"].all fun n => ["int", "bool", "str", "tuple", "list", "dict"].all fun t => L2.kitB n t == some (n == t || (n == "bool" && t == "int"))) = true := by decide +kernel
theorem kit_one {K : PySem.W.Frag} {n t : String} (hn : n ∈ ["NoneType", "bool", "int", "str", "tuple", "list", "dict"]) (ht : okTy t = true) : PySem.W.kitOne K (.type n) (.type t) = some (n == t || (n == "bool" && t == "int")) := by
  have h := List.all_eq_true.mp (List.all_eq_true.mp kits n hn) t (by simpa [okTy] using ht)
  exact L2.kit_ty (by simpa using h)
theorem tyName_rep {H : Hp} {G : Gp} {a : A} {v : V} {n : String} (hT : T.K = X.K) (rg : RG T H G) (h : tyName G a = some n) (r : RV T.K H a v) : TyX X.K H v (.type n) := by
  cases a with
  | non => simp only [tyName, Option.some.injEq] at h; subst h; simp only [RV] at r; subst r; exact .base .non
  | bl b => simp only [tyName, Option.some.injEq] at h; subst h; simp only [RV] at r; subst r; exact .base (.bl _)
  | int b => simp only [tyName, Option.some.injEq] at h; subst h; obtain rfl := rv_int r; exact .base (.int _)
  | str b => simp only [tyName, Option.some.injEq] at h; subst h; obtain rfl := rv_str r; exact .base (.str _)
  | tup xs =>
    simp only [tyName, Option.some.injEq] at h; subst h
    obtain ⟨p, vs, rfl, sq, _⟩ := rv_tup r
    rcases sq with (sq | ⟨o, sq⟩) | ⟨o, its, m, sq, c, _⟩
    · exact .base (.tup sq)
    · exact .fTuple sq
    · exact .kTuple (hT ▸ sq) c
  | fro xs =>
    simp only [tyName, Option.some.injEq] at h; subst h
    simp only [RV] at r
    obtain ⟨p, vs, rfl, sq, _⟩ := r
    rcases sq with ⟨o, sq⟩ | ((sq | ⟨o, sq⟩) | ⟨o, its, m, sq, c, _⟩)
    · exact .base (.frz sq)
    · cases sq
    · cases sq
    · exact .kList (hT ▸ sq) c
  | ref p =>
    obtain rfl := rv_ref r
    simp only [tyName] at h
    split at h
    · rename_i xs e; cases h
      obtain ⟨vs, h1, _⟩ := rg p _ e
      exact .base (.lst h1)
    · rename_i xs e; cases h
      rcases rg p _ e with ⟨qs, h1, _⟩ | ⟨qs, h1, _⟩
      · exact .base (.dK h1)
      · exact .base (.dT h1)
    · cases h
theorem p_isi1 {n : Str} {m : String} {pi pt : Pos} (hT : T.K = X.K) (he : PE X e (lE T W ta)) (hg : Gl X "isinstance") (hm : X.mg "isinstance" = none) (gn : Gl X n) (mn : X.mg n = none) (hv : bootBuiltins n = some (.type m)) (ht : okTy m = true) (hn : n ≠ "__name__") (hdb : (n == ("__debug__" : Str)) = false)
    (hs : starEach [e, .Name n pt] X.env = (false, eval e X.env) :: starEach [.Name n pt] X.env) : PE X (.Call (.Name "isinstance" pi) [e, .Name n pt] [] pos) (lE T W (eIsi ta [m])) := by
  refine PE.imp (pe_callB call_isi hg hm boot_isinstance (pa_cons he (pa_cons (pe_bltn (v := .ty m) gn mn hv rfl hn hdb) pa_nil) hs) (by decide) (by decide) hs rfl) fun σ H Q ⟨ς, G, Qa, Xa, rs, rg, h, q, hx⟩ => ⟨ς, G, _, Xa, rs, rg, h, fun x G1 v H1 h1 rv rg1 k1 => ?_, hx⟩
  obtain ⟨k, e1, h1⟩ := h1
  refine ⟨v, .ty m, .type k, .type m, _, rfl, .ty m, tyName_rep hT rg1 e1 rv, kit_one (tyName_mem e1) ht, ?_⟩
  have z : isiB k [m] = (k == m || (k == "bool" && m == "int")) := by simp [isiB]
  rw [← z]
  exact q _ _ _ _ h1 (rv_b _) rg1 k1
theorem p_isi2 {n n' : Str} {m m' : String} {x1 : Nat} {pi pt pt' pp : Pos} (hT : T.K = X.K) (he : PE X e (lE T W ta)) (hg : Gl X "isinstance") (hm : X.mg "isinstance" = none) (gn : Gl X n) (mn : X.mg n = none) (hv : bootBuiltins n = some (.type m)) (ht : okTy m = true) (hn : n ≠ "__name__") (hdb : (n == ("__debug__" : Str)) = false)
    (gn' : Gl X n') (mn' : X.mg n' = none) (hv' : bootBuiltins n' = some (.type m')) (ht' : okTy m' = true) (hn' : n' ≠ "__name__") (hdb' : (n' == ("__debug__" : Str)) = false)
    (hs : starEach [e, .Tuple [.Name n pt, .Name n' pt'] x1 pp] X.env = (false, eval e X.env) :: starEach [.Tuple [.Name n pt, .Name n' pt'] x1 pp] X.env) :
    PE X (.Call (.Name "isinstance" pi) [e, .Tuple [.Name n pt, .Name n' pt'] x1 pp] [] pos) (lE T W (eIsi ta [m, m'])) := by
  refine PE.imp (pe_callB call_isiT hg hm boot_isinstance (pa_cons he (pa_cons (pe_tup (pa_cons (pe_bltn (v := .ty m) gn mn hv rfl hn hdb) (pa_cons (pe_bltn (v := .ty m') gn' mn' hv' rfl hn' hdb') pa_nil))) pa_nil) hs) (by decide) (by decide) hs rfl) fun σ H Q ⟨ς, G, Qa, Xa, rs, rg, h, q, hx⟩ => ⟨ς, G, _, Xa, rs, rg, h, fun x G1 v H1 h1 rv rg1 k1 => ?_, hx⟩
  obtain ⟨k, e1, h1⟩ := h1
  refine ⟨by show 2 ≤ sizeLine; decide, fun p hp => ?_⟩
  refine ⟨v, p, [.ty m, .ty m'], .type k, [.type m, .type m'], _, rfl, upd_same, .cons (.ty m) (.cons (.ty m') .nil), tyName_rep (X := X) hT (rg1.newT hp) e1 (rv.mono (im_upd (nimm_none hp))), ?_, q _ _ _ _ h1 (rv_b _) (rg1.newT hp) (k1.trans (Kp.newT hp))⟩
  have z : isiB k [m, m'] = ((k == m || (k == "bool" && m == "int")) || (k == m' || (k == "bool" && m' == "int"))) := by simp [isiB]
  rw [z]
  refine kitAny_cons (kit_one (tyName_mem e1) ht) (fun hb => ?_) (fun hb => by rw [hb]; rfl)
  rw [hb, Bool.false_or]
  refine kitAny_cons (kit_one (tyName_mem e1) ht') (fun hb => by rw [hb]; exact kitAny_nil) (fun hb => hb)
end
end Q
/-! Q8: statements, loops, comprehensions. -/
namespace Q
open PySem PySem.Spec PyProof.Rows L2
structure LF (T : Tx) (G : Gp) (H : Hp) (Da : Fl) (D : Ends) (W : L2.WX) : Prop where
  nx : ∀ ς G' σ H', Da.nx ς G' → RS T.K H' ς σ → RG T H' G' → Kp G H G' H' → D.nx σ H'
  rt : LQ T G H Da.rt D.rt
  bk : ∀ ς G' σ H', Da.bk ς G' → RS T.K H' ς σ → RG T H' G' → Kp G H G' H' → D.bk σ H'
  ct : ∀ ς G' σ H', Da.ct ς G' → RS T.K H' ς σ → RG T H' G' → Kp G H G' H' → D.ct σ H'
  ex : ∀ e ς G' σ c d H', Da.ex e ς G' → RX T H' e c d → RS T.K H' ς σ → RG T H' G' → Kp G H G' H' → W c d σ H'
theorem LF.step {T : Tx} {G G1 : Gp} {H H1 : Hp} {Da : Fl} {D : Ends} {W : L2.WX} (q : LF T G H Da D W) (k : Kp G H G1 H1) : LF T G1 H1 Da D W :=
  ⟨fun ς G' σ H' a b c d => q.nx ς G' σ H' a b c (k.trans d), q.rt.step k, fun ς G' σ H' a b c d => q.bk ς G' σ H' a b c (k.trans d), fun ς G' σ H' a b c d => q.ct ς G' σ H' a b c (k.trans d), fun e ς G' σ c d H' a b r x z => q.ex e ς G' σ c d H' a b r x (k.trans z)⟩
/-- the wish about what an expression of the statement raises -/
theorem LF.lx {T : Tx} {G : Gp} {H : Hp} {Da : Fl} {D : Ends} {W : L2.WX} {ς : En} {σ : L2.St} (q : LF T G H Da D W) (rg : RG T H G) (rs : RS T.K H ς σ) : LX T G H (fun e G' => Da.ex e ς G') (WE W σ) := fun e G' c d H' h rx rg' k => q.ex e ς G' σ c d H' h rx (rs.mono (k.tups rg)) rg' k
def lS (T : Tx) (W : L2.WX) (t : SA) : TS := fun D σ H => ∃ ς G Da, RS T.K H ς σ ∧ RG T H G ∧ t Da ς G ∧ LF T G H Da D W
abbrev GA := A → En → Gp → (En → Gp → Prop) → Prop
def lG (T : Tx) (vs : List Nat) (g : GA) : TG := fun v σ H Q => ∃ a ς G Qa, RV T.K H a v ∧ RS T.K H ς σ ∧ RG T H G ∧ g a ς G Qa ∧
  ∀ ς' G' σ' H', Qa ς' G' → RS T.K H' ς' σ' → RG T H' G' → Kp G H G' H' → wipe σ' vs = wipe σ vs → Q σ' H'
theorem PG.imp {X : Cx} {e : Expr} {t t' : TG} (p : PG X e t) (h : ∀ v σ H Q, t' v σ H Q → t v σ H Q) : PG X e t' := ⟨fun pins s σ H v u Q I r q => p.run pins s σ H v u Q I r (h v σ H Q q)⟩
def gNm (i : Nat) : GA := fun a ς G Q => Q (ς.set i (some a)) G
theorem wipe_mem {i : Nat} {y : Option V} : ∀ {vs : List Nat} {σ : L2.St}, i ∈ vs → wipe (σ.set i y) vs = wipe σ vs
  | v :: vs, σ, h => by
    unfold wipe
    by_cases hv : i ∈ vs
    · rw [wipe_mem hv]
    · have e : v = i := by simpa [hv, eq_comm] using h
      subst e
      have z : ∀ (ws : List Nat) (τ : L2.St), v ∉ ws → wipe (τ.set v y) ws = (wipe τ ws).set v y := by
        intro ws
        induction ws with
        | nil => intro τ _; rfl
        | cons w ws ih =>
          intro τ hw
          have h1 : v ≠ w := fun e => hw (by simp [e])
          have h2 : v ∉ ws := fun e => hw (by simp [e])
          unfold wipe
          rw [ih τ h2, List.set_comm _ _ h1]
      rw [z vs σ hv, List.set_set]
theorem g_nm {X : Cx} {T : Tx} {i : Nat} {x : Str} {pos : Pos} {vs : List Nat} (hN : X.N.Nodup) (hi : X.N[i]? = some x) (hx : Loc X.env.scope x) (hf : X.fn x = true ∨ X.env.scope.names.lookup x = some .local) (hv : i ∈ vs) : PG X (.Name x pos) (lG T vs (gNm i)) :=
  PG.imp (pg_name hN hi hx hf) fun v σ H Q ⟨a, ς, G, Qa, rv, rs, rg, h, q⟩ => q _ _ _ _ h (rs.set i rv) rg Kp.refl (wipe_mem hv)
def gTp (is : List Nat) : GA := fun a ς G Q => match a with
  | .tup xs => xs.length = is.length ∧ Q ((is.zip xs).foldl (fun ς p => ς.set p.1 (some p.2)) ς) G
  | _ => False
/-! ### blocks and small statements -/
section
variable {X : Cx} {T : Tx} {W : L2.WX} {e c : Expr} {st : Stmt} {a b rest : List Stmt} {ta : EA} {tt : BA} {t u : SA} {pos : Pos}
def sNx : SA := fun D ς G => D.nx ς G
def sSeq (t u : SA) : SA := fun D ς G => t { D with nx := u D } ς G
def sRet (ta : EA) : SA := fun D ς G => ta ς G D.rt (fun e => D.ex e ς)
def sRetN : SA := fun D _ G => D.rt .non G
def sEx (ta : EA) : SA := fun D ς G => ta ς G (fun _ G1 => D.nx ς G1) (fun e => D.ex e ς)
def sIf (tt : BA) (t u : SA) : SA := fun D ς G => tt ς G (fun k G1 => if k = true then t D ς G1 else u D ς G1) (fun e => D.ex e ς)
def sBrk : SA := fun D ς G => D.bk ς G
def sCnt : SA := fun D ς G => D.ct ς G
def sSet (ta : EA) (g : GA) : SA := fun D ς G => ta ς G (fun x G1 => g x ς G1 D.nx) (fun e => D.ex e ς)
theorem b_nil : PSs X [] (lS T W sNx) := PSs.imp pss_nil fun D σ H ⟨ς, G, Da, rs, rg, h, q⟩ => q.nx _ _ _ _ h rs rg Kp.refl
theorem b_cons (h1 : PS X st (lS T W t)) (h2 : PSs X rest (lS T W u)) : PSs X (st :: rest) (lS T W (sSeq t u)) := by
  refine PSs.imp (pss_cons h1 h2) fun D σ H ⟨ς, G, Da, rs, rg, h, q⟩ => ⟨ς, G, _, rs, rg, h, ⟨fun ς' G' σ' H' a b c d => ⟨ς', G', Da, b, c, a, q.step d⟩, q.rt, q.bk, q.ct, q.ex⟩⟩
theorem s_pass : PS X (.Pass pos) (lS T W sNx) := PS.imp ps_pass fun D σ H ⟨ς, G, Da, rs, rg, h, q⟩ => q.nx _ _ _ _ h rs rg Kp.refl
theorem s_brk : PS X (.Break pos) (lS T W sBrk) := PS.imp ps_break fun D σ H ⟨ς, G, Da, rs, rg, h, q⟩ => q.bk _ _ _ _ h rs rg Kp.refl
theorem s_cnt : PS X (.Continue pos) (lS T W sCnt) := PS.imp ps_continue fun D σ H ⟨ς, G, Da, rs, rg, h, q⟩ => q.ct _ _ _ _ h rs rg Kp.refl
theorem s_ret (he : PE X e (lE T W ta)) : PS X (.Return (some e) pos) (lS T W (sRet ta)) :=
  PS.imp (ps_ret he) fun D σ H ⟨ς, G, Da, rs, rg, h, q⟩ => ⟨ς, G, Da.rt, fun e => Da.ex e ς, rs, rg, h, q.rt, q.lx rg rs⟩
theorem s_retN : PS X (.Return none pos) (lS T W sRetN) := PS.imp ps_retN fun D σ H ⟨ς, G, Da, rs, rg, h, q⟩ => q.rt _ _ _ _ h rv_n rg Kp.refl
theorem s_ex (he : PE X e (lE T W ta)) (hs : swapsWith e none pos.line X.env = pure false) : PS X (.Expr e pos) (lS T W (sEx ta)) :=
  PS.imp (ps_expr he hs) fun D σ H ⟨ς, G, Da, rs, rg, h, q⟩ => ⟨ς, G, _, fun e => Da.ex e ς, rs, rg, h, fun _ G1 _ H1 h1 _ rg1 k1 => q.nx _ _ _ _ h1 (rs.mono (k1.tups rg)) rg1 k1, q.lx rg rs⟩
theorem s_doc {x : Str} {j : Option Str} {pos' : Pos} {k : Nat} : PS X (.Expr (.Constant (.str x) k pos) pos') (lS T W sNx) := PS.imp ps_doc fun D σ H ⟨ς, G, Da, rs, rg, h, q⟩ => q.nx _ _ _ _ h rs rg Kp.refl
theorem s_if (hc : PT X c (lB T W tt)) (ha : PSs X a (lS T W t)) (hb : PSs X b (lS T W u)) : PS X (.If c a b pos) (lS T W (sIf tt t u)) := by
  refine PS.imp (ps_if hc ha hb) fun D σ H ⟨ς, G, Da, rs, rg, h, q⟩ => ⟨ς, G, _, fun e => Da.ex e ς, rs, rg, h, fun k G1 H1 h1 rg1 k1 => ?_, q.lx rg rs⟩
  cases k
  · rw [if_neg Bool.false_ne_true] at h1 ⊢
    exact ⟨ς, G1, Da, rs.mono (k1.tups rg), rg1, h1, q.step k1⟩
  · rw [if_pos rfl] at h1 ⊢
    exact ⟨ς, G1, Da, rs.mono (k1.tups rg), rg1, h1, q.step k1⟩
theorem s_set {i : Nat} {x : Str} {pos' : Pos} (hN : X.N.Nodup) (hi : X.N[i]? = some x) (hx : Loc X.env.scope x) (he : PE X e (lE T W ta)) (hs : swapsWith e (some (.Name x pos')) pos.line X.env = pure false) (hf : X.fn x = true ∨ X.env.scope.names.lookup x = some .local) :
    PS X (.Assign [.Name x pos'] e pos) (lS T W (sSet ta (gNm i))) := by
  refine PS.imp (ps_set hN hi hx he hs hf) fun D σ H ⟨ς, G, Da, rs, rg, h, q⟩ => ⟨ς, G, _, fun e => Da.ex e ς, rs, rg, h, fun x G1 v H1 h1 rv rg1 k1 => ?_, q.lx rg rs⟩
  exact q.nx _ _ _ _ h1 ((rs.mono (k1.tups rg)).set i rv) rg1 k1
theorem s_asg {tg : Expr} {vs : List Nat} {g : GA} (he : PE X e (lE T W ta)) (hg : PG X tg (lG T vs g)) (hs : swapsWithSole [tg] e pos.line X.env = pure false) (hw : swappedStores [tg] e X.env = pure none) (h1 : (assignEach [tg] X.env).map (·.2) = [assign tg X.env]) :
    PS X (.Assign [tg] e pos) (lS T W (sSet ta g)) := by
  refine PS.imp (ps_asg he hg hs hw h1) fun D σ H ⟨ς, G, Da, rs, rg, h, q⟩ => ⟨ς, G, _, fun e => Da.ex e ς, rs, rg, h, fun x G1 v H1 h1 rv rg1 k1 => ?_, q.lx rg rs⟩
  exact ⟨x, ς, G1, _, rv, rs.mono (k1.tups rg), rg1, h1, fun ς' G' σ' H' a b c d _ => q.nx _ _ _ _ a b c (k1.trans d)⟩
def sPar (i j : Nat) (t : LA) : SA := fun D ς G => t ς G (fun as G1 => match as with
  | [x, y] => D.nx ((ς.set i (some x)).set j (some y)) G1
  | _ => False) (fun e => D.ex e ς)
theorem s_par {i j : Nat} {x y : Str} {a b : Expr} {t : LA} {px py pt : Pos} {kt k2 : Nat} {pt2 : Pos} (hc : X.calm = true) (hN : X.N.Nodup) (hi : X.N[i]? = some x) (hj : X.N[j]? = some y) (hij : i ≠ j)
    (hx : X.env.scope.names.lookup x = some .local) (hy : X.env.scope.names.lookup y = some .local) (ha : PA X [a, b] (lL T W t))
    (hw : swappedStores [.Tuple [.Name x px, .Name y py] kt pt] (.Tuple [a, b] k2 pt2) X.env = pure (some [x, y])) (hs : swapsWithSole [.Tuple [.Name x px, .Name y py] kt pt] (.Tuple [a, b] k2 pt2) pos.line X.env = pure false) :
    PS X (.Assign [.Tuple [.Name x px, .Name y py] kt pt] (.Tuple [a, b] k2 pt2) pos) (lS T W (sPar i j t)) := by
  refine PS.imp (ps_par hc hN hi hj hij hx hy ha hw hs) fun D σ H ⟨ς, G, Da, rs, rg, h, q⟩ => ⟨ς, G, _, fun e => Da.ex e ς, rs, rg, h, fun as G1 vs H1 h1 rv rg1 k1 => ?_, q.lx rg rs⟩
  match as, h1 with
  | [x1, y1], h1 =>
    obtain ⟨v, w, rfl, r1, r2⟩ := rvs2 rv
    exact ⟨v, w, rfl, q.nx _ _ _ _ h1 (((rs.mono (k1.tups rg)).set i r1).set j r2) rg1 k1⟩
end
end Q
/-! Q9: what is walked; for; list comprehensions. -/
namespace Q
open PySem PySem.Spec PyProof.Rows L2
/-- J yields the items xs, as long as chk holds -/
structure IterOk (T : Tx) (H1 : Hp) (J : It) (xs : List A) (chk : Gp → Prop) : Prop where
  go : ∀ i H G, Im H1 H → RG T H G → chk G → i < xs.length → J.go i H
  yld : ∀ i H G x H', Im H1 H → RG T H G → chk G → J.yld i H x H' → i < xs.length → ∃ a, xs[i]? = some a ∧ RV T.K H' a x ∧ RG T H' G ∧ Kp G H G H'
  stop : ∀ H G, Im H1 H → RG T H G → chk G → J.stop xs.length H
abbrev IA := En → Gp → (List A → (Gp → Prop) → Gp → Prop) → KX → Prop
def lI (T : Tx) (W : L2.WX) (t : IA) : TI := fun σ H R => ∃ ς G Qa Xa, RS T.K H ς σ ∧ RG T H G ∧ t ς G Qa Xa ∧ (∀ xs chk G' J H', Qa xs chk G' → IterOk T H' J xs chk → RG T H' G' → Kp G H G' H' → R J H') ∧ LX T G H Xa (WE W σ)
def yes : Gp → Prop := fun _ => True
/-- the items of a list, a tuple, a text -/
def itOf (x : A) (G : Gp) (R : List A → (Gp → Prop) → Gp → Prop) : Prop := match x with
  | .tup xs => R xs yes G
  | .fro xs => R xs yes G
  | .str z => R (z.cps.toList.map fun c => .str ⟨#[c]⟩) yes G
  | .ref p => match G p with
    | some (.lst xs) => R xs (fun G' => G' p = some (.lst xs)) G
    | _ => False
  | _ => False
def iSeq (ta : EA) : IA := fun ς G R X => ta ς G (fun x G1 => itOf x G1 R) X
def iRng1 (ta : EA) : IA := fun ς G R X => ta ς G (fun x G1 => match x with
  | .int j => -(2 ^ 62) ≤ j ∧ j < 2 ^ 62 ∧ R ((List.range j.toNat).map fun (i : Nat) => A.int (i : Int)) yes G1
  | _ => False) X
def iRng2 (ta tb : EA) : IA := fun ς G R X => ta ς G (fun x G1 => tb ς G1 (fun y G2 => match x, y with
  | .int i, .int j => -(2 ^ 62) ≤ i ∧ i < 2 ^ 62 ∧ -(2 ^ 62) ≤ j ∧ j < 2 ^ 62 ∧ R ((List.range (j - i).toNat).map fun (k : Nat) => A.int (i + (k : Int))) yes G2
  | _, _ => False) X) X
section
variable {X : Cx} {T : Tx} {W : L2.WX} {tg e : Expr} {ta tb : EA} {pos : Pos}
theorem PI.imp {X : Cx} {tg e : Expr} {t t' : TI} (p : PI X tg e t) (h : ∀ σ H Q, t' σ H Q → t σ H Q) : PI X tg e t' := ⟨fun pins s σ H R I q => p.run pins s σ H R I (h σ H R q)⟩
theorem iter_list (hT : T.K = X.K) {H1 : Hp} {p : Addr} {xs : List A} {vs : List V} {chk : Gp → Prop} (h : ∀ H G, Im H1 H → RG T H G → chk G → ∃ vs, SqL T.K H p vs ∧ RVs T.K H xs vs) : IterOk T H1 (Itl X.K p) xs chk where
  go := fun i H G im rg c hi => by
    obtain ⟨vs, sq, rv⟩ := h H G im rg c
    have : i < vs.length := by rw [rv.len]; exact hi
    exact ⟨vs, vs[i], hT ▸ sq, by simp [this]⟩
  yld := fun i H G x H' im rg c y hi => by
    obtain ⟨vs, sq, rv⟩ := h H G im rg c
    obtain ⟨rfl, hy⟩ := y
    obtain ⟨a, e, r⟩ := rv.get' (hy vs (hT ▸ sq))
    exact ⟨a, e, r, rg, Kp.refl⟩
  stop := fun H G im rg c => by
    obtain ⟨vs, sq, rv⟩ := h H G im rg c
    exact ⟨vs, hT ▸ sq, by rw [rv.len]; exact Nat.le_refl _⟩
theorem iter_tup (hT : T.K = X.K) {H1 : Hp} {p : Addr} {xs : List A} {vs : List V} (sq : SqT T.K H1 p vs) (rv : RVs T.K H1 xs vs) : IterOk T H1 (Itt X.K p) xs yes where
  go := fun i H G im rg c hi => by
    have : i < vs.length := by rw [rv.len]; exact hi
    exact ⟨vs, vs[i], hT ▸ SqT.mono im sq, by simp [this]⟩
  yld := fun i H G x H' im rg c y hi => by
    obtain ⟨rfl, hy⟩ := y
    obtain ⟨a, e, r⟩ := (rv.mono im).get' (hy vs (hT ▸ SqT.mono im sq))
    exact ⟨a, e, r, rg, Kp.refl⟩
  stop := fun H G im rg c => ⟨vs, hT ▸ SqT.mono im sq, by rw [rv.len]; exact Nat.le_refl _⟩
theorem iter_str {H1 : Hp} {z : Str} : IterOk T H1 (Its z) (z.cps.toList.map fun c => .str ⟨#[c]⟩) yes where
  go := fun i H G im rg c hi => by simpa [Its] using hi
  yld := fun i H G x H' im rg c y hi => by
    obtain ⟨rfl, k, hk, rfl⟩ := y
    refine ⟨.str ⟨#[k]⟩, ?_, rv_s _, rg, Kp.refl⟩
    rw [List.getElem?_map]
    have : z.cps.toList[i]? = some k := by simpa using hk
    rw [this]; rfl
  stop := fun H G im rg c => by simp [Its]
theorem iter_rng {H1 : Hp} {lo : Int} {n : Nat} : IterOk T H1 (Itr lo n) ((List.range n).map fun (i : Nat) => A.int (lo + (i : Int))) yes where
  go := fun i H G im rg c hi => by simpa [Itr] using hi
  yld := fun i H G x H' im rg c y hi => by
    obtain ⟨rfl, rfl⟩ := y
    refine ⟨.int (lo + i), ?_, rv_i _, rg, Kp.refl⟩
    rw [List.getElem?_map]
    have : i < n := by simpa using hi
    rw [List.getElem?_range this]; rfl
  stop := fun H G im rg c => by simp [Itr]
theorem i_seq (hT : T.K = X.K) (he : PE X e (lE T W ta)) : PI X tg e (lI T W (iSeq ta)) := by
  refine ⟨fun pins s σ H R I h => ?_⟩
  obtain ⟨ς, G, Qa, Xa, rs, rg, h, q, hx⟩ := h
  have hh : lE T W ta σ H (fun v H1 => ∃ x G1, RV T.K H1 x v ∧ RG T H1 G1 ∧ Kp G H G1 H1 ∧ itOf x G1 Qa) := ⟨ς, G, _, Xa, rs, rg, h, fun x G1 v H1 h1 rv rg1 k1 => ⟨x, G1, rv, rg1, k1, h1⟩, hx⟩
  refine thn (he.run pins s σ H _ I hh) fun u s1 q1 => ?_
  obtain ⟨v, H1, I1, ru, x, G1, rv, rg1, k1, h1⟩ := q1
  have lst : ∀ (p : Addr) (xs : List A) (chk : Gp → Prop), v = .ref p → (∃ vs, SqL T.K H1 p vs) → Qa xs chk G1 → IterOk T H1 (Itl X.K p) xs chk → wpAny (model X.prog X.w) X.A (pyIter u) (PIE X pins σ tg R) X.xe s1 := by
    intro p xs chk e ⟨vs, sq⟩ h2 ok
    subst e
    cases ru
    obtain ⟨its, _, pl, _⟩ := I1.list (hT ▸ sq)
    exact wpAny_pyIter_list pl.isList (pi_one (tk := s1.toks) I1 _ (turn_list p _) ⟨_, Heap.get?_push_size _ rfl, rfl, rfl⟩ (q xs chk G1 _ H1 h2 ok rg1 k1))
  cases x with
  | tup xs =>
    obtain ⟨p, vs, rfl, sq, rvs⟩ := rv_tup rv
    cases ru
    obtain ⟨its, _, pl, _⟩ := I1.tuple (hT ▸ sq)
    exact wpAny_pyIter_tuple (show s1.heap.IsTuple p its.toArray from pl) (pi_one (tk := s1.toks) I1 _ (turn_tuple p _) ⟨_, Heap.get?_push_size _ rfl, rfl, rfl⟩ (q xs yes G1 _ H1 h1 (iter_tup hT sq rvs) rg1 k1))
  | fro xs =>
    simp only [RV] at rv
    obtain ⟨p, vs, rfl, sq, rvs⟩ := rv
    exact lst p xs yes rfl ⟨vs, sq.sq⟩ h1 (iter_list (vs := vs) hT fun H G im _ _ => ⟨vs, (SqF.mono im sq).sq, rvs.mono im⟩)
  | str z =>
    obtain rfl := rv_str rv
    obtain ⟨t, rfl⟩ := ru
    have fin := q _ yes G1 _ H1 h1 iter_str rg1 k1
    cases ha : z.cps.all (· < 128)
    · exact wpAny_pyIter_wide ha (pi_one (tk := s1.toks) I1 _ (turn_str _ z t "str_iterator" (.inr rfl)) ⟨_, Heap.get?_push_size _ rfl, rfl, rfl⟩ fin)
    · exact wpAny_pyIter_ascii ha (pi_one (tk := s1.toks) I1 _ (turn_str _ z t "str_ascii_iterator" (.inl rfl)) ⟨_, Heap.get?_push_size _ rfl, rfl, rfl⟩ fin)
  | ref p =>
    obtain rfl := rv_ref rv
    simp only [itOf] at h1
    split at h1
    · rename_i xs e
      obtain ⟨vs, e1, r1⟩ := rg1 p _ e
      exact lst p xs _ rfl ⟨vs, .of e1⟩ h1 (iter_list (vs := vs) hT fun H G _ rg c => let ⟨ws, a, b⟩ := rg p _ c; ⟨ws, .of a, b⟩)
    · exact h1.elim
  | _ => exact False.elim h1
theorem i_rng1 {p : Pos} (hg : Gl X "range") (hm : X.mg "range" = none) (he : PE X e (lE T W ta)) (hs : starEach [e] X.env = [(false, eval e X.env)]) : PI X tg (.Call (.Name "range" p) [e] [] pos) (lI T W (iRng1 ta)) := by
  refine PI.imp (pi_range1 hg hm (pa_cons he pa_nil hs) hs) fun σ H R ⟨ς, G, Qa, Xa, rs, rg, h, q, hx⟩ => ⟨ς, G, _, Xa, rs, rg, h, fun x G1 v H1 h1 rv rg1 k1 => ?_, hx⟩
  cases x with
  | int j =>
    obtain rfl := rv_int rv
    refine ⟨j, rfl, h1.1, h1.2.1, q _ yes G1 _ H1 h1.2.2 ?_ rg1 k1⟩
    have := iter_rng (T := T) (H1 := H1) (lo := 0) (n := j.toNat)
    simpa using this
  | _ => exact False.elim h1
theorem i_rng2 {p : Pos} {e2 : Expr} (hg : Gl X "range") (hm : X.mg "range" = none) (he : PE X e (lE T W ta)) (he2 : PE X e2 (lE T W tb)) (hs : starEach [e, e2] X.env = [(false, eval e X.env), (false, eval e2 X.env)]) (hs2 : starEach [e2] X.env = [(false, eval e2 X.env)]) :
    PI X tg (.Call (.Name "range" p) [e, e2] [] pos) (lI T W (iRng2 ta tb)) := by
  refine PI.imp (pi_range2 hg hm (pa_cons he (pa_cons he2 pa_nil hs2) (by rw [hs, hs2])) hs hs2) fun σ H R ⟨ς, G, Qa, Xa, rs, rg, h, q, hx⟩ => ⟨ς, G, _, Xa, rs, rg, h, fun x G1 v H1 h1 rv rg1 k1 => ?_, hx⟩
  refine ⟨ς, G1, _, Xa, rs.mono (k1.tups rg), rg1, h1, fun y G2 w H2 h2 rw' rg2 k2 => ?_, hx.step k1⟩
  cases x with
  | int i =>
    cases y with
    | int j =>
      obtain rfl := rv_int rv
      obtain rfl := rv_int rw'
      exact ⟨i, j, rfl, ⟨h2.1, h2.2.1, h2.2.2.1, h2.2.2.2.1⟩, q _ yes G2 _ H2 h2.2.2.2.2 iter_rng rg2 (k1.trans k2)⟩
    | _ => exact False.elim h2
  | _ => cases y <;> exact False.elim h2
/-! ### for -/
def forR (g : GA) (tb : SA) (chk : Gp → Prop) : List A → Fl → En → Gp → Prop
  | [], D, ς, G => chk G ∧ D.nx ς G
  | x :: xs, D, ς, G => chk G ∧ g x ς G fun ς2 G2 => tb { D with nx := forR g tb chk xs D, ct := forR g tb chk xs D, bk := D.nx } ς2 G2
def sFor (it : IA) (g : GA) (tb : SA) : SA := fun D ς G => it ς G (fun xs chk G1 => forR g tb chk xs D ς G1) (fun e => D.ex e ς)
theorem Im.trans {H H1 H2 : Hp} (a : Im H H1) (b : Im H1 H2) : Im H H2 := fun p u i h => b p u i (a p u i h)
theorem Im.refl {H : Hp} : Im H H := fun _ _ _ h => h
theorem drop_some {α : Type} {xs : List α} {i : Nat} {a : α} (h : xs[i]? = some a) : xs.drop i = a :: xs.drop (i + 1) := by
  obtain ⟨hi, e⟩ := List.getElem?_eq_some_iff.mp h
  rw [List.drop_eq_getElem_cons hi, e]
theorem s_for {it : IA} {g : GA} {tbd : SA} {vs : List Nat} {body : List Stmt} {iter : Expr} (hp : PassesOwn (model X.prog X.w) X.A X.env X.xe) (hc : X.calm = true) (hi : PI X tg iter (lI T W it)) (hg : PG X tg (lG T vs g)) (hb : PSs X body (lS T W tbd)) (hs : ∀ x, foldedSetIterable iter X.env x = pure x) :
    PS X (.For tg iter body [] pos) (lS T W (sFor it g tbd)) := by
  refine PS.imp (ps_for hp hc hi hg hb hs) fun D σ H ⟨ς, G, Da, rs, rg, h, q⟩ => ⟨ς, G, _, fun e => Da.ex e ς, rs, rg, h, fun xs chk G1 J H1 h1 ok rg1 k1 => ?_, q.lx rg rs⟩
  refine ⟨fun i m σ' H' => m = xs.length - i ∧ i ≤ xs.length ∧ ∃ ς' G', RS T.K H' ς' σ' ∧ RG T H' G' ∧ Kp G H G' H' ∧ Im H1 H' ∧ forR g tbd chk (xs.drop i) Da ς' G', ⟨_, rfl, Nat.zero_le _, ς, G1, rs.mono (k1.tups rg), rg1, k1, Im.refl, h1⟩, ?_⟩
  rintro i m σ' H' ⟨rfl, hi, ς', G', rs', rg', k', im, f⟩
  by_cases hlt : i < xs.length
  · have hx : xs[i]? = some xs[i] := by simp [hlt]
    rw [drop_some hx] at f
    obtain ⟨hchk, f⟩ := f
    refine .inr ⟨ok.go i H' G' im rg' hchk hlt, fun σ2 H2 => ∃ ς2 G2, RS T.K H2 ς2 σ2 ∧ RG T H2 G2 ∧ Kp G H G2 H2 ∧ Im H1 H2 ∧ forR g tbd chk (xs.drop (i + 1)) Da ς2 G2, fun σ2 H2 ⟨ς2, G2, a, b, c, d, e⟩ => ⟨xs.length - (i + 1), by omega, rfl, hlt, ς2, G2, a, b, c, d, e⟩, fun x H2 y => ?_⟩
    obtain ⟨a, e, rv, rg2, k2⟩ := ok.yld i H' G' x H2 im rg' hchk y hlt
    have ea : xs[i] = a := by rw [hx] at e; exact Option.some.inj e
    subst ea
    have im2 : Im H' H2 := k2.tups rg'
    refine ⟨_, ς', G', _, rv, rs'.mono im2, rg2, f, fun ς3 G3 σ3 H3 h3 rs3 rg3 k3 _ => ?_⟩
    have im3 : Im H2 H3 := k3.tups rg2
    have k03 := (k'.trans k2).trans k3
    refine ⟨ς3, G3, _, rs3, rg3, h3, ⟨fun ς4 G4 σ4 H4 a b c d => ⟨ς4, G4, b, c, k03.trans d, ((im.trans im2).trans im3).trans (d.tups rg3), a⟩, (q.step k03).rt, fun ς4 G4 σ4 H4 a b c d => q.nx _ _ _ _ a b c (k03.trans d), fun ς4 G4 σ4 H4 a b c d => ⟨ς4, G4, b, c, k03.trans d, ((im.trans im2).trans im3).trans (d.tups rg3), a⟩, (q.step k03).ex⟩⟩
  · have e : i = xs.length := by omega
    subst e
    rw [List.drop_length] at f
    exact .inl ⟨ok.stop H' G' im rg' f.1, q.nx _ _ _ _ f.2 rs' rg' k'⟩
end
end Q
/-! Q10: list comprehensions. -/
namespace Q
open PySem PySem.Spec PyProof.Rows L2
def wipeA (ς : En) : List Nat → En
  | [] => ς
  | v :: vs => (wipeA ς vs).set v none
theorem RS.unset {K : PySem.W.Frag} {H : Hp} {ς : En} {σ : L2.St} (h : RS K H ς σ) (i : Nat) : RS K H (ς.set i none) (σ.set i none) := by
  refine ⟨by simpa using h.1, fun j b e => ?_⟩
  by_cases hj : i = j
  · subst hj
    by_cases hl : i < ς.length
    · rw [List.getElem?_set_self hl] at e; cases e
    · rw [List.getElem?_eq_none (by simpa using hl)] at e; cases e
  · rw [List.getElem?_set_ne hj] at e
    obtain ⟨w, e1, r1⟩ := h.2 j b e
    exact ⟨w, by rw [List.getElem?_set_ne hj]; exact e1, r1⟩
theorem RS.wipe {K : PySem.W.Frag} {H : Hp} {ς : En} {σ : L2.St} (h : RS K H ς σ) : ∀ vs : List Nat, RS K H (wipeA ς vs) (L2.wipe σ vs)
  | [] => h
  | v :: vs => (RS.wipe h vs).unset v
theorem wipe_wipe {σ : L2.St} {vs : List Nat} : wipe (wipe σ vs) vs = wipe σ vs := by
  have key : ∀ (ws : List Nat) (τ : L2.St), (∀ i ∈ ws, τ[i]? = some none ∨ τ[i]? = none) → wipe τ ws = τ := by
    intro ws
    induction ws with
    | nil => intro τ _; rfl
    | cons w ws ih =>
      intro τ h
      unfold L2.wipe
      rw [ih τ fun i hi => h i (by simp [hi])]
      apply List.ext_getElem?
      intro j
      by_cases hj : w = j
      · subst hj
        rcases h w (by simp) with z | z
        · have : w < τ.length := (List.getElem?_eq_some_iff.mp z).1
          rw [List.getElem?_set_self this, z]
        · rw [z, List.getElem?_eq_none (by simpa using List.getElem?_eq_none_iff.mp z)]
      · rw [List.getElem?_set_ne hj]
  refine key vs _ fun i hi => ?_
  cases e : (wipe σ vs)[i]? with
  | none => exact .inr rfl
  | some y =>
    cases y with
    | none => exact .inl rfl
    | some x => exact absurd hi (wipe_some e).2
theorem RG.wrT {T : Tx} {H : Hp} {G : Gp} (r : RG T H G) {p : Addr} {h : HO} {xs : List V} (g : G p = none) (e : H p = some (.lst xs)) : RG T (upd H p h) G := fun b u q => by
  have hb : b ≠ p := fun z => by subst z; rw [g] at q; cases q
  exact (r b u q).mono (im_upd fun u i z => by rw [e] at z; cases z; exact i) (upd_ne hb)
/-- the turns of a comprehension -/
def lcR (g : GA) (tt : BA) (te : EA) (vs : List Nat) (chk : Gp → Prop) (Qf : List A → Gp → Prop) : List A → List A → En → Gp → Prop
  | [], acc, _, G => chk G ∧ Qf acc G
  | x :: xs, acc, ς, G => chk G ∧ g x (wipeA ς vs) G fun ς2 G2 => tt ς2 G2 (fun b G3 => if b = true then te ς2 G3 (fun y G4 => acc.length < sizeLine ∧ lcR g tt te vs chk Qf xs (acc ++ [y]) ς G4) (fun _ _ => False)
      else lcR g tt te vs chk Qf xs acc ς G3) (fun _ _ => False)
def eLc (it : IA) (g : GA) (tt : BA) (te : EA) (vs : List Nat) : EA := fun ς G Q X => it ς G (fun xs chk G1 => lcR g tt te vs chk (fun acc G2 => new (.lst acc) G2 Q) xs [] ς G1) X
def bYes : BA := fun _ G Q _ => Q true G
theorem PTs.imp {X : Cx} {e : List Expr} {t t' : TT} (p : PTs X e t) (h : ∀ σ H Q, t' σ H Q → t σ H Q) : PTs X e t' := ⟨fun pins s σ H Q I q => p.run pins s σ H Q I (h σ H Q q)⟩
theorem ts_nil {X : Cx} {T : Tx} {W : L2.WX} : PTs X [] (lB T W bYes) := PTs.imp pts_nil fun σ H Q ⟨ς, G, Qa, Xa, rs, rg, h, q, hx⟩ => q _ _ _ h rg Kp.refl
theorem ts_one {X : Cx} {T : Tx} {W : L2.WX} {c : Expr} {tt : BA} (h : PT X c (lB T W tt)) : PTs X [c] (lB T W tt) := pts_one h
/-- nothing is raised -/
abbrev W0 : L2.WX := fun _ _ _ _ => False
theorem lX_no {T : Tx} {G : Gp} {H : Hp} {W : XK} : LX T G H (fun _ _ => False) W := fun _ _ _ _ _ h => h.elim
theorem lc_lift {T : Tx} {W : L2.WX} {it : IA} {g : GA} {tt : BA} {te : EA} {vs : List Nat} {σ : L2.St} {H : Hp} {Q : VK} (h : lE T W (eLc it g tt te vs) σ H Q) :
    tLc (lI T W it) (lG T vs g) (lB T W0 tt) (lE T W0 te) vs σ H Q := by
  obtain ⟨ς, G, Qa, Xa, rs, rg, h, q, hx⟩ := h
  refine ⟨ς, G, _, Xa, rs, rg, h, fun xs chk G1 J H1 h1 ok rg1 k1 => ?_, hx⟩
  intro D hD
  have gD : G1 D = none := rg1.free hD
  have im0 : Im H1 (upd H1 D (.lst [])) := im_upd (nimm_none hD)
  refine ⟨fun i m H' => m = xs.length - i ∧ i ≤ xs.length ∧ ∃ acc accV G', RG T H' G' ∧ G' D = none ∧ H' D = some (.lst accV) ∧ RVs T.K H' acc accV ∧ (∀ b u, b ≠ D → G1 b = none → H1 b = some u → G' b = none ∧ H' b = some u) ∧ Im H1 H' ∧
      lcR g tt te vs chk (fun acc G2 => new (.lst acc) G2 Qa) (xs.drop i) acc ς G', ⟨_, rfl, Nat.zero_le _, [], [], G1, rg1.newT hD, gD, upd_same, by simp only [RVs], fun b u hb x y => ⟨x, (upd_ne hb).trans y⟩, im0, h1⟩, ?_⟩
  rintro i m H' ⟨rfl, hi, acc, accV, G', rg', gD', hD', rva, kd, im, f⟩
  by_cases hlt : i < xs.length
  · have hx' : xs[i]? = some xs[i] := by simp [hlt]
    rw [drop_some hx'] at f
    obtain ⟨hchk, f⟩ := f
    refine .inr ⟨ok.go i H' G' im rg' hchk hlt, fun H'' => ∃ acc accV G'', RG T H'' G'' ∧ G'' D = none ∧ H'' D = some (.lst accV) ∧ RVs T.K H'' acc accV ∧ (∀ b u, b ≠ D → G1 b = none → H1 b = some u → G'' b = none ∧ H'' b = some u) ∧ Im H1 H'' ∧
      lcR g tt te vs chk (fun acc G2 => new (.lst acc) G2 Qa) (xs.drop (i + 1)) acc ς G'', fun H'' z => ⟨_, by omega, rfl, hlt, z⟩, fun x H2 y => ?_⟩
    obtain ⟨a, e, rv, rg2, k2⟩ := ok.yld i H' G' x H2 im rg' hchk y hlt
    have ea : xs[i] = a := by rw [hx'] at e; exact Option.some.inj e
    subst ea
    have im2 : Im H' H2 := k2.tups rg'
    have rs2 : RS T.K H2 ς σ := ((rs.mono (k1.tups rg)).mono im).mono im2
    refine ⟨_, wipeA ς vs, G', _, rv, rs2.wipe vs, rg2, f, fun ς3 G3 σ3 H3 h3 rs3 rg3 k3 hw => ⟨hw.trans wipe_wipe, ς3, G3, _, _, rs3, rg3, h3, fun b G4 H4 h4 rg4 k4 => ?_, lX_no⟩⟩
    have k24 := (k2.trans k3).trans k4
    have im4 : Im H' H4 := k24.tups rg'
    obtain ⟨g4, d4⟩ := k24 D _ gD' hD'
    cases b with
    | false =>
      rw [if_neg Bool.false_ne_true] at h4
      refine L2.iteF ?_
      exact ⟨acc, accV, G4, rg4, g4, d4, rva.mono im4, fun b u hb x y => let ⟨z1, z2⟩ := kd b u hb x y; k24 b u z1 z2, im.trans im4, h4⟩
    | true =>
      rw [if_pos rfl] at h4
      refine L2.iteT ?_
      refine ⟨ς3, G4, _, _, rs3.mono (k4.tups rg3), rg4, h4, fun y G5 v H5 h5 rv5 rg5 k5 => ?_, lX_no⟩
      have k25 := k24.trans k5
      have im5 : Im H' H5 := k25.tups rg'
      obtain ⟨g5, d5⟩ := k25 D _ gD' hD'
      have im6 : Im H5 (upd H5 D (.lst (accV ++ [v]))) := im_upd fun u i z => by rw [d5] at z; cases z; exact i
      refine ⟨accV, d5, by rw [rva.len]; exact h5.1, acc ++ [y], accV ++ [v], G5, rg5.wrT g5 d5, g5, upd_same, ((rva.mono im5).mono im6).app (.one (rv5.mono im6)), fun b u hb x y => ?_, (im.trans im5).trans im6, h5.2⟩
      obtain ⟨z1, z2⟩ := kd b u hb x y
      obtain ⟨z3, z4⟩ := k25 b u z1 z2
      exact ⟨z3, (upd_ne hb).trans z4⟩
  · have e : i = xs.length := by omega
    subst e
    rw [List.drop_length] at f
    refine .inl ⟨ok.stop H' G' im rg' f.1, q _ (up G' D (.lst acc)) _ _ (f.2 D gD') (rv_r D) (fun b u z => ?_) fun b u x y => ?_⟩
    · by_cases hb : b = D
      · subst hb; rw [up_same] at z; cases z; exact ⟨accV, hD', rva⟩
      · rw [up_ne hb] at z; exact rg' b u z
    · obtain ⟨x1, y1⟩ := k1 b u x y
      have hb : b ≠ D := fun z => by subst z; rw [hD] at y1; cases y1
      obtain ⟨z1, z2⟩ := kd b u hb x1 y1
      exact ⟨(up_ne hb).trans z1, z2⟩
section
variable {X : Cx} {T : Tx} {W : L2.WX} {elt tg iter : Expr} {ifs : List Expr} {scope : Scope} {own : List (Str × Nat)} {pos spos : Pos} {it : IA} {g : GA} {tt : BA} {te : EA}
theorem p_lc (hc : X.calm = true) (hN : X.N.Nodup) (hi : PI X tg iter (lI T W it)) (ok : BlkOk X.N X.env.scope scope own)
    (hg : ∀ s H C cl fp, PG (X.blk s H scope (compEnvC scope cl C X.env) fp) tg (lG T (own.map (·.2)) g)) (ht : ∀ s H C cl fp, PTs (X.blk s H scope (compEnvC scope cl C X.env) fp) ifs (lB T W0 tt))
    (he : ∀ s H C cl fp, PE (X.blk s H scope (compEnvC scope cl C X.env) fp) elt (lE T W0 te)) (hs : ∀ x, foldedSetIterable iter X.env x = pure x) :
    PE X (.ListComp elt [⟨tg, iter, ifs, 0⟩] scope pos) (lE T W (eLc it g tt te (own.map (·.2)))) :=
  PE.imp (pe_lc hc hN hi ok hg ht he hs) fun σ H Q h => lc_lift h
theorem s_setLc {i : Nat} {y : Str} {py : Pos} (hc : X.calm = true) (hN : X.N.Nodup) (hy : X.N[i]? = some y) (hyl : X.env.scope.names.lookup y = some .local)
    (hsw : swapsWith (.ListComp elt [⟨tg, iter, ifs, 0⟩] scope pos) (some (.Name y py)) spos.line X.env = pure true) (hi : PI X tg iter (lI T W it)) (ok : BlkOk X.N X.env.scope scope own)
    (hg : ∀ s H C cl fp, PG (X.blk s H scope (compEnvC scope cl C X.env) fp) tg (lG T (own.map (·.2)) g)) (ht : ∀ s H C cl fp, PTs (X.blk s H scope (compEnvC scope cl C X.env) fp) ifs (lB T W0 tt))
    (he : ∀ s H C cl fp, PE (X.blk s H scope (compEnvC scope cl C X.env) fp) elt (lE T W0 te)) (hs : ∀ x, foldedSetIterable iter X.env x = pure x) :
    PS X (.Assign [.Name y py] (.ListComp elt [⟨tg, iter, ifs, 0⟩] scope pos) spos) (lS T W (sSet (eLc it g tt te (own.map (·.2))) (gNm i))) := by
  refine PS.imp (ps_setLc hc hN hy hyl hsw hi ok hg ht he hs) fun D σ H ⟨ς, G, Da, rs, rg, h, q⟩ => ?_
  refine lc_lift (Q := fun x H1 => gName i x σ H1 D.nx) ⟨ς, G, _, fun e => Da.ex e ς, rs, rg, h, fun x G1 v H1 h1 rv rg1 k1 => ?_, q.lx rg rs⟩
  exact q.nx _ _ _ _ h1 ((rs.mono (k1.tups rg)).set i rv) rg1 k1
end
end Q
/-! Q11: defs of the text: what a call promises, a def by its body, the law's call. -/
namespace Q
open PySem PySem.Spec PyProof.Rows L2
/-- as FnOk, where nothing is being printed -/
structure FnG (P : Program) (w : World) (K : PySem.W.Frag) (mg : Str → Option Value) (base : Heap) (CX : CXT) (k : Nat) (f : Addr) (fd : FuncData) (ps : List Str) (sp : Sp) : Prop where
  len : ∀ vs H Q E, sp vs H Q E → vs.length = ps.length
  run : ∀ (A : Around), Room k A → A.guards = some [] → ∀ (fr : List Env) (s : Shared) (H : Hp) (as : Args) (us : List Value) (vs : List V) (Q : VK) (E : XK), Env0 P w K mg base A fr s H → BindsTo s fd as (ps.zip us) → Vals vs us →
    sp vs H Q E → codeAny (model P w) A (.call (.ref f) as) (CR CX fr P w H s Q E) s
structure FD where
  ps : Nat
  slots : Nat
  body : Cal → SA
/-- a call, to a depth: the name is the def's -/
abbrev FTab := Str → Option FD
def runF (FT : FTab) : Nat → String → List A → Gp → KA → KX → Prop
  | 0, _, _, _, _, _ => False
  | n + 1, f, as, G, Q, Xa => ∃ d, FT (Str.ofString f) = some d ∧ as.length = d.ps ∧ d.body (runF FT n) { nx := fun _ G' => Q .non G', rt := Q, ex := fun e _ G' => Xa e G' } (as.map some ++ List.replicate (d.slots - d.ps) none) G
/-- the promise of the def f -/
def spA (T : Tx) (FT : FTab) (n : Nat) (f : String) : Sp := fun vs H Q E => ∃ as G Qa Xa, RVs T.K H as vs ∧ RG T H G ∧ runF FT n f as G Qa Xa ∧ LQ T G H Qa Q ∧ LX T G H Xa E
section
variable {X : Cx} {T : Tx} {W : L2.WX} {FT : FTab} {k n : Nat} {f : Addr} {fd : FuncData} {ps : List Str} {x : Str} {p pos : Pos} {e : Expr} {es : List Expr} {t : LA} {F : String}
theorem goG {pins : List (Addr × Obj)} {σ : L2.St} {H : Hp} {s : Shared} {Q : VK} {us : List Value} {vs : List V} {sp : Sp} (FN : FnG X.prog X.w X.K X.mg X.base (L2.CX X.prog X.w) k f fd ps sp) (hr : Room k X.A) (hg : X.A.guards = some []) (hb : Binds X.K fd ps []) (tk : Takes X W)
    (I : Inv X pins σ H s) (r : Vals vs us) (h : sp vs H Q (WE W σ)) : wpAny (model X.prog X.w) X.A (call (.ref f) us) (EP X pins σ Q) X.xe s := by
  have hl : us.length = ps.length := by rw [← r.length]; exact FN.len _ _ _ _ h
  have bd : BindsTo s fd ⟨us, []⟩ (ps.zip us) := by
    have z := hb s us I.kIn (by simpa using hl)
    rwa [List.append_nil] at z
  refine wpAny_call (codeAny_mono (FN.run X.A hr hg X.stack s H ⟨us, []⟩ us vs Q (WE W σ) I.env0 bd r h) fun res s' hq => ?_)
  match res, hq with
  | .error er, hq => exact passAt tk σ pins H s er s' I hq
  | .ok (.ret u), hq => exact I.after hq
theorem p_call (FN : FnG X.prog X.w X.K X.mg X.base (L2.CX X.prog X.w) k f fd ps (spA T FT n F)) (hr : Room k X.A) (hgd : X.A.guards = some []) (hg : Gl X x) (hm : X.mg x = some (.ref f)) (hk : PySem.W.keepIn X.K (.ref f) = true) (hb : Binds X.K fd ps []) (tk : Takes X W)
    (ha : PA X (e :: es) (lL T W t)) (hdb : (x == ("__debug__" : Str)) = false) (he : starEach (e :: es) X.env = (false, eval e X.env) :: starEach es X.env) (hpl : (backTo pos (starEach es X.env)).any (·.1) = false) :
    PE X (.Call (.Name x p) (e :: es) [] pos) (lE T W (eCall (runF FT n) F t)) := by
  refine ⟨fun pins s σ H Q I h => wpAny_Call_Name_kw (ld_glob I hg hm ?_ hdb)⟩
  obtain ⟨ς, G, Qa, Xa, rs, rg, h, q, hxa⟩ := h
  have hh : lL T W t σ H (fun vs H1 => spA T FT n F vs H1 Q (WE W σ)) := ⟨ς, G, _, Xa, rs, rg, h, fun as G1 vs H1 h1 rv rg1 k1 => ⟨as, G1, Qa, Xa, rv, rg1, h1, q.step k1, hxa.step k1⟩, hxa⟩
  refine PySem.W.callWith_K (h₀ := X.base) I.ok.mod.kin hk (thn (ha.run pos pins s σ H _ I hh) fun us s1 ⟨vs, H1, I1, r, q1⟩ => ⟨I1.kIn, goG FN hr hgd hb tk I1 r q1⟩) he hpl
theorem p_call0 (FN : FnG X.prog X.w X.K X.mg X.base (L2.CX X.prog X.w) k f fd ps (spA T FT n F)) (hr : Room k X.A) (hgd : X.A.guards = some []) (hg : Gl X x) (hm : X.mg x = some (.ref f)) (hk : PySem.W.keepIn X.K (.ref f) = true) (hb : Binds X.K fd ps []) (tk : Takes X W)
    (hdb : (x == ("__debug__" : Str)) = false) : PE X (.Call (.Name x p) [] [] pos) (lE T W (eCall (runF FT n) F lNil)) := by
  refine ⟨fun pins s σ H Q I h => wpAny_Call_Name_kw (ld_glob I hg hm ?_ hdb)⟩
  obtain ⟨ς, G, Qa, Xa, rs, rg, h, q, hxa⟩ := h
  exact PySem.W.callWith_K0 I.kIn hk (goG (us := []) (vs := []) FN hr hgd hb tk I .nil ⟨[], G, Qa, Xa, by simp only [RVs], rg, h, q, hxa⟩)
end
/-! ### a def by its body -/
theorem rs_start {K : PySem.W.Frag} {H : Hp} {as : List A} {vs : List V} (r : RVs K H as vs) (n : Nat) : RS K H (as.map some ++ List.replicate n none) (vs.map some ++ List.replicate n none) := by
  refine ⟨by simp [r.len], fun i a e => ?_⟩
  by_cases hi : i < as.length
  · rw [List.getElem?_append_left (by simpa using hi), List.getElem?_map] at e
    cases h : as[i]? with
    | none => rw [h] at e; cases e
    | some b =>
      rw [h] at e; cases e
      obtain ⟨v, e1, r1⟩ := r.get h
      exact ⟨v, by rw [List.getElem?_append_left (by simp [r.len, hi]), List.getElem?_map, e1]; rfl, r1⟩
  · rw [List.getElem?_append_right (by simpa using hi), List.getElem?_replicate] at e
    split at e <;> cases e
theorem fnG_of {P : Program} {w : World} {K : PySem.W.Frag} {mg : Str → Option Value} {base : Heap} {T : Tx} {FT : FTab} {n : Nat} {x qual : Str} {st : Stmt} {f : Addr} {fd : FuncData} {N ps : List Str} {F : String} {d : FD} (hF : Fun K x qual st f fd) (S : FnScope N ps (defScope st))
    (hd : FT (Str.ofString F) = some d) (h1 : d.ps = ps.length) (h2 : d.slots = N.length)
    (hb : ∀ (cdv : Value) (A : Around) (fr : List Env) (s : Shared) (H : Hp) (E : XK), Room n (A.deeper (envOfC qual (defScope st) s.heap.objs.size f cdv)) → A.guards = some [] →
      PSs (cxOf (L2.CX P w) P w K mg base N qual (defScope st) f cdv A fr s H E) (defBody st) (lS T (fun c x _ H => E c x H) (d.body (runF FT n)))) : FnG P w K mg base (L2.CX P w) (n + 1) f fd ps (spA T FT (n + 1) F) := by
  have hlen : ∀ vs H Q E, spA T FT (n + 1) F vs H Q E → vs.length = ps.length := fun vs H Q E h => by
    obtain ⟨as, G, Qa, Xa, rv, rg, ⟨d', e, l, _⟩, _⟩ := h
    rw [hd] at e; cases e; rw [rv.len, l, h1]
  refine ⟨hlen, fun A hr hg fr s H args us vs Q E e0 bnd r hsp => ?_⟩
  have hl := hlen _ _ _ _ hsp
  obtain ⟨oc, od, kV, doc, pm, an, cdv, ct, osl, rfl, lk, hcd⟩ := hF.ex
  have KX : K.In s.heap := e0.mod.kin.keeps fun b o q => (e0.bs b o q).1
  refine codeAny_call_function hr.depth (KX _ _ lk) rfl S.co S.gen rfl (PySem.W.codeRec_of KX hcd) (bnd _ _ _ _ ?_)
  refine wpAny_newFunctionEnv_cells S.kind ?hk fun env he s1 y => ?_
  case hk =>
    intro z hz
    rcases S.par z.1 (List.of_mem_zip (show (z.1, z.2) ∈ ps.zip us from hz)).1 with q | q
    · exact .inl q
    · exact .inr ⟨q, PySem.W.cellsFrom_some _ _ _ (.inl q)⟩
  subst he
  refine ⟨(e0.mod.nolimit.keeps fun b o q => (e0.bs b o q).1).keeps y.toInCall.keep, codeAny_func ?_⟩
  have I := inv_start (CX := L2.CX P w) (E := E) S hr.hd e0 hl r y
  have body := hb cdv A fr s H E (hr.deeper _) hg
  obtain ⟨as, G, Qa, Xa, rv, rg, ⟨d', e, l, run⟩, q, hx⟩ := hsp
  rw [hd] at e; cases e
  have red : lS T (fun c x _ H => E c x H) (d.body (runF FT n)) { nx := fun _ H' => Q .non H', rt := Q } (L2.start N vs) H := by
    refine ⟨_, G, _, ?_, rg, run, ⟨fun ς G' σ H' z _ rg' k' => q _ _ _ _ z rv_n rg' k', q, fun _ _ _ _ z => z.elim, fun _ _ _ _ z => z.elim, fun e ς G' σ c d H' z rx _ rg' k' => hx e G' c d H' z rx rg' k'⟩⟩
    have z := rs_start rv (d.slots - d.ps)
    unfold L2.start
    have e1 : N.length - vs.length = d.slots - d.ps := by rw [rv.len, l, h2]
    rw [e1]
    exact z
  refine wpAny_mono (body.run [] s1 (L2.start N vs) H _ I red) (fun fl s' hs => ?_) fun e s' hs => hs
  match fl, hs with
  | .ret u, ⟨v, σ', H', J, rv', q'⟩ => exact ⟨v, H', J.os, J.bare, J.base, J.hok, rv', q'⟩
  | .next, ⟨σ', H', J, q'⟩ => exact ⟨V.non, H', J.os, J.bare, J.base, J.hok, rfl, q'⟩
  | .brk, ⟨_, _, _, q'⟩ => exact False.elim q'
  | .cont, ⟨_, _, _, q'⟩ => exact False.elim q'
end Q
/-! Q12: stores by place, tuple targets. -/
namespace Q
open PySem PySem.Spec PyProof.Rows L2
section
variable {X : Cx} {T : Tx} {W : L2.WX} {o i e : Expr} {to ti te : EA} {pos tpos : Pos}
/-- o[i] = v of a list -/
def gSub (to ti : EA) : GA := fun v ς G Q => to ς G (fun x G1 => ti ς G1 (fun y G2 => ∃ p xs k j, x = .ref p ∧ y = .int k ∧ G2 p = some (.lst xs) ∧ ixN xs.length k = some j ∧ Q ς (up G2 p (.lst (xs.set j v)))) (fun _ _ => False)) (fun _ _ => False)
theorem g_sub {vs : List Nat} (ho : PE X o (lE T W to)) (hi : PE X i (lE T W ti)) (ha : ∀ v, assign (.Subscript o i tpos) X.env v = (do
      let ov ← holding [v] (eval o X.env)
      let iv ← holding [v, ov] (eval i X.env)
      standAt tpos
      holding [v, ov, iv] (setItem ov iv v)
      release [v, ov, iv] [])) : PG X (.Subscript o i tpos) (lG T vs (gSub to ti)) := by
  refine PG.imp (pg_sub ho hi set_list ha) fun v σ H Q ⟨a, ς, G, Qa, rv, rs, rg, h, q⟩ => ⟨ς, G, _, _, rs, rg, h, fun x G1 v1 H1 h1 r1 rg1 k1 => ?_, lX_no⟩
  refine ⟨ς, G1, _, _, rs.mono (k1.tups rg), rg1, h1, fun y G2 v2 H2 h2 r2 rg2 k2 => ?_, lX_no⟩
  obtain ⟨p, xs, k, j, rfl, rfl, e1, e2, h2⟩ := h2
  have k12 := k1.trans k2
  obtain ⟨ws, hw, rw'⟩ := rg2 p _ e1
  have n : ∀ u, imm u → H2 p ≠ some u := fun u i z => by rw [hw] at z; cases z; exact i
  have r0 : RV T.K H2 a v := k12.rv rg rv
  refine ⟨p, ws, k, j, rv_ref (k2.rv rg1 r1), rv_int r2, hw, by rw [rw'.len]; exact e2, q _ _ _ _ h2 ((rs.mono (k12.tups rg)).mono (im_upd n)) (rg2.up n ⟨_, upd_same, (rw'.set j r0).mono (im_upd n)⟩) (k12.trans (Kp.wr (by rw [e1]; simp))) rfl⟩
def rGetL (K : PySem.W.Frag) : V → V → Hp → VK → Prop := fun x y H Q => ∃ p xs i v, x = .ref p ∧ y = .int i ∧ SqL K H p xs ∧ 0 ≤ i ∧ xs[i.toNat]? = some v ∧ Q v H
theorem get_list : PGet X (rGetL X.K) := by
  intro pins s σ H x y v u Q I rx ry h
  obtain ⟨p, xs, i, z, rfl, rfl, hq, h0, he, q⟩ := h
  cases rx
  obtain ⟨t, rfl⟩ := ry
  obtain ⟨its, r, pl, hz⟩ := I.list hq
  obtain ⟨w, ew, rw'⟩ := r.get he
  have hn := L2.line63
  have hl : i.toNat < xs.length := (List.getElem?_eq_some_iff.mp he).1
  exact wpAny_getItem_list pl.isList h0 (by omega) (by simpa using ew) ⟨z, H, I, rw', q⟩
/-- xs[i] += e, ints -/
def sAug (to ti te : EA) : SA := fun D ς G => to ς G (fun x G1 => ti ς G1 (fun y G2 => ∃ p xs k m, x = .ref p ∧ y = .int k ∧ G2 p = some (.lst xs) ∧ 0 ≤ k ∧ xs[k.toNat]? = some (.int m) ∧ te ς G2 (fun z G3 => ∃ n ys, z = .int n ∧ G3 p = some (.lst ys) ∧ k.toNat < ys.length ∧
  D.nx ς (up G3 p (.lst (ys.set k.toNat (.int (m + n)))))) (fun e => D.ex e ς)) (fun e => D.ex e ς)) (fun e => D.ex e ς)
theorem s_aug (hT : T.K = X.K) (ho : PE X o (lE T W to)) (hi : PE X i (lE T W ti)) (he : PE X e (lE T W te)) (ha : ∀ ov iv new, augStore i ov iv new = (do holding [new, ov, iv] (setItem ov iv new); release [new, ov, iv] []; pure .next)) :
    PS X (.AugAssign (.Subscript o i tpos) .Add e pos) (lS T W (sAug to ti te)) := by
  refine PS.imp (ps_augS ho hi get_list he ip_add set_list ha) fun D σ H ⟨ς, G, Da, rs, rg, h, q⟩ => ⟨ς, G, _, fun e => Da.ex e ς, rs, rg, h, fun x G1 v1 H1 h1 r1 rg1 k1 => ?_, q.lx rg rs⟩
  refine ⟨ς, G1, _, fun e => Da.ex e ς, rs.mono (k1.tups rg), rg1, h1, fun y G2 v2 H2 h2 r2 rg2 k2 => ?_, (q.lx rg rs).step k1⟩
  obtain ⟨p, xs, k, m, rfl, rfl, e1, h0, e2, h2⟩ := h2
  have k12 := k1.trans k2
  obtain ⟨ws, hw, rw'⟩ := rg2 p _ e1
  obtain ⟨w, e3, r3⟩ := rw'.get e2
  obtain rfl := rv_int r3
  obtain rfl := rv_ref (k2.rv rg1 r1)
  obtain rfl := rv_int r2
  refine ⟨p, ws, k, .int m, rfl, rfl, hT ▸ .of hw, h0, e3, ς, G2, _, fun e => Da.ex e ς, rs.mono (k12.tups rg), rg2, h2, fun z G3 v3 H3 h3 r4 rg3 k3 => ?_, (q.lx rg rs).step k12⟩
  obtain ⟨n, ys, rfl, e4, hl, h3⟩ := h3
  obtain rfl := rv_int r4
  have k13 := k12.trans k3
  obtain ⟨us, hu, ru⟩ := rg3 p _ e4
  have nn : ∀ u, imm u → H3 p ≠ some u := fun u i z => by rw [hu] at z; cases z; exact i
  have hix : ixN us.length k = some k.toNat := by
    unfold ixN
    rw [if_pos h0, if_pos (by rw [ru.len]; omega)]
  refine ⟨m, n, rfl, rfl, p, us, k, k.toNat, rfl, rfl, hu, hix, q.nx _ _ _ _ h3 ((rs.mono (k13.tups rg)).mono (im_upd nn)) (rg3.up nn ⟨_, upd_same, (ru.set k.toNat (rv_i _)).mono (im_upd nn)⟩) (k13.trans (Kp.wr (by rw [e4]; simp)))⟩
/-! targets that are tuples of names -/
def gTs : List Nat → List A → En → En
  | [], _, ς => ς
  | i :: is, x :: xs, ς => gTs is xs (ς.set i (some x))
  | _, [], ς => ς
structure PGn (X : Cx) (T : Tx) (vs : List Nat) (es : List Expr) (is : List Nat) : Prop where
  run : PGs X es fun ws σ H Q => ∃ (as : List A) (ς : En) (G : Gp) (Qa : En → Gp → Prop), RVs T.K H as ws ∧ RS T.K H ς σ ∧ RG T H G ∧ as.length = is.length ∧ Qa (gTs is as ς) G ∧ ∀ ς' G' σ' H', Qa ς' G' → RS T.K H' ς' σ' → RG T H' G' → Kp G H G' H' → wipe σ' vs = wipe σ vs → Q σ' H'
theorem PGs.imp {X : Cx} {e : List Expr} {t t' : TGs} (p : PGs X e t) (h : ∀ v σ H Q, t' v σ H Q → t v σ H Q) : PGs X e t' := ⟨fun pins s σ H v u Q I r q => p.run pins s σ H v u Q I r (h v σ H Q q)⟩
theorem gn_nil {vs : List Nat} : PGn X T vs [] [] := ⟨PGs.imp pgs_nil fun ws σ H Q ⟨as, ς, G, Qa, rv, rs, rg, hl, h, q⟩ => by
  obtain rfl : as = [] := List.eq_nil_of_length_eq_zero hl
  exact ⟨rvs0 rv, q _ _ _ _ h rs rg Kp.refl rfl⟩⟩
theorem gn_cons {vs is : List Nat} {j : Nat} {x : Str} {es : List Expr} (hN : X.N.Nodup) (hi : X.N[j]? = some x) (hx : Loc X.env.scope x) (hf : X.fn x = true ∨ X.env.scope.names.lookup x = some .local) (hv : j ∈ vs) (h : PGn X T vs es is)
    (hs : (assignEach (.Name x pos :: es) X.env).map (·.2) = assign (.Name x pos) X.env :: (assignEach es X.env).map (·.2)) : PGn X T vs (.Name x pos :: es) (j :: is) := ⟨by
  refine PGs.imp (pgs_cons (pg_name hN hi hx hf) h.run hs) fun ws σ H Q ⟨as, ς, G, Qa, rv, rs, rg, hl, hh, q⟩ => ?_
  cases as with
  | nil => simp at hl
  | cons a as =>
    simp only [RVs] at rv
    obtain ⟨w, ws', rfl, r1, r2⟩ := rv
    refine ⟨w, ws', rfl, as, ς.set j (some a), G, Qa, r2, rs.set j r1, rg, by simpa using hl, hh, fun ς' G' σ' H' a b c d e => q ς' G' σ' H' a b c d (e.trans (wipe_mem hv))⟩⟩
def gTup (is : List Nat) : GA := fun a ς G Q => match a with
  | .tup xs => xs.length = is.length ∧ Q (gTs is xs ς) G
  | _ => False
theorem g_tup {vs is : List Nat} {es : List Expr} {k : Nat} (hT : T.K = X.K) (hc : X.calm = true) (h : PGn X T vs es is) (hn : (assignEach es X.env).length = is.length) (hst : (assignEach es X.env).findIdx? (·.1) = none) : PG X (.Tuple es k pos) (lG T vs (gTup is)) := by
  refine PG.imp (pg_tup hc h.run hn hst) fun v σ H Q ⟨a, ς, G, Qa, rv, rs, rg, hh, q⟩ => ?_
  cases a with
  | tup xs =>
    obtain ⟨p, ws, rfl, sq, rvs⟩ := rv_tup rv
    exact ⟨p, ws, rfl, hT ▸ sq, by rw [rvs.len]; exact hh.1, xs, ς, G, Qa, rvs, rs, rg, hh.1, hh.2, q⟩
  | _ => exact False.elim hh
end
end Q
/-! Q13: facts of syntax that the rules ask. -/
namespace Q
open PySem PySem.Spec PyProof.Rows L2
def isStar : Expr → Bool
  | .Starred _ _ => true
  | _ => false
theorem star_cons {e : Expr} {es : List Expr} {env : Env} (h : isStar e = false) : starEach (e :: es) env = (false, eval e env) :: starEach es env := by
  cases e <;> first | rfl | (simp [isStar] at h)
theorem star_plain {env : Env} : ∀ {es : List Expr}, es.all (fun e => !isStar e) = true → (starEach es env).any (·.1) = false
  | [], _ => rfl
  | e :: es, h => by
    simp only [List.all_cons, Bool.and_eq_true, Bool.not_eq_true'] at h
    rw [star_cons h.1]
    simp [star_plain h.2]
theorem backTo_fst {pos : Pos} : ∀ l : List (Bool × Sem Value), (backTo pos l).map (·.1) = l.map (·.1)
  | [] => rfl
  | x :: xs => by
    have := backTo_fst (pos := pos) xs
    simp_all [backTo]
theorem back_plain {pos : Pos} {env : Env} {es : List Expr} (h : es.all (fun e => !isStar e) = true) : (backTo pos (starEach es env)).any (·.1) = false := by
  have e : ∀ l : List (Bool × Sem Value), l.any (·.1) = (l.map (·.1)).any id := by intro l; induction l <;> simp_all
  rw [e, backTo_fst, ← e]
  exact star_plain h
theorem few_ok {pos : Pos} {env : Env} {e : Expr} {es : List Expr} (h : (e :: es).all (fun e => !isStar e) = true) (hl : es.length < 20) :
    ((backTo pos (starEach (e :: es) env)).all (fun x => !x.1) && (backToKw pos (keywordEach [] env)).all (fun x => x.1.isSome) && decide ((e :: es).length + ([] : List Keyword).length + (if ([] : List Keyword).isEmpty then 0 else 1) < 30)) = true := by
  have h1 := back_plain (pos := pos) (env := env) h
  have h2 : (backTo pos (starEach (e :: es) env)).all (fun x => !x.1) = true := by
    rw [List.all_eq_true]
    intro x hx
    have := List.any_eq_false.mp h1 x hx
    simpa using this
  rw [h2]
  simp [backToKw, keywordEach]
  omega
def baseOk : Expr → Bool
  | .Call (.Name _ _) [] [] _ => false
  | _ => true
theorem base_ok {o : Expr} {m : Str} {env : Env} (h : baseOk o = true) : attributeBase o m env (eval o env) = eval o env := by
  unfold attributeBase
  split
  · simp [baseOk] at h
  · rfl
def isSet : Expr → Bool
  | .Set _ _ _ => true
  | _ => false
theorem folded_ok {e : Expr} {env : Env} (h : isSet e = false) (x : Value) : foldedSetIterable e env x = pure x := by
  cases e <;> first | rfl | (simp [isSet] at h)
theorem behind_ok {e : Expr} {op : CmpOp} (h : isSet e = false) : behindInMarks op e = false := by
  cases e <;> first | rfl | (simp [isSet] at h)
theorem last_ok {b c : Expr} {op op' : CmpOp} (h : isSet c = false) : lastMarks [op, op'] [b, c] = false := by
  show lastMarks [op'] [c] = false
  exact behind_ok h
def isSlice : Expr → Bool
  | .Slice _ _ _ _ => true
  | _ => false
theorem plainIx_ok {b : Expr} (h : isSlice b = false) : PlainIx b := fun o i => by
  cases b <;> first | rfl | (simp [isSlice] at h)
def plainTest : Expr → Bool
  | .UnaryOp .Not _ _ => false
  | .BoolOp _ _ _ => false
  | .IfExp _ _ _ _ => false
  | .Compare _ _ _ _ => false
  | _ => true
theorem test_ok {e : Expr} {env : Env} (h : plainTest e = true) (whole : Sem Value) : isTrue e env whole = (do let v ← whole; standAt e.pos; holding [v] (truthy v)) := by
  cases e with
  | UnaryOp op a p => cases op <;> first | rfl | (simp [plainTest] at h)
  | BoolOp _ _ _ => simp [plainTest] at h
  | IfExp _ _ _ _ => simp [plainTest] at h
  | Compare _ _ _ _ => simp [plainTest] at h
  | _ => rfl
def isComp : Expr → Bool
  | .ListComp _ _ _ _ => true
  | .SetComp _ _ _ _ => true
  | .DictComp _ _ _ _ _ => true
  | _ => false
theorem swap_ok {e : Expr} {t : Option Expr} {l : Nat} {env : Env} (h : isComp e = false) : swapsWith e t l env = pure false := by
  cases e <;> first | rfl | (simp [isComp] at h)
theorem swapSole_ok {e t : Expr} {l : Nat} {env : Env} (h : isComp e = false) : swapsWithSole [t] e l env = pure false := swap_ok h
theorem swap_cell {elt : Expr} {gs : List Comprehension} {scope : Scope} {pos py : Pos} {y : Str} {l : Nat} {env : Env} (h : env.kindOf y = some .cell) : swapsWith (.ListComp elt gs scope pos) (some (.Name y py)) l env = pure false := by
  have e : (NameKind.cell == NameKind.local) = false := by decide
  unfold swapsWith
  simp [h, e]
/-- the right side of an assignment to several names -/
def notTup : Expr → Bool
  | .Tuple _ _ _ => false
  | _ => true
theorem stores_ok {ts e : Expr} {env : Env} (h : notTup e = true) : swappedStores [ts] e env = pure none := by
  cases e with
  | Tuple _ _ _ => simp [notTup] at h
  | _ => cases ts <;> rfl
def notTL : Expr → Bool
  | .Tuple _ _ _ => false
  | .List _ _ => false
  | _ => true
theorem stores_one {t e : Expr} {env : Env} (h : notTL t = true) : swappedStores [t] e env = pure none := by
  cases t <;> first | rfl | (simp [notTL] at h)
theorem assign1 {tg : Expr} {env : Env} (h : isStar tg = false) : (assignEach [tg] env).map (·.2) = [assign tg env] := by
  cases tg <;> first | rfl | (simp [isStar] at h)
theorem augStore_ok {i : Expr} (h : isSlice i = false) (ov iv new : Value) : augStore i ov iv new = (do holding [new, ov, iv] (setItem ov iv new); release [new, ov, iv] []; pure .next) := by
  cases i <;> first | rfl | (simp [isSlice] at h)
theorem subStore_ok {o i : Expr} {env : Env} {tpos : Pos} (h : isSlice i = false) (v : Value) : assign (.Subscript o i tpos) env v = (do
      let ov ← holding [v] (eval o env)
      let iv ← holding [v, ov] (eval i env)
      standAt tpos
      holding [v, ov, iv] (setItem ov iv v)
      release [v, ov, iv] []) := by
  cases i <;> first | rfl | (simp [isSlice] at h)
theorem blockKind_fn {env : Env} (h : env.scope.kind = .function) : env.blockKind = .function := by unfold Env.blockKind; rw [h]; rfl
def swNames (sc : Scope) (ts : List Expr) : List Str := ts.filterMap fun
  | .Name id pos => if sc.names.lookup id == some .local && pos.line == (ts.head?.map (·.pos.line)).getD 0 then some id else none
  | _ => none
/-- what a written tuple to several names stores: none, or the names; not told otherwise -/
def swOf (sc : Scope) (ts vs : List Expr) : Option (Option (List Str)) :=
  if (!(ts.length == 2 || ts.length == 3) || vs.length != ts.length) = true then some none
  else if (vs.any fun | .Starred .. => true | _ => false) = true then some none
  else if ((swNames sc ts).length != ts.length || (swNames sc ts).eraseDups.length != (swNames sc ts).length) = true then some none
  else if vs.all (foldedForSure 8) = true then some none
  else if vs.all (constantsAlone 8) = true then none
  else some (some (swNames sc ts))
theorem sw_of {ts vs : List Expr} {k k2 : Nat} {p p2 : Pos} {env : Env} {r : Option (List Str)} (hk : env.scope.kind = .function) (h : swOf env.scope ts vs = some r) : swappedStores [.Tuple ts k p] (.Tuple vs k2 p2) env = pure r := by
  unfold swOf at h
  show (if (!(ts.length == 2 || ts.length == 3) || vs.length != ts.length || env.blockKind != .function) = true then pure none else
    if (vs.any fun | .Starred .. => true | _ => false) = true then pure none else
      if ((swNames env.scope ts).length != ts.length || (swNames env.scope ts).eraseDups.length != (swNames env.scope ts).length) = true then pure none else
        if vs.all (foldedForSure 8) = true then pure none else if vs.all (constantsAlone 8) = true then (do unsupported "assign.tuple-of-constant-expressions:order-of-the-stores"; pure (some (swNames env.scope ts))) else pure (some (swNames env.scope ts))) = pure r
  rw [blockKind_fn hk]
  have e : ((ScopeKind.function : ScopeKind) != .function) = false := by decide
  rw [e, Bool.or_false]
  split at h
  · rename_i c; rw [if_pos c]; cases h; rfl
  · rename_i c; rw [if_neg c]
    split at h
    · rename_i c; rw [if_pos c]; cases h; rfl
    · rename_i c; rw [if_neg c]
      split at h
      · rename_i c; rw [if_pos c]; cases h; rfl
      · rename_i c; rw [if_neg c]
        split at h
        · rename_i c; rw [if_pos c]; cases h; rfl
        · rename_i c; rw [if_neg c]
          split at h
          · cases h
          · rename_i c; rw [if_neg c]; cases h; rfl
end Q
/-! Q14: from the text's syntax to combinators. -/
namespace Q
open PySem PySem.Spec PyProof.Rows L2
/-- what a text's globals are: defs by name, constants -/
structure Pg where
  fn : List (Str × String)
  kc : List (Str × Int)
def visB (sc : Scope) (x : Str) : Bool := match sc.names.lookup x with
  | some .local => true
  | some .cell => true
  | some .free => true
  | _ => false
def locB (sc : Scope) (x : Str) : Bool := match sc.names.lookup x with
  | some .local => true
  | some .cell => true
  | _ => false
def glB (sc : Scope) (x : Str) : Bool := match sc.names.lookup x with
  | some .globalImplicit => true
  | _ => false
def nmOk (x : Str) : Bool := !(x == ("__debug__" : Str)) && !(x == ("__classdict__" : Str)) && !(x == ("__name__" : Str))
def ixOf (N : List Str) (x : Str) : Option Nat := N.findIdx? fun y => decide (y = x)
theorem ixOf_get {N : List Str} {x : Str} {i : Nat} (h : ixOf N x = some i) : N[i]? = some x := by
  unfold ixOf at h
  obtain ⟨h1, h2, _⟩ := List.findIdx?_eq_some_iff_getElem.mp h
  rw [List.getElem?_eq_getElem h1]
  simpa using h2
def opT : Operator → Option P2
  | .Add => some addA
  | .Sub => some subA
  | .Mult => some mulA
  | .FloorDiv => some fdivA
  | .Mod => some modA
  | .Pow => some powA
  | _ => none
def cmT : CmpOp → Option P2
  | .Eq => some (eqA false)
  | .NotEq => some (eqA true)
  | .Lt => some ltA
  | .LtE => some leA
  | .Gt => some gtA
  | .GtE => some geA
  | .In => some (inA false)
  | .NotIn => some (inA true)
  | _ => none
/-- built-in functions and types that are called: is it a type, its id, what it does -/
def biT (x : Str) : Option (Bool × String × PN) :=
  if x = ("len" : Str) then some (false, "len", lenA)
  else if x = ("repr" : Str) then some (false, "repr", reprA)
  else if x = ("abs" : Str) then some (false, "abs", absA)
  else if x = ("all" : Str) then some (false, "all", allA (·.all id))
  else if x = ("any" : Str) then some (false, "any", allA (·.any id))
  else if x = ("int" : Str) then some (true, "int", intOfA)
  else if x = ("list" : Str) then some (true, "list", listA)
  else if x = ("tuple" : Str) then some (true, "tuple", tupleA)
  else none
def tyT (x : Str) : Option String :=
  if x = ("int" : Str) then some "int"
  else if x = ("bool" : Str) then some "bool"
  else if x = ("str" : Str) then some "str"
  else if x = ("tuple" : Str) then some "tuple"
  else if x = ("list" : Str) then some "list"
  else if x = ("dict" : Str) then some "dict"
  else none
/-- methods of built-in types, with arguments, without -/
def mtT (x : Str) : Option (String × String × (A → PN)) :=
  if x = ("append" : Str) then some ("list", "list.append", appendA)
  else if x = ("insert" : Str) then some ("list", "list.insert", insertA)
  else if x = ("extend" : Str) then some ("list", "list.extend", extendA)
  else if x = ("split" : Str) then some ("str", "str.split", splitA)
  else if x = ("join" : Str) then some ("str", "str.join", joinA)
  else none
def mtT0 (x : Str) : Option (String × String × (A → PN)) :=
  if x = ("reverse" : Str) then some ("list", "list.reverse", reverseA)
  else if x = ("clear" : Str) then some ("list", "list.clear", clearA)
  else if x = ("isascii" : Str) then some ("str", "str.isascii", strB Txt.isascii)
  else if x = ("isalpha" : Str) then some ("str", "str.isalpha", strB Txt.isalpha)
  else if x = ("islower" : Str) then some ("str", "str.islower", strB Txt.islower)
  else if x = ("upper" : Str) then some ("str", "str.upper", upperA)
  else none
/-- the names that stand for built-ins -/
def bltNames : List Str := ["len", "repr", "abs", "all", "any", "int", "list", "tuple", "bool", "str", "dict", "isinstance", "range"]
def ownOf (N : List Str) (scope : Scope) : List (Str × Nat) := scope.names.filterMap fun y => match y.2 with
  | .local => (ixOf N y.1).map fun i => (y.1, i)
  | .cell => (ixOf N y.1).map fun i => (y.1, i)
  | _ => none
section
variable (N : List Str) (own : Pg) (c : Cal)
def isBlt (sc : Scope) (x : Str) : Bool := glB sc x && (own.fn.lookup x).isNone && bltNames.contains x && nmOk x
def isOwn (sc : Scope) (x : Str) : Option String := if glB sc x && nmOk x then own.fn.lookup x else none
def cNms (sc : Scope) (vs : List Nat) : List Expr → Option (List Nat)
  | [] => some []
  | .Name x _ :: es => if locB sc x then (match ixOf N x, cNms sc vs es with
    | some i, some is => if vs.contains i then some (i :: is) else none
    | _, _ => none) else none
  | _ => none
def cG (sc : Scope) (vs : List Nat) : Expr → Option GA
  | .Name x _ => if locB sc x then (match ixOf N x with
    | some i => if vs.contains i then some (gNm i) else none
    | none => none) else none
  | .Tuple es _ _ => (cNms N sc vs es).map gTup
  | _ => none
mutual
def cE : Nat → Scope → Expr → Option EA
  | 0, _, _ => none
  | n + 1, sc, e => match e with
    | .Name x _ => if visB sc x && nmOk x then (ixOf N x).map eVar else if glB sc x && nmOk x then (own.kc.lookup x).map (fun i => eC (.int i)) else none
    | .Constant k _ _ => match k with
      | .int i => some (eC (.int i))
      | .bool b => some (eC (.bl b))
      | .none => some (eC .non)
      | .str x => some (eC (.str x))
      | _ => none
    | .Tuple es _ _ => (cL n sc es).map eTup
    | .List es _ => (cL n sc es).map eLst
    | .Dict ks vs _ => if ks.isEmpty && vs.isEmpty then some eDct0 else none
    | .BinOp a op b _ => match cE n sc a, opT op, cE n sc b with
      | some ta, some f, some tb => some (eBin f ta tb)
      | _, _, _ => none
    | .UnaryOp op a _ => match op with
      | .USub => (cE n sc a).map eNeg
      | .Not => (cE n sc a).map eNot
      | _ => none
    | .BoolOp op es p => cBo n sc op es
    | .Compare a ops bs _ => match ops, bs with
      | [op], [b] => if isSet b then none else (match cE n sc a, cmT op, cE n sc b with
        | some ta, some f, some tb => some (eBin f ta tb)
        | _, _, _ => none)
      | [op, op'], [b, b'] => if isSet b' then none else (match cE n sc a, cmT op, cE n sc b, cmT op', cE n sc b' with
        | some ta, some f, some tb, some f', some tc => some (eChain f f' ta tb tc)
        | _, _, _, _, _ => none)
      | _, _ => none
    | .IfExp q a b _ => match cB n sc q, cE n sc a, cE n sc b with
      | some t, some ta, some tb => some (eIf t ta tb)
      | _, _, _ => none
    | .Subscript a s _ => match s with
      | .Slice lo hi st _ => match st with
        | none => (match cE n sc a, cO n sc lo, cO n sc hi with
          | some ta, some tl, some th => some (eSl ta tl th)
          | _, _, _ => none)
        | some (.UnaryOp .USub (.Constant (.int 1) _ _) _) => if lo.isNone && hi.isNone then (cE n sc a).map eRev else none
        | _ => none
      | s => (match cE n sc a, cE n sc s with
        | some ta, some ti => some (eBin ixA ta ti)
        | _, _ => none)
    | .Call f es ks pos => match f, ks with
      | .Name x _, [] => if es.all (fun e => !isStar e) then (match isOwn own sc x with
        | some F => (cL n sc es).map (eCall c F)
        | none => if isBlt own sc x then (
          if x = ("isinstance" : Str) then (match es with
            | [e, .Name t _] => if isBlt own sc t then (match cE n sc e, tyT t with
              | some ta, some m => some (eIsi ta [m])
              | _, _ => none) else none
            | [e, .Tuple [.Name t _, .Name t' _] _ _] => if isBlt own sc t && isBlt own sc t' then (match cE n sc e, tyT t, tyT t' with
              | some ta, some m, some m' => some (eIsi ta [m, m'])
              | _, _, _ => none) else none
            | _ => none)
          else if es.isEmpty then none else (match biT x, cL n sc es with
            | some (_, _, f), some t => some (eBi f t)
            | _, _ => none)) else none) else none
      | .Attribute o m apos, [] => if es.all (fun e => !isStar e) && baseOk o && (apos.endLine == pos.line) && decide (es.length < 20) then (
        if es.isEmpty then (match mtT0 m, cE n sc o with
          | some (ty, _, f), some to => some (eM ty f to lNil)
          | _, _ => none)
        else (match mtT m, cE n sc o, cL n sc es with
          | some (ty, _, f), some to, some t => some (eM ty f to t)
          | _, _, _ => none)) else none
      | _, _ => none
    | .ListComp elt gens scope _ => match gens with
      | [⟨tg, iter, ifs, 0⟩] => if blkC N sc scope (ownOf N scope) && !isSet iter then (match cI n sc iter, cG N scope ((ownOf N scope).map (·.2)) tg, cT n (relS scope sc) ifs, cE n (relS scope sc) elt with
        | some it, some g, some tt, some te => some (eLc it g tt te ((ownOf N scope).map (·.2)))
        | _, _, _, _ => none) else none
      | _ => none
    | _ => none
def cL : Nat → Scope → List Expr → Option LA
  | 0, _, _ => none
  | _ + 1, _, [] => some lNil
  | n + 1, sc, e :: es => if isStar e then none else (match cE n sc e, cL n sc es with
    | some t, some u => some (lCons t u)
    | _, _ => none)
def cBo : Nat → Scope → BoolOp → List Expr → Option EA
  | 0, _, _, _ => none
  | _ + 1, _, _, [] => none
  | n + 1, sc, op, e :: es => match es with
    | [] => cE n sc e
    | _ :: _ => match cE n sc e, cBo n sc op es with
      | some ta, some tb => some (match op with
        | .And => eAnd ta tb
        | .Or => eOr ta tb)
      | _, _ => none
def cB : Nat → Scope → Expr → Option BA
  | 0, _, _ => none
  | n + 1, sc, e => match e with
    | .UnaryOp .Not a _ => (cB n sc a).map bNot
    | .BoolOp op es _ => cBb n sc op es
    | .Compare a ops bs p => match ops, bs with
      | [op], [b] => if isSet b then none else (match cE n sc a, cmT op, cE n sc b with
        | some ta, some f, some tb => some (bB (eBin f ta tb))
        | _, _, _ => none)
      | [op, op'], [b, b'] => if isSet b' then none else (match cE n sc a, cmT op, cE n sc b, cmT op', cE n sc b' with
        | some ta, some f, some tb, some f', some tc => some (bB (eChain f f' ta tb tc))
        | _, _, _, _, _ => none)
      | _, _ => none
    | e => if plainTest e then (cE n sc e).map bV else none
def cBb : Nat → Scope → BoolOp → List Expr → Option BA
  | 0, _, _, _ => none
  | _ + 1, _, _, [] => none
  | n + 1, sc, op, e :: es => match es with
    | [] => cB n sc e
    | _ :: _ => match cB n sc e, cBb n sc op es with
      | some ta, some tb => some (match op with
        | .And => bAnd ta tb
        | .Or => bOr ta tb)
      | _, _ => none
def cO : Nat → Scope → Option Expr → Option OA
  | 0, _, _ => none
  | _ + 1, _, none => some oNo
  | n + 1, sc, some e => (cE n sc e).map oSome
def cI : Nat → Scope → Expr → Option IA
  | 0, _, _ => none
  | n + 1, sc, e => match e with
    | .Call (.Name x _) [a] [] _ => if x = ("range" : Str) then (if isBlt own sc x && !isStar a then (cE n sc a).map iRng1 else none) else (cE n sc e).map iSeq
    | .Call (.Name x _) [a, b] [] _ => if x = ("range" : Str) then (if isBlt own sc x && !isStar a && !isStar b then (match cE n sc a, cE n sc b with
      | some ta, some tb => some (iRng2 ta tb)
      | _, _ => none) else none) else (cE n sc e).map iSeq
    | e => (cE n sc e).map iSeq
def cT : Nat → Scope → List Expr → Option BA
  | 0, _, _ => none
  | n + 1, sc, ifs => match ifs with
    | [] => some bYes
    | [e] => cB n sc e
    | _ => none
end
/-! statements -/
mutual
def cS : Nat → Scope → Stmt → Option SA
  | 0, _, _ => none
  | n + 1, sc, st => match st with
    | .Pass _ => some sNx
    | .Break _ => some sBrk
    | .Continue _ => some sCnt
    | .Return e _ => match e with
      | none => some sRetN
      | some e => (cE N own c n sc e).map sRet
    | .Expr e _ => match e with
      | .Constant (.str _) _ _ => some sNx
      | e => if isComp e then none else (cE N own c n sc e).map sEx
    | .If q a b _ => match cB N own c n sc q, cSs n sc a, cSs n sc b with
      | some t, some u, some v => some (sIf t u v)
      | _, _, _ => none
    | .For tg iter body orelse _ => if isSet iter || !orelse.isEmpty then none else (match cI N own c n sc iter, cG N sc (List.range N.length) tg, cSs n sc body with
      | some it, some g, some t => some (sFor it g t)
      | _, _, _ => none)
    | .AugAssign tg op e _ => match tg, op with
      | .Subscript o i _, .Add => if isSlice i then none else (match cE N own c n sc o, cE N own c n sc i, cE N own c n sc e with
        | some to, some ti, some te => some (sAug to ti te)
        | _, _, _ => none)
      | _, _ => none
    | .Assign tgs e pos => match tgs with
      | [tg] => cA n sc tg e pos
      | _ => none
    | _ => none
def cA : Nat → Scope → Expr → Expr → Pos → Option SA
  | 0, _, _, _, _ => none
  | n + 1, sc, tg, e, pos => match tg with
    | .Name x px => if locB sc x then (match ixOf N x, cE N own c n sc e with
      | some i, some t => (match e with
        | .ListComp _ gens scope cpos => if sc.names.lookup x == some .cell then some (sSet t (gNm i))
          else if (px.line == cpos.line) && !(scope.names.any fun (n, k) => n == x && (k == .local || k == .cell)) then some (sSet t (gNm i)) else none
        | e => if isComp e then none else some (sSet t (gNm i)))
      | _, _ => none) else none
    | .Subscript o i _ => if isSlice i || isComp e then none else (match cE N own c n sc o, cE N own c n sc i, cE N own c n sc e with
      | some to, some ti, some te => some (sSet te (gSub to ti))
      | _, _, _ => none)
    | .Tuple es _ _ => match e with
      | .Tuple vs _ _ => (match swOf sc es vs with
        | some none => (match cE N own c n sc e, cG N sc (List.range N.length) tg with
          | some t, some g => some (sSet t g)
          | _, _ => none)
        | some (some [x, y]) => (match es, vs with
          | [.Name x' _, .Name y' _], [a, b] => if x = x' && y = y' && !isStar a && !isStar b then (match ixOf N x, ixOf N y, cL N own c n sc vs with
            | some i, some j, some t => if decide (i ≠ j) && sc.names.lookup x == some .local && sc.names.lookup y == some .local then some (sPar i j t) else none
            | _, _, _ => none) else none
          | _, _ => none)
        | _ => none)
      | e => if isComp e then none else (match cE N own c n sc e, cG N sc (List.range N.length) tg with
        | some t, some g => some (sSet t g)
        | _, _ => none)
    | _ => none
def cSs : Nat → Scope → List Stmt → Option SA
  | 0, _, _ => none
  | _ + 1, _, [] => some sNx
  | n + 1, sc, st :: sts => match cS n sc st, cSs n sc sts with
    | some t, some u => some (sSeq t u)
    | _, _ => none
end
end
end Q
/-! Q15: the compile step is right. -/
namespace Q
open PySem PySem.Spec PyProof.Rows L2
structure XO (T : Tx) (FT : FTab) (N : List Str) (own : Pg) (m : Nat) (X : Cx) (sc sto : Scope) : Prop where
  ok : T.Ok X
  nm : X.N = N
  nd : N.Nodup
  scp : X.env.scope = sc
  kind : sc.kind = .function
  calm : X.calm = true
  gd : X.A.guards = some []
  room : Room m X.A
  fnl : ∀ x, locB sto x = true → Loc sc x ∧ (X.fn x = true ∨ sc.names.lookup x = some .local)
  fns : ∀ x F, own.fn.lookup x = some F → ∃ f fd ps, FnG X.prog X.w X.K X.mg X.base (L2.CX X.prog X.w) m f fd ps (spA T FT m F) ∧ X.mg x = some (.ref f) ∧ PySem.W.keepIn X.K (.ref f) = true ∧ Binds X.K fd ps []
  bl : ∀ x, own.fn.lookup x = none → x ∈ bltNames → X.mg x = none
  cs : ∀ x i, own.kc.lookup x = some i → ∃ t, X.mg x = some (.int i t)
section
variable {T : Tx} {FT : FTab} {N : List Str} {own : Pg} {m : Nat} {X : Cx} {sc sto : Scope}
theorem XO.vis (o : XO T FT N own m X sc sto) {x : Str} (h : visB sc x = true) : Vis X.env.scope x := by
  unfold visB at h
  rw [o.scp]
  split at h
  · rename_i e; exact .inl e
  · rename_i e; exact .inr (.inl e)
  · rename_i e; exact .inr (.inr e)
  · cases h
theorem XO.loc (o : XO T FT N own m X sc sto) {x : Str} (h : locB sto x = true) : Loc X.env.scope x := by
  rw [o.scp]; exact (o.fnl x h).1
theorem XO.fn (o : XO T FT N own m X sc sto) {x : Str} (h : locB sto x = true) : X.fn x = true ∨ X.env.scope.names.lookup x = some .local := by
  rw [o.scp]; exact (o.fnl x h).2
theorem XO.gl (o : XO T FT N own m X sc sto) {x : Str} (h : glB sc x = true) : Gl X x := by
  unfold glB at h
  show X.env.scope.names.lookup x = _
  rw [o.scp]
  split at h
  · rename_i e; exact e
  · cases h
theorem nmOk_d {x : Str} (h : nmOk x = true) : (x == ("__debug__" : Str)) = false ∧ (x == ("__classdict__" : Str)) = false ∧ x ≠ "__name__" := by
  unfold nmOk at h
  simp only [Bool.and_eq_true, Bool.not_eq_true'] at h
  exact ⟨h.1.1, h.1.2, by simpa using h.2⟩
theorem isBlt_of {x : Str} (o : XO T FT N own m X sc sto) (h : isBlt own sc x = true) : Gl X x ∧ X.mg x = none ∧ nmOk x = true := by
  unfold isBlt at h
  simp only [Bool.and_eq_true] at h
  obtain ⟨⟨⟨h1, h2⟩, h3⟩, h4⟩ := h
  exact ⟨o.gl h1, o.bl x (by simpa using h2) (by simpa using h3), h4⟩
theorem isOwn_of {x : Str} {F : String} (o : XO T FT N own m X sc sto) (h : isOwn own sc x = some F) : Gl X x ∧ own.fn.lookup x = some F ∧ nmOk x = true := by
  unfold isOwn at h
  split at h
  · rename_i hh
    simp only [Bool.and_eq_true] at hh
    exact ⟨o.gl hh.1, h, hh.2⟩
  · cases h
theorem bi_of {x : Str} {ty : Bool} {id : String} {f : PN} (o : XO T FT N own m X sc sto) (h : biT x = some (ty, id, f)) : (ty = false ∧ CallR X (.builtin id) (lN T f) ∧ bootBuiltins x = some (.builtin id)) ∨ (ty = true ∧ CallR X (.type id) (lN T f) ∧ bootBuiltins x = some (.type id)) := by
  have u := o.room.units
  unfold biT at h
  repeat (split at h; · rename_i e; cases h; subst e; first
    | exact .inl ⟨rfl, c_len o.ok.k, PySem.boot_len⟩
    | exact .inl ⟨rfl, c_repr o.ok o.gd u, boot_repr⟩
    | exact .inl ⟨rfl, c_abs, boot_abs⟩
    | exact .inl ⟨rfl, c_all o.ok.k o.calm, boot_all⟩
    | exact .inl ⟨rfl, c_any o.ok.k o.calm, boot_any⟩
    | exact .inr ⟨rfl, c_int, boot_int⟩
    | exact .inr ⟨rfl, c_list o.ok.k, boot_list⟩
    | exact .inr ⟨rfl, c_tuple o.ok.k, boot_tuple⟩)
  cases h
theorem ty_of {x : Str} {t : String} (h : tyT x = some t) : bootBuiltins x = some (.type t) ∧ okTy t = true := by
  unfold tyT at h
  repeat (split at h; · rename_i e; cases h; subst e; exact ⟨by decide +kernel, by decide +kernel⟩)
  cases h
theorem op_of {op : Operator} {f : P2} (hT : T.K = X.K) (h : opT op = some f) : OpR X (binaryOp op) (l2 T f) := by
  cases op <;> simp only [opT, reduceCtorEq, Option.some.injEq] at h
  all_goals first | (subst h; first | exact o_add hT | exact o_sub | exact o_mul | exact o_fdiv | exact o_mod | exact o_pow)
theorem cm_of {op : CmpOp} {f : P2} (o : XO T FT N own m X sc sto) (h : cmT op = some f) : OpR X (compareOp op) (l2 T f) := by
  have u := o.room.units
  have u2 : X.A.units + 65 < cLine := by have := o.room.un; omega
  cases op <;> simp only [cmT, reduceCtorEq, Option.some.injEq] at h
  all_goals first | (subst h; first | exact o_eq o.ok u | exact o_ne o.ok u | exact o_lt | exact o_le | exact o_gt | exact o_ge | exact o_in o.ok u2 | exact o_notin o.ok u2)
theorem mt_of {x : Str} {ty id : String} {f : A → PN} (o : XO T FT N own m X sc sto) (h : mtT x = some (ty, id, f)) : PlainAttrs ty ∧ Slot ty x id ∧ typeOf (.builtin id) = pure (.type "method_descriptor") ∧ MtR X id (lM T f) := by
  unfold mtT at h
  repeat (split at h; · rename_i e; cases h; subst e; first
    | exact ⟨PySem.F.plainAttrs_list, PySem.F.slot_list_append, PySem.F.type_list_append, m_append⟩
    | exact ⟨PySem.F.plainAttrs_list, PySem.F.slot_list_insert, PySem.F.type_list_insert, m_insert⟩
    | exact ⟨PySem.F.plainAttrs_list, PySem.F.slot_list_extend, PySem.F.type_list_extend, m_extend⟩
    | exact ⟨PySem.F.plainAttrs_str, PySem.F.slot_str_split, PySem.F.type_str_split, m_split⟩
    | exact ⟨PySem.F.plainAttrs_str, PySem.F.slot_str_join, PySem.F.type_str_join, m_join o.ok.k⟩)
  cases h
theorem mt0_of {x : Str} {ty id : String} {f : A → PN} (o : XO T FT N own m X sc sto) (h : mtT0 x = some (ty, id, f)) : PlainAttrs ty ∧ Slot ty x id ∧ typeOf (.builtin id) = pure (.type "method_descriptor") ∧ MtR X id (lM T f) := by
  unfold mtT0 at h
  repeat (split at h; · rename_i e; cases h; subst e; first
    | exact ⟨PySem.F.plainAttrs_list, PySem.F.slot_list_reverse, PySem.F.type_list_reverse, m_reverse⟩
    | exact ⟨PySem.F.plainAttrs_list, PySem.F.slot_list_clear, PySem.F.type_list_clear, m_clear⟩
    | exact ⟨PySem.F.plainAttrs_str, PySem.F.slot_str_isascii, PySem.F.type_str_isascii, m_strB mt_isascii⟩
    | exact ⟨PySem.F.plainAttrs_str, PySem.F.slot_str_isalpha, PySem.F.type_str_isalpha, m_strB mt_isalpha⟩
    | exact ⟨PySem.F.plainAttrs_str, PySem.F.slot_str_islower, PySem.F.type_str_islower, m_strB mt_islower⟩
    | exact ⟨PySem.F.plainAttrs_str, PySem.F.slot_str_upper, PySem.F.type_str_upper, m_upper⟩)
  cases h
/-- a comprehension's block -/
theorem XO.blk (o : XO T FT N own m X sc sto) {scope : Scope} (hb : blkC N sc scope (ownOf N scope) = true) (s : Shared) (H : Hp) (C : Addr) (cl : List (Str × Addr)) (fp : List Addr) :
    XO T FT N own m (X.blk s H scope (compEnvC scope cl C X.env) fp) (relS scope sc) scope where
  ok := ⟨o.ok.k⟩
  nm := o.nm
  nd := o.nd
  scp := by show relabel scope X.env = relS scope sc; rw [← o.scp]; rfl
  kind := (blkOk_by hb).kind
  calm := o.calm
  gd := o.gd
  room := o.room
  fnl := fun x hx => by
    unfold locB at hx
    split at hx
    · rename_i e
      have z := lookup_relS_keep (sc := sc) (k := .local) (by decide) e
      exact ⟨.inl z, .inr z⟩
    · rename_i e
      have z := lookup_relS_keep (sc := sc) (k := .cell) (by decide) e
      refine ⟨.inr z, .inl ?_⟩
      show (scope.names.lookup x == some .cell) = true
      rw [e]; decide
    · cases hx
  fns := o.fns
  bl := o.bl
  cs := o.cs
end
end Q
/-! Q16: the compile step is right: expressions. -/
namespace Q
open PySem PySem.Spec PyProof.Rows L2
structure SN (T : Tx) (FT : FTab) (N : List Str) (own : Pg) (m n : Nat) : Prop where
  e : ∀ {X sc sto W}, XO T FT N own m X sc sto → Takes X W → ∀ {e t}, cE N own (runF FT m) n sc e = some t → PE X e (lE T W t)
  l : ∀ {X sc sto W}, XO T FT N own m X sc sto → Takes X W → ∀ {es t}, cL N own (runF FT m) n sc es = some t → PA X es (lL T W t)
  bo : ∀ {X sc sto W}, XO T FT N own m X sc sto → Takes X W → ∀ {op es t pos}, cBo N own (runF FT m) n sc op es = some t → PE X (.BoolOp op es pos) (lE T W t)
  b : ∀ {X sc sto W}, XO T FT N own m X sc sto → Takes X W → ∀ {e t}, cB N own (runF FT m) n sc e = some t → PT X e (lB T W t)
  bb : ∀ {X sc sto W}, XO T FT N own m X sc sto → Takes X W → ∀ {op es t pos}, cBb N own (runF FT m) n sc op es = some t → PW X (.BoolOp op es pos) (lB T W t)
  o : ∀ {X sc sto W}, XO T FT N own m X sc sto → Takes X W → ∀ {e t}, cO N own (runF FT m) n sc e = some t → PO X e (lO T W t)
  i : ∀ {X sc sto W}, XO T FT N own m X sc sto → Takes X W → ∀ {tg e t}, cI N own (runF FT m) n sc e = some t → isSet e = false → PI X tg e (lI T W t)
  t : ∀ {X sc sto W}, XO T FT N own m X sc sto → Takes X W → ∀ {es t}, cT N own (runF FT m) n sc es = some t → PTs X es (lB T W t)
section
variable {T : Tx} {FT : FTab} {N : List Str} {own : Pg} {m n : Nat} {X : Cx} {sc sto : Scope} {W : L2.WX}
theorem cNms_of (o : XO T FT N own m X sc sto) {vs : List Nat} : ∀ {es : List Expr} {is : List Nat}, cNms N sto vs es = some is → PGn X T vs es is ∧ (assignEach es X.env).length = is.length ∧ (assignEach es X.env).findIdx? (·.1) = none
  | [], is, h => by simp only [cNms, Option.some.injEq] at h; subst h; exact ⟨gn_nil, rfl, rfl⟩
  | e :: es, is, h => by
    cases e with
    | Name x pos =>
      simp only [cNms] at h
      split at h
      · rename_i hl
        split at h
        · rename_i i js h1 h2
          split at h
          · rename_i hc
            cases h
            obtain ⟨a, b, c⟩ := cNms_of o h2
            refine ⟨gn_cons (by rw [o.nm]; exact o.nd) (by rw [o.nm]; exact ixOf_get h1) (o.loc hl) (o.fn hl) (by simpa using hc) a rfl, ?_, ?_⟩
            · show (assignEach es X.env).length + 1 = _
              rw [b]; rfl
            · show List.findIdx? (·.1) ((false, assign (.Name x pos) X.env) :: assignEach es X.env) = none
              rw [List.findIdx?_cons]
              simp [c]
          · cases h
        · cases h
      · cases h
    | _ => simp [cNms] at h
theorem cG_of (o : XO T FT N own m X sc sto) {vs : List Nat} {tg : Expr} {g : GA} (h : cG N sto vs tg = some g) : PG X tg (lG T vs g) := by
  cases tg with
  | Name x pos =>
    simp only [cG] at h
    split at h
    · rename_i hl
      split at h
      · rename_i i h1
        split at h
        · rename_i hc
          cases h
          exact g_nm (by rw [o.nm]; exact o.nd) (by rw [o.nm]; exact ixOf_get h1) (o.loc hl) (o.fn hl) (by simpa using hc)
        · cases h
      · cases h
    · cases h
  | Tuple es k pos =>
    simp only [cG, Option.map_eq_some_iff] at h
    obtain ⟨is, h1, rfl⟩ := h
    obtain ⟨a, b, c⟩ := cNms_of o h1
    exact g_tup o.ok.k o.calm a b c
  | _ => simp [cG] at h
theorem snL (ih : SN T FT N own m n) (o : XO T FT N own m X sc sto) (tk : Takes X W) {es : List Expr} {t : LA} (h : cL N own (runF FT m) (n + 1) sc es = some t) : PA X es (lL T W t) := by
  cases es with
  | nil => simp only [cL, Option.some.injEq] at h; subst h; exact l_nil
  | cons e es =>
    simp only [cL] at h
    split at h
    · cases h
    · rename_i hs
      split at h
      · rename_i t u h1 h2
        cases h
        exact l_cons (ih.e o tk h1) (ih.l o tk h2) (star_cons (by simpa using hs))
      · cases h
theorem snBo (ih : SN T FT N own m n) (o : XO T FT N own m X sc sto) (tk : Takes X W) {op : BoolOp} {es : List Expr} {t : EA} {pos : Pos} (h : cBo N own (runF FT m) (n + 1) sc op es = some t) : PE X (.BoolOp op es pos) (lE T W t) := by
  cases es with
  | nil => simp [cBo] at h
  | cons e es =>
    cases es with
    | nil => simp only [cBo] at h; exact p_one (ih.e o tk h)
    | cons e' es =>
      simp only [cBo] at h
      split at h
      · rename_i ta tb h1 h2
        cases h
        cases op
        · exact p_and o.ok.k (ih.e o tk h1) (ih.bo o tk h2)
        · exact p_or o.ok.k (ih.e o tk h1) (ih.bo o tk h2)
      · cases h
theorem snBb (ih : SN T FT N own m n) (o : XO T FT N own m X sc sto) (tk : Takes X W) {op : BoolOp} {es : List Expr} {t : BA} {pos : Pos} (h : cBb N own (runF FT m) (n + 1) sc op es = some t) : PW X (.BoolOp op es pos) (lB T W t) := by
  cases es with
  | nil => simp [cBb] at h
  | cons e es =>
    cases es with
    | nil =>
      simp only [cBb] at h
      cases op
      · exact q_and1 (ih.b o tk h)
      · exact q_or1 (ih.b o tk h)
    | cons e' es =>
      simp only [cBb] at h
      split at h
      · rename_i ta tb h1 h2
        cases h
        cases op
        · exact q_and (ih.b o tk h1) (ih.bb o tk h2)
        · exact q_or (ih.b o tk h1) (ih.bb o tk h2)
      · cases h
theorem snB (ih : SN T FT N own m n) (o : XO T FT N own m X sc sto) (tk : Takes X W) {e : Expr} {t : BA} (h : cB N own (runF FT m) (n + 1) sc e = some t) : PT X e (lB T W t) := by
  have plain : (if plainTest e = true then (cE N own (runF FT m) n sc e).map bV else none) = some t → PT X e (lB T W t) := fun h => by
    split at h
    · rename_i hp
      simp only [Option.map_eq_some_iff] at h
      obtain ⟨ta, h1, rfl⟩ := h
      exact q_val o.ok.k (ih.e o tk h1) (test_ok hp)
    · cases h
  cases e with
  | UnaryOp op a p =>
    cases op with
    | Not =>
      simp only [cB, Option.map_eq_some_iff] at h
      obtain ⟨ta, h1, rfl⟩ := h
      exact q_not (ih.b o tk h1)
    | _ => simp only [cB] at h; exact plain h
  | BoolOp op es p => simp only [cB] at h; exact (ih.bb o tk h).pt
  | Compare a ops bs p =>
    simp only [cB] at h
    split at h
    · rename_i op b
      split at h
      · cases h
      · rename_i hs
        split at h
        · rename_i ta f tb h1 h2 h3
          cases h
          exact q_cmp (cm_of o h2) (ih.e o tk h1) (ih.e o tk h3) (behind_ok (by simpa using hs))
        · cases h
    · rename_i op op' b b'
      split at h
      · cases h
      · rename_i hs
        split at h
        · rename_i ta f tb f' tc h1 h2 h3 h4 h5
          cases h
          exact q_chain (cm_of o h2) (cm_of o h4) (ih.e o tk h1) (ih.e o tk h3) (ih.e o tk h5) (last_ok (by simpa using hs))
        · cases h
    · cases h
  | _ => simp only [cB] at h; exact plain h
theorem snO (ih : SN T FT N own m n) (o : XO T FT N own m X sc sto) (tk : Takes X W) {e : Option Expr} {t : OA} (h : cO N own (runF FT m) (n + 1) sc e = some t) : PO X e (lO T W t) := by
  cases e with
  | none => simp only [cO, Option.some.injEq] at h; subst h; exact o_no
  | some e =>
    simp only [cO, Option.map_eq_some_iff] at h
    obtain ⟨ta, h1, rfl⟩ := h
    exact o_some (ih.e o tk h1)
theorem snT (ih : SN T FT N own m n) (o : XO T FT N own m X sc sto) (tk : Takes X W) {es : List Expr} {t : BA} (h : cT N own (runF FT m) (n + 1) sc es = some t) : PTs X es (lB T W t) := by
  simp only [cT] at h
  split at h
  · cases h; exact ts_nil
  · exact ts_one (ih.b o tk h)
  · cases h
theorem snI (ih : SN T FT N own m n) (o : XO T FT N own m X sc sto) (tk : Takes X W) {tg e : Expr} {t : IA} (h : cI N own (runF FT m) (n + 1) sc e = some t) (hs : isSet e = false) : PI X tg e (lI T W t) := by
  have seq : ∀ {e : Expr}, (cE N own (runF FT m) n sc e).map iSeq = some t → PI X tg e (lI T W t) := fun {e} h => by
    simp only [Option.map_eq_some_iff] at h
    obtain ⟨ta, h1, rfl⟩ := h
    exact i_seq o.ok.k (ih.e o tk h1)
  simp only [cI] at h
  split at h
  · rename_i x p a pos
    split at h
    · rename_i hx
      subst hx
      split at h
      · rename_i hb
        simp only [Bool.and_eq_true, Bool.not_eq_true'] at hb
        obtain ⟨g1, g2, g3⟩ := isBlt_of o hb.1
        simp only [Option.map_eq_some_iff] at h
        obtain ⟨ta, h1, rfl⟩ := h
        exact i_rng1 g1 g2 (ih.e o tk h1) (star_cons hb.2)
      · cases h
    · exact seq h
  · rename_i x p a b pos
    split at h
    · rename_i hx
      subst hx
      split at h
      · rename_i hb
        simp only [Bool.and_eq_true, Bool.not_eq_true'] at hb
        obtain ⟨g1, g2, g3⟩ := isBlt_of o hb.1.1
        split at h
        · rename_i ta tb h1 h2
          cases h
          exact i_rng2 g1 g2 (ih.e o tk h1) (ih.e o tk h2) (by rw [star_cons hb.1.2, star_cons hb.2]; rfl) (star_cons hb.2)
        · cases h
      · cases h
    · exact seq h
  · exact seq h
end
end Q
/-! Q17: the compile step is right: expressions, all; statements. -/
namespace Q
open PySem PySem.Spec PyProof.Rows L2
section
variable {T : Tx} {FT : FTab} {N : List Str} {own : Pg} {m n : Nat} {X : Cx} {sc sto : Scope} {W : L2.WX}
theorem snCall (ih : SN T FT N own m n) (o : XO T FT N own m X sc sto) (tk : Takes X W) {x : Str} {p pos : Pos} {es : List Expr} {t : EA} (h : cE N own (runF FT m) (n + 1) sc (.Call (.Name x p) es [] pos) = some t) : PE X (.Call (.Name x p) es [] pos) (lE T W t) := by
  simp only [cE] at h
  split at h
  · rename_i hst
    split at h
    · rename_i F hF
      obtain ⟨g1, g2, g3⟩ := isOwn_of o hF
      obtain ⟨d1, _, _⟩ := nmOk_d g3
      obtain ⟨f, fd, ps, FN, hm, hk, hb⟩ := o.fns x F g2
      simp only [Option.map_eq_some_iff] at h
      obtain ⟨u, h1, rfl⟩ := h
      cases es with
      | nil =>
        have hl := ih.l o tk h1
        have e : u = lNil := by
          cases n with
          | zero => simp [cL] at h1
          | succ k => simpa [cL] using h1.symm
        subst e
        exact p_call0 FN o.room o.gd g1 hm hk hb tk d1
      | cons e es =>
        simp only [List.all_cons, Bool.and_eq_true] at hst
        exact p_call FN o.room o.gd g1 hm hk hb tk (ih.l o tk h1) d1 (star_cons (by simpa using hst.1)) (back_plain hst.2)
    · split at h
      · rename_i hB
        obtain ⟨g1, g2, g3⟩ := isBlt_of o hB
        obtain ⟨d1, _, d3⟩ := nmOk_d g3
        split at h
        · rename_i hx
          subst hx
          split at h
          · rename_i e t0 pt
            split at h
            · rename_i hB2
              obtain ⟨k1, k2, k3⟩ := isBlt_of o hB2
              obtain ⟨l1, _, l3⟩ := nmOk_d k3
              split at h
              · rename_i ta mm h1 h2
                cases h
                obtain ⟨b1, b2⟩ := ty_of h2
                simp only [List.all_cons, Bool.and_eq_true] at hst
                exact p_isi1 o.ok.k (ih.e o tk h1) g1 g2 k1 k2 b1 b2 l3 l1 (star_cons (by simpa using hst.1))
              · cases h
            · cases h
          · rename_i e t0 pt t1 pt1 x1 pp
            split at h
            · rename_i hB2
              simp only [Bool.and_eq_true] at hB2
              obtain ⟨k1, k2, k3⟩ := isBlt_of o hB2.1
              obtain ⟨l1, _, l3⟩ := nmOk_d k3
              obtain ⟨k1', k2', k3'⟩ := isBlt_of o hB2.2
              obtain ⟨l1', _, l3'⟩ := nmOk_d k3'
              split at h
              · rename_i ta mm mm' h1 h2 h3
                cases h
                obtain ⟨b1, b2⟩ := ty_of h2
                obtain ⟨b1', b2'⟩ := ty_of h3
                simp only [List.all_cons, Bool.and_eq_true] at hst
                exact p_isi2 o.ok.k (ih.e o tk h1) g1 g2 k1 k2 b1 b2 l3 l1 k1' k2' b1' b2' l3' l1' (star_cons (by simpa using hst.1))
              · cases h
            · cases h
          · cases h
        · split at h
          · cases h
          · rename_i hne
            split at h
            · rename_i ty id f u h1 h2
              cases h
              cases es with
              | nil => simp at hne
              | cons e es =>
                simp only [List.all_cons, Bool.and_eq_true] at hst
                rcases bi_of (T := T) o h1 with ⟨_, c1, c2⟩ | ⟨_, c1, c2⟩
                · exact p_bi c1 g1 g2 c2 (ih.l o tk h2) d3 d1 (star_cons (by simpa using hst.1)) (back_plain hst.2)
                · exact p_bt c1 g1 g2 c2 (ih.l o tk h2) d3 d1 (star_cons (by simpa using hst.1)) (back_plain hst.2)
            · cases h
      · cases h
  · cases h
theorem snMeth (ih : SN T FT N own m n) (o : XO T FT N own m X sc sto) (tk : Takes X W) {ob : Expr} {mn : Str} {apos pos : Pos} {es : List Expr} {t : EA} (h : cE N own (runF FT m) (n + 1) sc (.Call (.Attribute ob mn apos) es [] pos) = some t) : PE X (.Call (.Attribute ob mn apos) es [] pos) (lE T W t) := by
  simp only [cE] at h
  split at h
  · rename_i hc
    simp only [Bool.and_eq_true, decide_eq_true_eq] at hc
    obtain ⟨⟨⟨hst, hb⟩, hl⟩, hlen⟩ := hc
    split at h
    · rename_i he
      split at h
      · rename_i ty id f to h1 h2
        cases h
        cases es with
        | cons e es => simp at he
        | nil =>
          obtain ⟨a1, a2, a3, a4⟩ := mt0_of o h1
          exact p_m0 o.ok.k a1 a2 a3 a4 (ih.e o tk h2) (base_ok hb) hl
      · cases h
    · rename_i he
      split at h
      · rename_i ty id f to u h1 h2 h3
        cases h
        cases es with
        | nil => simp at he
        | cons e es =>
          obtain ⟨a1, a2, a3, a4⟩ := mt_of o h1
          have hst' := hst
          simp only [List.all_cons, Bool.and_eq_true] at hst
          exact p_m o.ok.k a1 a2 a3 a4 (ih.e o tk h2) (ih.l o tk h3) (base_ok hb) (few_ok hst' (by simp at hlen; omega)) hl (star_cons (by simpa using hst.1)) (back_plain hst.2)
      · cases h
  · cases h
theorem snLc (ih : SN T FT N own m n) (o : XO T FT N own m X sc sto) (tk : Takes X W) {elt : Expr} {gens : List Comprehension} {scope : Scope} {pos : Pos} {t : EA} (h : cE N own (runF FT m) (n + 1) sc (.ListComp elt gens scope pos) = some t) :
    ∃ tg iter ifs it g tt te, gens = [⟨tg, iter, ifs, 0⟩] ∧ t = eLc it g tt te ((ownOf N scope).map (·.2)) ∧ PI X tg iter (lI T W it) ∧ BlkOk X.N X.env.scope scope (ownOf N scope) ∧
      (∀ s H C cl fp, PG (X.blk s H scope (compEnvC scope cl C X.env) fp) tg (lG T ((ownOf N scope).map (·.2)) g)) ∧ (∀ s H C cl fp, PTs (X.blk s H scope (compEnvC scope cl C X.env) fp) ifs (lB T W0 tt)) ∧
      (∀ s H C cl fp, PE (X.blk s H scope (compEnvC scope cl C X.env) fp) elt (lE T W0 te)) ∧ (∀ x, foldedSetIterable iter X.env x = pure x) := by
  simp only [cE] at h
  split at h
  · rename_i tg iter ifs
    split at h
    · rename_i hc
      simp only [Bool.and_eq_true, Bool.not_eq_true'] at hc
      split at h
      · rename_i it g tt te h1 h2 h3 h4
        cases h
        exact ⟨tg, iter, ifs, it, g, tt, te, rfl, rfl, ih.i o tk h1 hc.2, by rw [o.nm, o.scp]; exact blkOk_by hc.1, fun s H C cl fp => cG_of (o.blk hc.1 s H C cl fp) h2, fun s H C cl fp => ih.t (o.blk hc.1 s H C cl fp) takes0 h3,
          fun s H C cl fp => ih.e (o.blk hc.1 s H C cl fp) takes0 h4, folded_ok hc.2⟩
      · cases h
    · cases h
  · cases h
theorem snE (ih : SN T FT N own m n) (o : XO T FT N own m X sc sto) (tk : Takes X W) {e : Expr} {t : EA} (h : cE N own (runF FT m) (n + 1) sc e = some t) : PE X e (lE T W t) := by
  cases e with
  | Name x pos =>
    simp only [cE] at h
    split at h
    · rename_i hc
      simp only [Bool.and_eq_true] at hc
      obtain ⟨d1, d2, _⟩ := nmOk_d hc.2
      simp only [Option.map_eq_some_iff] at h
      obtain ⟨i, h1, rfl⟩ := h
      exact p_var (by rw [o.nm]; exact ixOf_get h1) (o.vis hc.1) d1 d2
    · split at h
      · rename_i hc
        simp only [Bool.and_eq_true] at hc
        obtain ⟨d1, d2, _⟩ := nmOk_d hc.2
        simp only [Option.map_eq_some_iff] at h
        obtain ⟨i, h1, rfl⟩ := h
        obtain ⟨t, e⟩ := o.cs x i h1
        exact p_const (pe_glob (v := .int i) (o.gl hc.1) e ⟨t, rfl⟩ d1) fun H => rv_i _
      · cases h
  | Constant k j pos =>
    simp only [cE] at h
    split at h <;> first | cases h | skip
    · exact p_const pe_int fun H => rv_i _
    · exact p_const pe_bl fun H => rv_b _
    · exact p_const pe_non fun H => rv_n
    · exact p_const pe_str fun H => rv_s _
  | Tuple es k pos => simp only [cE, Option.map_eq_some_iff] at h; obtain ⟨u, h1, rfl⟩ := h; exact p_tup (ih.l o tk h1)
  | List es pos => simp only [cE, Option.map_eq_some_iff] at h; obtain ⟨u, h1, rfl⟩ := h; exact p_lst (ih.l o tk h1)
  | Dict ks vs pos =>
    simp only [cE] at h
    split at h
    · rename_i hc
      simp only [Bool.and_eq_true, List.isEmpty_iff] at hc
      cases h
      obtain ⟨rfl, rfl⟩ := hc
      exact p_dct0
    · cases h
  | BinOp a op b pos =>
    simp only [cE] at h
    split at h
    · rename_i ta f tb h1 h2 h3
      cases h
      exact p_bin (op_of o.ok.k h2) (ih.e o tk h1) (ih.e o tk h3)
    · cases h
  | UnaryOp op a pos =>
    cases op <;> simp only [cE, reduceCtorEq, Option.map_eq_some_iff] at h
    all_goals (obtain ⟨u, h1, rfl⟩ := h; first | exact p_neg (ih.e o tk h1) | exact p_not o.ok.k (ih.e o tk h1))
  | BoolOp op es pos => simp only [cE] at h; exact ih.bo o tk h
  | Compare a ops bs pos =>
    simp only [cE] at h
    split at h
    · rename_i op b
      split at h
      · cases h
      · rename_i hs
        split at h
        · rename_i ta f tb h1 h2 h3
          cases h
          exact p_cmp (cm_of o h2) (ih.e o tk h1) (ih.e o tk h3) (behind_ok (by simpa using hs))
        · cases h
    · rename_i op op' b b'
      split at h
      · cases h
      · rename_i hs
        split at h
        · rename_i ta f tb f' tc h1 h2 h3 h4 h5
          cases h
          exact p_chain (cm_of o h2) (cm_of o h4) (ih.e o tk h1) (ih.e o tk h3) (ih.e o tk h5) (last_ok (by simpa using hs))
        · cases h
    · cases h
  | IfExp q a b pos =>
    simp only [cE] at h
    split at h
    · rename_i t1 ta tb h1 h2 h3
      cases h
      exact p_if (ih.b o tk h1) (ih.e o tk h2) (ih.e o tk h3)
    · cases h
  | Subscript a s pos =>
    simp only [cE] at h
    split at h
    · rename_i lo hi st p2
      split at h
      · split at h
        · rename_i ta tl th h1 h2 h3
          cases h
          exact p_sl o.ok.k (ih.e o tk h1) (ih.o o tk h2) (ih.o o tk h3)
        · cases h
      · split at h
        · rename_i hc
          simp only [Bool.and_eq_true, Option.isNone_iff_eq_none] at hc
          obtain ⟨rfl, rfl⟩ := hc
          simp only [Option.map_eq_some_iff] at h
          obtain ⟨u, h1, rfl⟩ := h
          exact p_rev o.ok.k (ih.e o tk h1)
        · cases h
      · cases h
    · rename_i hs
      split at h
      · rename_i ta ti h1 h2
        cases h
        refine p_ix o.ok.k (ih.e o tk h1) (ih.e o tk h2) (plainIx_ok ?_)
        cases s <;> first | rfl | exact absurd rfl (hs _ _ _ _)
      · cases h
  | Call f es ks pos =>
    cases f with
    | Name x p =>
      cases ks with
      | nil => exact snCall ih o tk h
      | cons _ _ => simp [cE] at h
    | Attribute ob mn apos =>
      cases ks with
      | nil => exact snMeth ih o tk h
      | cons _ _ => simp [cE] at h
    | _ => simp [cE] at h
  | ListComp elt gens scope pos =>
    obtain ⟨tg, iter, ifs, it, g, tt, te, rfl, rfl, a1, a2, a3, a4, a5, a6⟩ := snLc ih o tk h
    exact p_lc o.calm (by rw [o.nm]; exact o.nd) a1 a2 a3 a4 a5 a6
  | _ => simp [cE] at h
theorem sn_zero : SN T FT N own m 0 where
  e := by intro X sc sto W o tk e t h; simp [cE] at h
  l := by intro X sc sto W o tk e t h; simp [cL] at h
  bo := by intro X sc sto W o tk op e t p h; simp [cBo] at h
  b := by intro X sc sto W o tk e t h; simp [cB] at h
  bb := by intro X sc sto W o tk op e t p h; simp [cBb] at h
  o := by intro X sc sto W o tk e t h; simp [cO] at h
  i := by intro X sc sto W o tk tg e t h; simp [cI] at h
  t := by intro X sc sto W o tk e t h; simp [cT] at h
theorem sn_all : ∀ n, SN T FT N own m n
  | 0 => sn_zero
  | n + 1 => {
    e := by intro X sc sto W o tk e t h; exact snE (sn_all n) o tk h
    l := by intro X sc sto W o tk e t h; exact snL (sn_all n) o tk h
    bo := by intro X sc sto W o tk op e t p h; exact snBo (sn_all n) o tk h
    b := by intro X sc sto W o tk e t h; exact snB (sn_all n) o tk h
    bb := by intro X sc sto W o tk op e t p h; exact snBb (sn_all n) o tk h
    o := by intro X sc sto W o tk e t h; exact snO (sn_all n) o tk h
    i := by intro X sc sto W o tk tg e t h hs; exact snI (sn_all n) o tk h hs
    t := by intro X sc sto W o tk e t h; exact snT (sn_all n) o tk h }
/-! ### statements -/
structure SS (T : Tx) (FT : FTab) (N : List Str) (own : Pg) (m n : Nat) : Prop where
  s : ∀ {X sc W}, XO T FT N own m X sc sc → Takes X W → PassesOwn (model X.prog X.w) X.A X.env X.xe → ∀ {st t}, cS N own (runF FT m) n sc st = some t → PS X st (lS T W t)
  a : ∀ {X sc W}, XO T FT N own m X sc sc → Takes X W → PassesOwn (model X.prog X.w) X.A X.env X.xe → ∀ {tg e pos t}, cA N own (runF FT m) n sc tg e pos = some t → PS X (.Assign [tg] e pos) (lS T W t)
  ss : ∀ {X sc W}, XO T FT N own m X sc sc → Takes X W → PassesOwn (model X.prog X.w) X.A X.env X.xe → ∀ {sts t}, cSs N own (runF FT m) n sc sts = some t → PSs X sts (lS T W t)
theorem ssSs (ih : SS T FT N own m n) (o : XO T FT N own m X sc sc) (tk : Takes X W) (po : PassesOwn (model X.prog X.w) X.A X.env X.xe) {sts : List Stmt} {t : SA} (h : cSs N own (runF FT m) (n + 1) sc sts = some t) : PSs X sts (lS T W t) := by
  cases sts with
  | nil => simp only [cSs, Option.some.injEq] at h; subst h; exact b_nil
  | cons st sts =>
    simp only [cSs] at h
    split at h
    · rename_i t1 t2 h1 h2
      cases h
      exact b_cons (ih.s o tk po h1) (ih.ss o tk po h2)
    · cases h
theorem ssA (o : XO T FT N own m X sc sc) (tk : Takes X W) (po : PassesOwn (model X.prog X.w) X.A X.env X.xe) {tg e : Expr} {pos : Pos} {t : SA} (h : cA N own (runF FT m) (n + 1) sc tg e pos = some t) : PS X (.Assign [tg] e pos) (lS T W t) := by
  have nd : X.N.Nodup := by rw [o.nm]; exact o.nd
  have ie := fun {e t} h => (sn_all (T := T) (FT := FT) (N := N) (own := own) (m := m) n).e o tk (e := e) (t := t) h
  cases tg with
  | Name x px =>
    simp only [cA] at h
    split at h
    · rename_i hl
      split at h
      · rename_i i t1 h1 h2
        have get : X.N[i]? = some x := by rw [o.nm]; exact ixOf_get h1
        split at h
        · rename_i elt gens scope cpos
          split at h
          · rename_i hcell
            cases h
            refine s_set nd get (o.loc hl) (ie h2) (swap_cell ?_) (o.fn hl)
            show X.env.scope.names.lookup x = _
            rw [o.scp]; simpa using hcell
          · rename_i hcell
            split at h
            · rename_i hc
              cases h
              simp only [Bool.and_eq_true, Bool.not_eq_true'] at hc
              have hloc : sc.names.lookup x = some .local := by
                unfold locB at hl
                split at hl
                · rename_i e; exact e
                · rename_i e; rw [e] at hcell; exact absurd (by decide) hcell
                · cases hl
              cases n with
              | zero => simp [cE] at h2
              | succ k =>
                obtain ⟨tg, iter, ifs, it, g, tt, te, rfl, rfl, a1, a2, a3, a4, a5, a6⟩ := snLc (sn_all k) o tk h2
                exact s_setLc o.calm nd get (by rw [o.scp]; exact hloc) (sw_true (by rw [o.scp]; exact o.kind) (by rw [o.scp]; exact hloc) hc.1 hc.2) a1 a2 a3 a4 a5 a6
            · cases h
        · split at h
          · cases h
          · rename_i hc
            cases h
            exact s_set nd get (o.loc hl) (ie h2) (swap_ok (by simpa using hc)) (o.fn hl)
      · cases h
    · cases h
  | Subscript ob i p2 =>
    simp only [cA] at h
    split at h
    · cases h
    · rename_i hc
      simp only [Bool.or_eq_true, not_or, Bool.not_eq_true] at hc
      split at h
      · rename_i to ti te h1 h2 h3
        cases h
        exact s_asg (vs := []) (ie h3) (g_sub (ie h1) (ie h2) (subStore_ok hc.1)) (swapSole_ok hc.2) (stores_one rfl) (assign1 rfl)
      · cases h
  | Tuple es k p2 =>
    simp only [cA] at h
    split at h
    · rename_i vs k2 pt2
      split at h
      · rename_i hsw
        split at h
        · rename_i t1 g h1 h2
          cases h
          exact s_asg (ie h1) (cG_of o h2) (swapSole_ok rfl) (sw_of (by rw [o.scp]; exact o.kind) (by rw [o.scp]; exact hsw)) (assign1 rfl)
        · cases h
      · rename_i x y hsw
        split at h
        · rename_i x' px y' py a b
          split at h
          · rename_i hc
            simp only [Bool.and_eq_true, decide_eq_true_eq, Bool.not_eq_true'] at hc
            obtain ⟨⟨⟨rfl, rfl⟩, ha⟩, hb⟩ := hc
            split at h
            · rename_i i j t1 h1 h2 h3
              split at h
              · rename_i hd
                cases h
                simp only [Bool.and_eq_true, decide_eq_true_eq, beq_iff_eq] at hd
                exact s_par o.calm nd (by rw [o.nm]; exact ixOf_get h1) (by rw [o.nm]; exact ixOf_get h2) hd.1.1 (by rw [o.scp]; exact hd.1.2) (by rw [o.scp]; exact hd.2) ((sn_all n).l o tk h3)
                  (sw_of (by rw [o.scp]; exact o.kind) (by rw [o.scp]; exact hsw)) (swapSole_ok rfl)
              · cases h
            · cases h
          · cases h
        · cases h
      · cases h
    · rename_i hnt
      split at h
      · cases h
      · rename_i hc
        split at h
        · rename_i t1 g h1 h2
          cases h
          refine s_asg (ie h1) (cG_of o h2) (swapSole_ok (by simpa using hc)) (stores_ok ?_) (assign1 rfl)
          cases e <;> first | rfl | exact absurd rfl (hnt _ _ _)
        · cases h
  | _ => simp [cA] at h
theorem ssS (ih : SS T FT N own m n) (o : XO T FT N own m X sc sc) (tk : Takes X W) (po : PassesOwn (model X.prog X.w) X.A X.env X.xe) {st : Stmt} {t : SA} (h : cS N own (runF FT m) (n + 1) sc st = some t) : PS X st (lS T W t) := by
  have ie := fun {e t} h => (sn_all (T := T) (FT := FT) (N := N) (own := own) (m := m) n).e o tk (e := e) (t := t) h
  cases st with
  | Pass p => simp only [cS, Option.some.injEq] at h; subst h; exact s_pass
  | Break p => simp only [cS, Option.some.injEq] at h; subst h; exact s_brk
  | Continue p => simp only [cS, Option.some.injEq] at h; subst h; exact s_cnt
  | Return e p =>
    simp only [cS] at h
    split at h
    · cases h; exact s_retN
    · simp only [Option.map_eq_some_iff] at h; obtain ⟨u, h1, rfl⟩ := h; exact s_ret (ie h1)
  | Expr e p =>
    simp only [cS] at h
    split at h
    · cases h; exact s_doc (j := none)
    · split at h
      · cases h
      · rename_i hc
        simp only [Option.map_eq_some_iff] at h; obtain ⟨u, h1, rfl⟩ := h; exact s_ex (ie h1) (swap_ok (by simpa using hc))
  | If q a b p =>
    simp only [cS] at h
    split at h
    · rename_i t1 u v h1 h2 h3
      cases h
      exact s_if ((sn_all n).b o tk h1) (ih.ss o tk po h2) (ih.ss o tk po h3)
    · cases h
  | For tg iter body orelse p =>
    simp only [cS] at h
    split at h
    · cases h
    · rename_i hc
      simp only [Bool.or_eq_true, not_or, Bool.not_eq_true, Bool.not_eq_false', List.isEmpty_iff] at hc
      split at h
      · rename_i it g t1 h1 h2 h3
        cases h
        obtain ⟨hs, hor⟩ := hc
        subst hor
        exact s_for po o.calm ((sn_all n).i o tk h1 hs) (cG_of o h2) (ih.ss o tk po h3) (folded_ok hs)
      · cases h
  | AugAssign tg op e p =>
    simp only [cS] at h
    split at h
    · rename_i ob i p2
      split at h
      · cases h
      · rename_i hc
        split at h
        · rename_i to ti te h1 h2 h3
          cases h
          exact s_aug o.ok.k (ie h1) (ie h2) (ie h3) (augStore_ok (by simpa using hc))
        · cases h
    · cases h
  | Assign tgs e p =>
    simp only [cS] at h
    split at h
    · exact ih.a o tk po h
    · cases h
  | _ => simp [cS] at h
theorem ss_all : ∀ n, SS T FT N own m n
  | 0 => {
    s := by intro X sc W o tk po st t h; simp [cS] at h
    a := by intro X sc W o tk po tg e pos t h; simp [cA] at h
    ss := by intro X sc W o tk po sts t h; simp [cSs] at h }
  | n + 1 => {
    s := by intro X sc W o tk po st t h; exact ssS (ss_all n) o tk po h
    a := by intro X sc W o tk po tg e pos t h; exact ssA o tk po h
    ss := by intro X sc W o tk po sts t h; exact ssSs (ss_all n) o tk po h }
end
end Q
/-! Q18: all defs of a text; the law's call. -/
namespace Q
open PySem PySem.Spec PyProof.Rows L2
/-- a def of the text by its compiled body -/
theorem fnG_comp {P : Program} {w : World} {K : PySem.W.Frag} {mg : Str → Option Value} {base : Heap} {T : Tx} {FT : FTab} {n k : Nat} {x qual : Str} {st : Stmt} {f : Addr} {fd : FuncData} {N ps : List Str} {F : String} {d : FD} {own : Pg} (hF : Fun K x qual st f fd) (S : FnScope N ps (defScope st))
    (hd : FT (Str.ofString F) = some d) (h1 : d.ps = ps.length) (h2 : d.slots = N.length) (hT : T.K = K)
    (hc : cSs N own (runF FT n) k (defScope st) (defBody st) = some (d.body (runF FT n)))
    (fns : ∀ x F, own.fn.lookup x = some F → ∃ f fd ps, FnG P w K mg base (L2.CX P w) n f fd ps (spA T FT n F) ∧ mg x = some (.ref f) ∧ PySem.W.keepIn K (.ref f) = true ∧ Binds K fd ps [])
    (bl : ∀ x, own.fn.lookup x = none → x ∈ bltNames → mg x = none) (cs : ∀ x i, own.kc.lookup x = some i → ∃ t, mg x = some (.int i t)) : FnG P w K mg base (L2.CX P w) (n + 1) f fd ps (spA T FT (n + 1) F) := by
  refine fnG_of hF S hd h1 h2 fun cdv A fr s H E hr hg => ?_
  have o : XO T FT N own n (cxOf (L2.CX P w) P w K mg base N qual (defScope st) f cdv A fr s H E) (defScope st) (defScope st) :=
    ⟨⟨hT⟩, rfl, S.nd, rfl, S.kind, rfl, hg, hr, (fun x hx => by
      unfold locB at hx
      split at hx
      · rename_i e; exact ⟨.inl e, .inl rfl⟩
      · rename_i e; exact ⟨.inr e, .inl rfl⟩
      · cases hx), fns, bl, cs⟩
  exact (ss_all k).ss o (takes_of rfl rfl rfl rfl) (passes_of rfl) hc
/-- what a text's def is: name, the place in the top, names by slot, parameters -/
structure DI where
  key : String
  qual : Str
  st : Stmt
  N : List Str
  ps : List Str
/-- one def as the top has left it -/
structure DefAt (K : PySem.W.Frag) (mg : Str → Option Value) (i : DI) (f : Addr) (fd : FuncData) : Prop where
  fn : Fun K (Str.ofString i.key) i.qual i.st f fd
  sc : FnScope i.N i.ps (defScope i.st)
  mg : mg (Str.ofString i.key) = some (.ref f)
  bd : Binds K fd i.ps []
  bd1 : ∀ (s : Shared) (us : List Value), us.length = i.ps.length → BindsTo s fd ⟨us, []⟩ (i.ps.zip us)
/-- all defs keep their promises, at every depth -/
theorem all_defs {P : Program} {w : World} {K : PySem.W.Frag} {mg : Str → Option Value} {base : Heap} {T : Tx} {FT : FTab} {k : Nat} {ds : List DI} {own : Pg} (hT : T.K = K)
    (at_ : ∀ i ∈ ds, ∃ f fd, DefAt K mg i f fd) (hown : ∀ x F, own.fn.lookup x = some F → ∃ i ∈ ds, i.key = F ∧ x = Str.ofString F)
    (hFT : ∀ i ∈ ds, ∃ d, FT (Str.ofString i.key) = some d ∧ d.ps = i.ps.length ∧ d.slots = i.N.length ∧ ∀ c, cSs i.N own c k (defScope i.st) (defBody i.st) = some (d.body c))
    (bl : ∀ x, own.fn.lookup x = none → x ∈ bltNames → mg x = none) (cs : ∀ x i, own.kc.lookup x = some i → ∃ t, mg x = some (.int i t)) :
    ∀ (n : Nat) (i : DI), i ∈ ds → ∀ f fd, DefAt K mg i f fd → FnG P w K mg base (L2.CX P w) n f fd i.ps (spA T FT n i.key)
  | 0, i, hi, f, fd, D => ⟨fun vs H Q E h => by obtain ⟨_, _, _, _, _, _, z, _⟩ := h; exact False.elim z, fun A _ _ fr s H as us vs Q E _ _ _ h => by obtain ⟨_, _, _, _, _, _, z, _⟩ := h; exact False.elim z⟩
  | n + 1, i, hi, f, fd, D => by
    obtain ⟨d, e, e1, e2, hc⟩ := hFT i hi
    refine fnG_comp D.fn D.sc e e1 e2 hT (hc _) (fun x F h => ?_) bl cs
    obtain ⟨j, hj, rfl, rfl⟩ := hown x F h
    obtain ⟨g, gd, Dj⟩ := at_ j hj
    exact ⟨g, gd, j.ps, all_defs hT at_ hown hFT bl cs n j hj g gd Dj, Dj.mg, Dj.fn.kp, Dj.bd⟩
/-- the heap of the law's entry: the script alone, where it is no object of the top -/
def scriptH (K : PySem.W.Frag) (a : Addr) (o : Obj) (xs : List V) : Hp := fun b => if b = a ∧ K.lookup a = none then some (.frz o (.lst xs)) else none
theorem scriptH_cases {K : PySem.W.Frag} {a b : Addr} {o : Obj} {xs : List V} {u : HO} (h : scriptH K a o xs b = some u) : b = a ∧ K.lookup a = none ∧ u = .frz o (.lst xs) := by
  unfold scriptH at h
  split at h
  · rename_i c; cases h; exact ⟨c.1, c.2, rfl⟩
  · cases h
theorem law_run {P : Program} {w : World} {K : PySem.W.Frag} {mg mb : Str → Option Value} {n : Nat} {fa a : Addr} {fd : FuncData} {x : Str} {s₁ : Shared} {vs : List Value} {ns : List Int} {T : Tx} {FT : FTab} {F : String}
    (KX : K.In s₁.heap) (hns : s₁.heap.Ns mainGlobals mg) (hb : s₁.heap.Ns builtinsNs mb) (hbb : ∀ x : Str, x ≠ "__name__" → mb x = bootBuiltins x) (hlim : s₁.heap.NoLimit) (hg : s₁.gens = #[])
    (ha : s₁.heap.get? a = some { cls := .type "list", data := .seq vs.toArray }) (hi : IntsAre vs ns) (hl : ns.length ≤ sizeLine) (hr : Room n callerA) (hT : T.K = K)
    (FN : ∀ base : Heap, FnG P w K mg base (L2.CX P w) n fa fd [x] (spA T FT n F)) (hbind : ∀ (s : Shared) (u : Value), BindsTo s fd ⟨[u], []⟩ [(x, u)])
    (run : runF FT n F [.fro (ns.map A.int)] (fun _ => none) (fun v _ => v = .bl true) (fun _ _ => False)) :
    codeAny (model P w) callerA (.call (.ref fa) ⟨[.ref a], []⟩) (fun r s' => r = .ok (.ret (.bool true)) ∧ OldK s₁.heap s'.heap ∧ s'.os = s₁.os ∧ AllBare s'.gens) s₁ := by
  have rv : Vals (ns.map V.int) vs := vals_of_ints hi
  generalize hH : scriptH K a { cls := .type "list", data := .seq vs.toArray } (ns.map V.int) = H
  have only : ∀ b u, H b = some u → b = a ∧ K.lookup a = none ∧ u = .frz { cls := .type "list", data := .seq vs.toArray } (.lst (ns.map V.int)) := fun b u h => by rw [← hH] at h; exact scriptH_cases h
  have sq : SqF K H a (ns.map V.int) := by
    cases hk : K.lookup a with
    | none => exact .inl ⟨_, by rw [← hH]; unfold scriptH; rw [if_pos ⟨rfl, hk⟩]⟩
    | some o =>
      have e := KX a o hk
      rw [ha] at e
      cases e
      exact .inr (.inr ⟨_, vs.toArray, _, hk, rfl, rfl, rfl, by rw [List.size_toArray, hi.length]; exact hl, by simpa using rv⟩)
  have hok : HOk P w H s₁.heap := fun b u h => by
    obtain ⟨rfl, _, rfl⟩ := only b u h
    exact ⟨ha, by rw [List.length_map]; exact hl, vs, _, rv, ha⟩
  have keepK : ∀ {b : Addr} {o : Obj}, s₁.heap.get? b = some o → (b = a → K.lookup a ≠ none) → (hidT s₁.heap H).get? b = some o := fun {b o} e h => hidT_get e (by
    cases q : H b with
    | none => rfl
    | some u => obtain ⟨z1, z2, _⟩ := only b u q; exact absurd z2 (h z1))
  have keepD : ∀ {b : Addr} {m : Str → Option Value}, s₁.heap.Ns b m → (hidT s₁.heap H).Ns b m := fun {b m} ⟨o, es, ep, e, d, r⟩ => ⟨o, es, ep, hidT_get e (by
    cases q : H b with
    | none => rfl
    | some u =>
      obtain ⟨z1, _, _⟩ := only b u q
      subst z1
      rw [ha] at e
      cases e
      cases d), d, r⟩
  have M : Mod K mg (hidT s₁.heap H) := ⟨fun b o e => keepK (KX b o e) (fun z => by subst z; rw [e]; exact fun q => nomatch q), keepD hns, ⟨mb, keepD hb, hbb⟩, let ⟨mc, h1, h2⟩ := hlim; ⟨mc, keepD h1, h2⟩⟩
  have e0 : Env0 P w K mg (hidT s₁.heap H) callerA [] s₁ H := ⟨rfl, M, fun b o e => of_hidT e, Nat.le_of_eq (hidT_size _ _), trivial, (fun b hb => by cases hb), hok, .of_eq hg⟩
  have prom : spA T FT n F [.ref a] H (fun v _ => v = .bl true) fun _ _ _ => False := by
    refine ⟨[.fro (ns.map A.int)], fun _ => none, _, _, .one ?_, (fun b o z => by cases z), run, fun a' G' v H' z r _ _ => ?_, fun _ _ _ _ _ z _ _ _ => z⟩
    · simp only [RV]
      refine ⟨a, ns.map V.int, rfl, hT ▸ sq, ?_⟩
      clear run hi rv hH only sq hok keepK keepD M e0
      induction ns with
      | nil => simp only [List.map_nil, RVs]
      | cons i is ih => exact .cons (rv_i i) (ih (by simp at hl; omega))
    · subst z; simpa only [RV] using r
  refine codeAny_mono ((FN _).run callerA hr rfl [] s₁ H ⟨[.ref a], []⟩ [.ref a] [.ref a] _ _ e0 (hbind s₁ (.ref a)) (.cons rfl .nil) prom) fun r s' h => ?_
  match r, h with
  | .error e, h =>
    obtain ⟨_, _, _, _, _, _, _, _, _, _, _, _, z⟩ := h
    exact z.elim
  | .ok (.ret u), ⟨v, H', os, bare, un, hok', r', q⟩ =>
    have q' : v = .bl true := q
    subst q'
    obtain rfl : u = Value.bool true := r'
    refine ⟨rfl, OldK.of_keep fun b o e => ?_, os, bare⟩
    cases q : H b with
    | none => exact un.keep b o e q (by intro z; cases z) (by intro z; cases z)
    | some u =>
      obtain ⟨rfl, _, rfl⟩ := only b u q
      obtain ⟨e1, _⟩ := hok' b _ (un.frzs b _ _ q)
      rw [ha] at e
      cases e
      exact e1
end Q
/-! Q19: the end of a law's proof. -/
namespace Q
open PySem PySem.Spec PyProof.Rows L2
theorem all_nil {P : DI → Prop} : ∀ i ∈ ([] : List DI), P i := fun _ h => nomatch h
theorem all_cons {P : DI → Prop} {d : DI} {ds : List DI} (h : P d) (t : ∀ i ∈ ds, P i) : ∀ i ∈ d :: ds, P i := fun i hi => by
  rcases List.mem_cons.mp hi with rfl | hi
  · exact h
  · exact t i hi
theorem lookup_all {P : Str → Int → Prop} : ∀ {l : List (Str × Int)}, (∀ p ∈ l, P p.1 p.2) → ∀ x i, l.lookup x = some i → P x i
  | [], _, _, _, h => by simp at h
  | (y, j) :: l, hp, x, i, h => by
    simp only [List.lookup_cons] at h
    split at h
    · rename_i e
      cases h
      have := hp (y, j) (by simp)
      rwa [show x = y by simpa using e]
    · exact lookup_all (fun q hq => hp q (by simp [hq])) x i h
def ownL (ds : List DI) : List (Str × String) := ds.map fun i => (Str.ofString i.key, i.key)
theorem own_of : ∀ {ds : List DI} {x : Str} {F : String}, (ownL ds).lookup x = some F → ∃ i ∈ ds, i.key = F ∧ x = Str.ofString F
  | [], _, _, h => by simp [ownL] at h
  | d :: ds, x, F, h => by
    simp only [ownL, List.map_cons, List.lookup_cons] at h
    split at h
    · rename_i e
      cases h
      exact ⟨d, by simp, rfl, by simpa using e⟩
    · obtain ⟨i, hi, a, b⟩ := own_of (ds := ds) h
      exact ⟨i, by simp [hi], a, b⟩
theorem def_mk {K : PySem.W.Frag} {mg : Str → Option Value} {h : Heap} {key : String} {qual : Str} {st : Stmt} {N ps : List Str} {f : Addr} {oc : Value} {od an : Option Addr} {osl : Array (Option Value)} {kV doc pm cdv ct : Value} (X : K.In h) (G : h.Ns mainGlobals mg)
    (S : FnScope N ps (defScope st)) (hb : ∀ (kV doc pm : Value) (an : Option Addr) (cdv ct : Value) (us : List Value), us.length = ps.length → bindArgs (PySem.W.fnOf (Str.ofString key) qual (defArgs st) (defBody st) (defScope st) .none kV doc pm an cdv ct) ⟨us, []⟩ = pure (ps.zip us))
    (a : PySem.W.nsIn K mainGlobals (Str.ofString key) = some (some (.ref f))) (l : K.lookup f = some ⟨oc, od, .func (PySem.W.fnOf (Str.ofString key) qual (defArgs st) (defBody st) (defScope st) .none kV doc pm an cdv ct), osl⟩)
    (c : PySem.W.codeIn K cdv qual = true) (k : PySem.W.keepIn K (.ref f) = true) :
    ∃ f fd, DefAt K mg ⟨key, qual, st, N, ps⟩ f fd := by
  have F := fun_mk (st := st) l c k
  exact ⟨f, _, F, S, PySem.W.mg_of X G a, F.binds hb, fun s us hl => .of_eq (hb kV doc pm an cdv ct us hl)⟩
theorem walkG {l : PySem.W.OpenLaw} {n k : Nat} {q : Program} {loose : List Str} {XP : (Str → Option Value) → Heap → Prop} {YP : World → Heap → Prop} {d : DefRec} {K : Params → PySem.W.Frag} {x : Str} {FT : FTab} {F : String} {cm : Str → Option Addr}
    (hn : l.most = some n) (hn2 : n ≤ sizeLine) (hdf : d.params.defaults = []) (hr : Room k callerA) (hY : ∀ (w : World) (h : Heap), YP w h → (K w.params).In h)
    (D : ∀ (w : World) (mg : Str → Option Value) (fa : Addr) (h : Heap), (K w.params).In h → h.Ns mainGlobals mg → mg d.name = some (.ref fa) →
      ∃ fd : FuncData, (∀ (s : Shared) (u : Value), BindsTo s fd ⟨[u], []⟩ [(x, u)]) ∧ ∀ base : Heap, FnG l.prog w (K w.params) mg base (L2.CX l.prog w) k fa fd [x] (spA ⟨K w.params, cm⟩ FT k F))
    (run : ∀ ns : List Int, ns.length ≤ n → runF FT k F [.fro (ns.map A.int)] (fun _ => none) (fun v _ => v = .bl true) (fun _ _ => False)) : PySem.W.WalkO q loose XP YP l.row.toRowW d [] (fun f vs => PySem.call f vs) := by
  refine Att.attach_call hn hdf fun w s₀ s₁ mg mb fa o pm cd doc a vs ns G Y ho hd hcd hmg hobj hints hlen hg => ?_
  have KX := hY w _ Y
  obtain ⟨fd, hb, hF⟩ := D w mg fa _ KX G.T.g hmg
  exact law_run (T := ⟨K w.params, cm⟩) KX G.T.g G.T.b G.T.builtins G.T.nolimit hg hobj hints (Nat.le_trans hlen hn2) hr rfl hF hb (run ns hlen)
end Q
/-! P1: frames, data, the drawing bag. -/
namespace Q
open PySem PySem.Spec PyProof.Rows L2
/-- nothing that is there changes -/
def Sub (G G' : Gp) : Prop := ∀ a o, G a = some o → G' a = some o
section
variable {G G1 G' : Gp} {a b p : Addr} {o o' : O}
theorem Sub.refl : Sub G G := fun _ _ h => h
theorem Sub.trans (h : Sub G G1) (k : Sub G1 G') : Sub G G' := fun a o e => k a o (h a o e)
theorem Sub.new (h : G p = none) : Sub G (up G p o) := fun a u e => by
  have : a ≠ p := fun z => by subst z; rw [h] at e; cases e
  rw [up_ne this]; exact e
/-- all but b -/
def rm (b : Addr) (G : Gp) : Gp := fun a => if a = b then none else G a
theorem rm_ne (h : a ≠ b) : rm b G a = G a := if_neg h
theorem rm_self : rm b G b = none := if_pos rfl
theorem rm_sub : Sub (rm b G) G := fun a o e => by
  by_cases h : a = b
  · subst h; rw [rm_self] at e; cases e
  · rwa [rm_ne h] at e
theorem rm_some (e : rm b G a = some o) : a ≠ b ∧ G a = some o := by
  by_cases h : a = b
  · subst h; rw [rm_self] at e; cases e
  · rw [rm_ne h] at e; exact ⟨h, e⟩
theorem rm_up : rm b (up G b o) = rm b G := by
  funext a
  by_cases h : a = b
  · subst h; rw [rm_self, rm_self]
  · rw [rm_ne h, rm_ne h, up_ne h]
theorem rm_mono (h : Sub G G') : Sub (rm b G) (rm b G') := fun a o e => by
  obtain ⟨n, e⟩ := rm_some e
  rw [rm_ne n]; exact h a o e
theorem rm_new (h : G p = none) : Sub (rm b G) (rm b (up G p o)) := rm_mono (.new h)
theorem up_up : up (up G b o) b o' = up G b o' := by
  funext a
  by_cases h : a = b
  · subst h; rw [up_same, up_same]
  · rw [up_ne h, up_ne h, up_ne h]
theorem ne_fresh (e : G a = some o) (h : G p = none) : a ≠ p := fun z => by subst z; rw [e] at h; cases h
end
/-! data -/
theorem optL_mono {α β : Type} {f g : α → Option β} : ∀ {xs : List α} {r : List β}, (∀ x ∈ xs, ∀ d, f x = some d → g x = some d) → optL f xs = some r → optL g xs = some r
  | [], _, _, h => h
  | x :: xs, r, k, h => by
    obtain ⟨a, b, h1, h2, rfl⟩ := optL_cons h
    simp only [optL]
    rw [k x (by simp) a h1, optL_mono (fun y hy => k y (by simp [hy])) h2]
theorem dat_mono {G G' : Gp} (s : Sub G G') : ∀ (n : Nat) (a : A) (d : PyData), dat n G a = some d → dat n G' a = some d := by
  intro n
  induction n with
  | zero => intro a d h; cases a <;> simp only [dat] at h ⊢ <;> first | exact h | cases h
  | succ n ih =>
    intro a d h
    cases a with
    | non => simpa only [dat] using h
    | bl _ => simpa only [dat] using h
    | int _ => simpa only [dat] using h
    | str _ => simpa only [dat] using h
    | tup xs =>
      simp only [dat, Option.map_eq_some_iff] at h ⊢
      obtain ⟨ds, h, e⟩ := h
      exact ⟨ds, optL_mono (fun x _ d h => ih x d h) h, e⟩
    | fro xs =>
      simp only [dat, Option.map_eq_some_iff] at h ⊢
      obtain ⟨ds, h, e⟩ := h
      exact ⟨ds, optL_mono (fun x _ d h => ih x d h) h, e⟩
    | ref p =>
      simp only [dat] at h ⊢
      cases hg : G p with
      | none => rw [hg] at h; cases h
      | some o =>
        rw [hg] at h; rw [s p o hg]
        cases o with
        | lst xs =>
          simp only [Option.map_eq_some_iff] at h ⊢
          obtain ⟨ds, h, e⟩ := h
          exact ⟨ds, optL_mono (fun x _ d h => ih x d h) h, e⟩
        | dct kvs =>
          simp only at h ⊢
          cases h1 : optL (fun p => dat n G p.1) kvs with
          | none => rw [h1] at h; cases h
          | some ks =>
            cases h2 : optL (fun p => dat n G p.2) kvs with
            | none => rw [h1, h2] at h; cases h
            | some ws =>
              rw [h1, h2] at h
              rw [optL_mono (f := fun p => dat n G p.1) (fun x _ d h => ih x.1 d h) h1, optL_mono (f := fun p => dat n G p.2) (fun x _ d h => ih x.2 d h) h2]
              exact h
        | ins _ _ => cases h
/-- the data of a value, to any depth of k or more -/
def Dat (k : Nat) (G : Gp) (a : A) (d : PyData) : Prop := ∀ n, k ≤ n → dat n G a = some d
section
variable {G G' : Gp} {k : Nat} {a : A} {d : PyData}
theorem Dat.mono (s : Sub G G') (h : Dat k G a d) : Dat k G' a d := fun n hn => dat_mono s n a d (h n hn)
theorem Dat.more {k' : Nat} (h : Dat k G a d) (l : k ≤ k') : Dat k' G a d := fun n hn => h n (by omega)
theorem Dat.non : Dat 0 G .non .none := fun n _ => by cases n <;> simp only [dat]
theorem Dat.bl {b : Bool} : Dat 0 G (.bl b) (.bool b) := fun n _ => by cases n <;> simp only [dat]
theorem Dat.int {b : Int} : Dat 0 G (.int b) (.int b) := fun n _ => by cases n <;> simp only [dat]
theorem Dat.str {b : Str} : Dat 0 G (.str b) (.str b) := fun n _ => by cases n <;> simp only [dat]
/-- data of several -/
inductive Dats (k : Nat) (G : Gp) : List A → List PyData → Prop where
  | nil : Dats k G [] []
  | cons {x : A} {d : PyData} {xs : List A} {ds : List PyData} : Dat k G x d → Dats k G xs ds → Dats k G (x :: xs) (d :: ds)
theorem Dats.opt {xs : List A} {ds : List PyData} (h : Dats k G xs ds) : ∀ n, k ≤ n → optL (dat n G) xs = some ds := by
  intro n hn
  induction h with
  | nil => rfl
  | cons h _ ih => simp only [optL]; rw [h n hn, ih]
theorem Dats.mono {xs : List A} {ds : List PyData} (s : Sub G G') (h : Dats k G xs ds) : Dats k G' xs ds := by
  induction h with
  | nil => exact .nil
  | cons h _ ih => exact .cons (h.mono s) ih
theorem Dat.tup {xs : List A} {ds : List PyData} (h : Dats k G xs ds) : Dat (k + 1) G (.tup xs) (.tuple ds) := fun n hn => by
  obtain ⟨m, rfl⟩ : ∃ m, n = m + 1 := ⟨n - 1, by omega⟩
  simp only [dat]; rw [h.opt m (by omega)]; rfl
theorem Dat.lst {xs : List A} {ds : List PyData} {p : Addr} (e : G p = some (.lst xs)) (h : Dats k G xs ds) : Dat (k + 1) G (.ref p) (.list ds) := fun n hn => by
  obtain ⟨m, rfl⟩ : ∃ m, n = m + 1 := ⟨n - 1, by omega⟩
  simp only [dat]; rw [e]; simp only; rw [h.opt m (by omega)]; rfl
theorem Dat.dct0 {p : Addr} (e : G p = some (.dct [])) : Dat 1 G (.ref p) (.dict []) := fun n hn => by
  obtain ⟨m, rfl⟩ : ∃ m, n = m + 1 := ⟨n - 1, by omega⟩
  simp only [dat]; rw [e]; rfl
end
/-! how the combinators compute -/
section
variable {G : Gp} {Q : KA} {a : A} {i j : Int}
theorem eq_int {neg : Bool} : eqA neg (.int i) (.int j) G Q = Q (.bl (if neg then !(i == j) else i == j)) G := by
  unfold eqA
  refine propext ⟨?_, fun h => .inl ⟨_, _, by simp only [dat]; rfl, by simp only [dat]; rfl, rfl, rfl, by simpa only [PyData.eqv] using h⟩⟩
  rintro (⟨d, e, h1, h2, _, _, q⟩ | ⟨xs, _, h, _⟩ | ⟨_, h, _⟩ | ⟨_, _, h, _⟩)
  · simp only [dat, Option.some.injEq] at h1 h2; subst h1 h2; simpa only [PyData.eqv] using q
  · cases h
  · cases h
  · cases h
theorem eq_str {neg : Bool} {x y : Str} : eqA neg (.str x) (.str y) G Q = Q (.bl (if neg then !(x == y) else x == y)) G := by
  unfold eqA
  refine propext ⟨?_, fun h => .inr (.inr (.inr ⟨_, _, rfl, rfl, by simpa only [bne] using h⟩))⟩
  rintro (⟨d, e, h1, h2, _, _, q⟩ | ⟨xs, _, h, _⟩ | ⟨_, h, _⟩ | ⟨_, _, h1, h2, q⟩)
  · simp only [dat, Option.some.injEq] at h1 h2; subst h1 h2; simpa only [PyData.eqv] using q
  · cases h
  · cases h
  · cases h1; cases h2; simpa only [bne] using q
/-- an item of a list at an address -/
theorem ix_ref {b : Addr} : ixA (.ref b) (.int i) G Q = (match G b with
    | some (.lst xs) => match atI xs i with
      | some x => Q x G
      | none => False
    | _ => False) := by
  simp only [ixA, seqOf]
  cases h : G b with
  | none => simp
  | some o =>
    cases o with
    | lst xs =>
      simp only [Option.some.injEq]
      cases e : atI xs i with
      | none => refine propext ⟨fun ⟨ys, x, h1, h2, _⟩ => ?_, False.elim⟩; subst h1; rw [e] at h2; cases h2
      | some x => exact propext ⟨fun ⟨ys, y, h1, h2, q⟩ => by subst h1; rw [e] at h2; cases h2; exact q, fun q => ⟨xs, x, rfl, e, q⟩⟩
    | dct _ => simp
    | ins _ _ => simp
theorem ix_tup {xs : List A} : ixA (.tup xs) (.int i) G Q = (match atI xs i with
      | some x => Q x G
      | none => False) := by
  simp only [ixA, seqOf, Option.some.injEq]
  cases e : atI xs i with
  | none => refine propext ⟨fun ⟨ys, x, h1, h2, _⟩ => ?_, False.elim⟩; subst h1; rw [e] at h2; cases h2
  | some x => exact propext ⟨fun ⟨ys, y, h1, h2, q⟩ => by subst h1; rw [e] at h2; cases h2; exact q, fun q => ⟨xs, x, rfl, e, q⟩⟩
theorem gset {b : Addr} {v : A} {ς : En} {Q : En → Gp → Prop} : (∃ p xs k j, A.ref b = .ref p ∧ A.int i = .int k ∧ G p = some (.lst xs) ∧ L2.ixN xs.length k = some j ∧ Q ς (up G p (.lst (xs.set j v)))) = (match G b with
    | some (.lst xs) => match L2.ixN xs.length i with
      | some j => Q ς (up G b (.lst (xs.set j v)))
      | none => False
    | _ => False) := by
  refine propext ⟨?_, fun h => ?_⟩
  · rintro ⟨p, xs, k, j, h1, h2, h3, h4, q⟩
    cases h1; cases h2
    rw [h3]; simp only; rw [h4]; exact q
  · split at h
    · rename_i xs e
      split at h
      · rename_i j e2
        exact ⟨b, xs, i, j, rfl, rfl, e, e2, h⟩
      · exact h.elim
    · exact h.elim
theorem at0 {α : Type} {x : α} {xs : List α} : L2.atI (x :: xs) 0 = some x := by
  unfold L2.atI L2.ixN
  rw [if_pos (by omega), if_pos (by simp only [List.length_cons]; omega)]; rfl
theorem at1 {α : Type} {x y : α} {xs : List α} : L2.atI (x :: y :: xs) 1 = some y := by
  unfold L2.atI L2.ixN
  rw [if_pos (by omega), if_pos (by simp only [List.length_cons]; omega)]; rfl
theorem at2 {α : Type} {x y z : α} {xs : List α} : L2.atI (x :: y :: z :: xs) 2 = some z := by
  unfold L2.atI L2.ixN
  rw [if_pos (by omega), if_pos (by simp only [List.length_cons]; omega)]; rfl
theorem at3 {α : Type} {x y z w : α} {xs : List α} : L2.atI (x :: y :: z :: w :: xs) 3 = some w := by
  unfold L2.atI L2.ixN
  rw [if_pos (by omega), if_pos (by simp only [List.length_cons]; omega)]; rfl
theorem atI_nat {α : Type} {xs : List α} {i : Nat} (h : i < xs.length) : L2.atI xs (i : Int) = some xs[i] := by
  unfold L2.atI L2.ixN
  rw [if_pos (by omega), if_pos (by omega)]
  simp [h]
theorem len_ref {b : Addr} : lenA [.ref b] G Q = (match G b with
    | some (.lst xs) => Q (.int xs.length) G
    | _ => False) := by
  simp only [lenA, seqOf]
  cases h : G b with
  | none => simp
  | some o =>
    cases o with
    | lst xs => simp only [Option.some.injEq]; exact propext ⟨fun ⟨ys, e, q⟩ => by subst e; exact q, fun q => ⟨_, rfl, q⟩⟩
    | dct _ => simp
    | ins _ _ => simp
theorem up_same' {b : Addr} {o : O} : up G b o b = some o := up_same
theorem seq_i {t u : SA} {D : Fl} {ς : En} (h : ∀ R : En → Gp → Prop, (∀ ς G, u D ς G → R ς G) → t { D with nx := R } ς G) : sSeq t u D ς G := h (u D) fun _ _ h => h
end
end Q
/-! P2: the bag and what is drawn from it. -/
namespace Q
open PySem PySem.Spec PyProof.Rows L2
def tk_bag (c : Cal) : SA := (sSeq (sRet (eLst (lCons (eC (.int 0)) (lCons (eC (.int 1234567891)) (lCons (eC (.int 0)) (lCons (eLc (iSeq (eSl (eVar 0) oNo (oSome (eC (.int 63))))) (gNm 1) bYes (eBi absA (lCons (eVar 1) lNil)) [1]) lNil))))))
  sNx)
def tk_take (c : Cal) : SA := (sSeq (sIf (bB (eBin (eqA false) (eBin ixA (eVar 0) (eC (.int 0))) (eC (.int 0)))) (sSeq (sSet (eC (.int 0)) (gNm 2))
  (sSeq (sIf (bB (eBin ltA (eBin ixA (eVar 0) (eC (.int 2))) (eBi lenA (lCons (eBin ixA (eVar 0) (eC (.int 3))) lNil)))) (sSeq (sSet (eBin ixA (eBin ixA (eVar 0) (eC (.int 3))) (eBin ixA (eVar 0) (eC (.int 2)))) (gNm 2))
  sNx) sNx)
  (sSeq (sAug (eVar 0) (eC (.int 2)) (eC (.int 1)))
  (sSeq (sIf (bB (eBin geA (eVar 2) (eC (.int 1000000000000000000)))) (sSeq (sSet (eVar 2) (gSub (eVar 0) (eC (.int 0))))
  sNx) sNx)
  (sSeq (sSet (eBin addA (eBin modA (eBi intOfA (lCons (eVar 2) lNil)) (eC (.int 2147483647))) (eBin mulA (eC (.int 7919)) (eBin ixA (eVar 0) (eC (.int 2))))) (gNm 3))
  (sSeq (sSet (eBin modA (eBi intOfA (lCons (eBin addA (eBin mulA (eBin ixA (eVar 0) (eC (.int 1))) (eC (.int 48271))) (eVar 3)) lNil)) (eC (.int 2147483647))) (gSub (eVar 0) (eC (.int 1))))
  sNx)))))) sNx)
  (sSeq (sIf (bB (eBin gtA (eBin ixA (eVar 0) (eC (.int 0))) (eC (.int 0)))) (sSeq (sSet (eBin modA (eBi intOfA (lCons (eBin ixA (eVar 0) (eC (.int 0))) lNil)) (eVar 1)) (gNm 4))
  (sSeq (sSet (eBin fdivA (eBin ixA (eVar 0) (eC (.int 0))) (eVar 1)) (gSub (eVar 0) (eC (.int 0))))
  (sSeq (sRet (eVar 4))
  sNx))) sNx)
  (sSeq (sSet (eBin modA (eBi intOfA (lCons (eBin mulA (eBin addA (eBin ixA (eVar 0) (eC (.int 1))) (eC (.int 1))) (eC (.int 39373))) lNil)) (eC (.int 1000000007))) (gNm 5))
  (sSeq (sSet (eBin modA (eBi intOfA (lCons (eBin mulA (eBin modA (eBi intOfA (lCons (eBin mulA (eVar 5) (eVar 5)) lNil)) (eC (.int 998244353))) (eC (.int 30011))) lNil)) (eC (.int 998244353))) (gNm 6))
  (sSeq (sIf (bB (eBin gtA (eVar 1) (eC (.int 1000000)))) (sSeq (sRet (eBin modA (eBi intOfA (lCons (eBin addA (eBin mulA (eVar 6) (eC (.int 1000000007))) (eVar 5)) lNil)) (eVar 1)))
  sNx) sNx)
  (sSeq (sRet (eBin modA (eBi intOfA (lCons (eBin fdivA (eVar 6) (eC (.int 7))) lNil)) (eVar 1)))
  sNx))))))
def tk_alike (c : Cal) : SA := (sSeq (sRet (eAnd (eBin (eqA false) (eVar 0) (eVar 1)) (eBin (eqA false) (eBi reprA (lCons (eVar 0) lNil)) (eBi reprA (lCons (eVar 1) lNil)))))
  sNx)

/-- the bag at b, P takes or fewer so far -/
def Bag (b : Addr) (P : Int) (G : Gp) : Prop := ∃ (w s p : Int) (c : Addr) (cells : List Int), G b = some (.lst [.int w, .int s, .int p, .ref c]) ∧ c ≠ b ∧ G c = some (.lst (cells.map A.int)) ∧ 0 ≤ w ∧ 0 ≤ s ∧ s < 2147483647 ∧ 0 ≤ p ∧ p ≤ P
theorem small_mul {i j : Int} (h1 : i.natAbs < 2 ^ 64) (h2 : j.natAbs < 2 ^ 64) : CMulW i j := by
  have f : ∀ n : Nat, n < 2 ^ 64 → n.log2 < 64 := fun n h => by
    by_cases z : n = 0
    · subst z; decide
    · exact (Nat.log2_lt z).mpr h
  have := f _ h1
  have := f _ h2
  unfold CMulW; omega
theorem take_ok {FT : FTab} {n : Nat} {b : Addr} {P many : Int} {G : Gp} {Q : KA} {X : KX} (hF : FT (Str.ofString "_law_take") = some ⟨2, 7, tk_take⟩) (B : Bag b P G) (hP : P ≤ 2 ^ 60) (h0 : 0 < many) (h1 : many.natAbs < 2 ^ 64)
    (q : ∀ d G', 0 ≤ d → d < many → Bag b (P + 1) G' → rm b G' = rm b G → Q (.int d) G') : runF FT (n + 1) "_law_take" [.ref b, .int many] G Q X := by
  obtain ⟨w, s, p, c, cells, hb, hcb, hc, w0, s0, s1, p0, p1⟩ := B
  refine ⟨_, hF, rfl, ?_⟩
  show tk_take (runF FT n) _ [some (.ref b), some (.int many), none, none, none, none, none] G
  unfold tk_take
  refine seq_i fun R hR => ?_
  have tail : ∀ (x y : Option A) (w s p : Int) (G' : Gp), G' b = some (.lst [.int w, .int s, .int p, .ref c]) → G' c = some (.lst (cells.map A.int)) → rm b G' = rm b G → 0 ≤ w → 0 ≤ s → s < 2147483647 → 0 ≤ p → p ≤ P + 1 →
      R [some (.ref b), some (.int many), x, y, none, none, none] G' := by
    intro x y w s p G' hb hc hr w0 s0 s1 p0 p1
    refine hR _ _ ?_
    refine seq_i fun R2 h2 => ?_
    have bag : ∀ (w' : Int) (G2 : Gp), 0 ≤ w' → G2 b = some (.lst [.int w', .int s, .int p, .ref c]) → rm b G2 = rm b G' → Bag b (P + 1) G2 := fun w' G2 hw e r =>
      ⟨w', s, p, c, cells, e, hcb, by have z := congrFun r c; rw [rm_ne hcb, rm_ne hcb] at z; rw [z]; exact hc, hw, s0, s1, p0, p1⟩
    have rest : R2 [some (.ref b), some (.int many), x, y, none, none, none] G' := by
      refine h2 _ _ ?_
      refine seq_i fun R3 h3 => ?_
      simp only [sSet, gNm, eBi, lCons, lNil, bB, eBin, eVar, eC, List.getElem?_cons_zero, List.getElem?_cons_succ, List.set_cons_zero, List.set_cons_succ, ix_ref, hb, hc, at0, at1, at2, at3, intOfA, addA, mulA, modA, intA]
      refine ⟨small_mul (by omega) (by decide), by decide, h3 _ _ ?_⟩
      refine seq_i fun R4 h4 => ?_
      generalize hf : (s + 1) * 39373 % 1000000007 = f
      have f0 : 0 ≤ f := by rw [← hf]; exact Int.emod_nonneg _ (by decide)
      have f1 : f < 1000000007 := by rw [← hf]; exact Int.emod_lt_of_pos _ (by decide)
      simp only [sSet, gNm, eBi, lCons, lNil, bB, eBin, eVar, eC, List.getElem?_cons_zero, List.getElem?_cons_succ, List.set_cons_zero, List.set_cons_succ, intOfA, addA, mulA, modA, intA]
      have g0 : 0 ≤ f * f % 998244353 := Int.emod_nonneg _ (by decide)
      have g1 : f * f % 998244353 < 998244353 := Int.emod_lt_of_pos _ (by decide)
      refine ⟨small_mul (by omega) (by omega), by decide, small_mul (by omega) (by decide), by decide, h4 _ _ ?_⟩
      generalize hg : f * f % 998244353 * 30011 % 998244353 = g
      have k0 : 0 ≤ g := by rw [← hg]; exact Int.emod_nonneg _ (by decide)
      have k1 : g < 998244353 := by rw [← hg]; exact Int.emod_lt_of_pos _ (by decide)
      refine seq_i fun R5 h5 => ?_
      simp only [sSeq, sRet, sIf, sNx, eBi, lCons, lNil, bB, eBin, eVar, eC, gtA, List.getElem?_cons_zero, List.getElem?_cons_succ, intOfA, addA, mulA, modA, intA, decide_eq_true_eq]
      have fin : ∀ z : Int, Q (.int (z % many)) G' := fun z => q _ _ (Int.emod_nonneg _ (by omega)) (Int.emod_lt_of_pos _ h0) (bag w G' w0 hb rfl) hr
      by_cases hm : 1000000 < many
      · rw [if_pos hm]
        exact ⟨small_mul (by omega) (by decide), h0, fin _⟩
      · rw [if_neg hm]
        refine h5 _ _ ?_
        simp only [sSeq, sRet, eBi, lCons, lNil, eBin, eVar, eC, List.getElem?_cons_zero, List.getElem?_cons_succ, intOfA, modA, fdivA, intA]
        exact ⟨⟨by decide, by decide⟩, h0, fin _⟩
    simp only [sSeq, sRet, sSet, gNm, gSub, sIf, sNx, eBi, lCons, lNil, bB, eBin, eVar, eC, gtA, List.getElem?_cons_zero, List.getElem?_cons_succ, List.set_cons_zero, List.set_cons_succ, ix_ref, hb, at0, intOfA, fdivA, modA, intA, decide_eq_true_eq]
    by_cases hw : 0 < w
    · rw [if_pos hw]
      refine ⟨h0, ⟨h0, ?_⟩, ?_⟩
      · by_cases z : many.natAbs = 0
        · rw [z]; decide
        · have := (Nat.log2_lt z).mpr h1; omega
      · refine ⟨b, _, 0, 0, rfl, rfl, hb, rfl, ?_⟩
        simp only [List.set_cons_zero]
        refine q _ _ (Int.emod_nonneg _ (by omega)) (Int.emod_lt_of_pos _ h0) (bag (w / many) _ (Int.ediv_nonneg w0 (by omega)) up_same rm_up) (rm_up.trans hr)
    · rw [if_neg hw]; exact rest
  simp only [sIf, sNx, bB, eBin, eVar, eC, List.getElem?_cons_zero, List.getElem?_cons_succ, ix_ref, hb, at0, eq_int, Bool.false_eq_true, if_false]
  by_cases hw : (w == 0) = true
  · rw [if_pos hw]
    refine seq_i fun R2 h2 => ?_
    simp only [sSet, gNm, eC, List.set_cons_zero, List.set_cons_succ]
    refine h2 _ _ ?_
    refine seq_i fun R3 h3 => ?_
    have go : ∀ z : Int, R3 [some (.ref b), some (.int many), some (.int z), none, none, none, none] G := by
      intro z
      refine h3 _ _ ?_
      refine seq_i fun R4 h4 => ?_
      simp only [sAug, eVar, eC, List.getElem?_cons_zero]
      refine ⟨b, _, 2, p, rfl, rfl, hb, by decide, rfl, 1, _, rfl, hb, (by show 2 < 4; decide), h4 _ _ ?_⟩
      refine seq_i fun R5 h5 => ?_
      have go2 : ∀ w' G2, 0 ≤ w' → G2 b = some (.lst [.int w', .int s, .int (p + 1), .ref c]) → rm b G2 = rm b G → R5 [some (.ref b), some (.int many), some (.int z), none, none, none, none] G2 := by
        intro w' G2 hw' e2 r2
        refine h5 _ _ ?_
        refine seq_i fun R6 h6 => ?_
        simp only [sSet, gNm, eBi, lCons, lNil, eBin, eVar, eC, List.getElem?_cons_zero, List.getElem?_cons_succ, List.set_cons_zero, List.set_cons_succ, ix_ref, e2, at0, at1, at2, at3, intOfA, addA, mulA, modA, intA]
        refine ⟨by decide, small_mul (by decide) (by omega), h6 _ _ ?_⟩
        refine seq_i fun R7 h7 => ?_
        have m0 : 0 ≤ z % 2147483647 := Int.emod_nonneg _ (by decide)
        simp only [sSet, gNm, gSub, eBi, lCons, lNil, eBin, eVar, eC, List.getElem?_cons_zero, List.getElem?_cons_succ, List.set_cons_zero, List.set_cons_succ, ix_ref, e2, at0, at1, at2, at3, intOfA, addA, mulA, modA, intA]
        refine ⟨small_mul (by omega) (by decide), by decide, b, _, 1, 1, rfl, rfl, e2, rfl, ?_⟩
        simp only [List.set_cons_zero, List.set_cons_succ]
        refine h7 _ _ ?_
        simp only [sNx]
        refine tail _ _ w' _ (p + 1) _ up_same ?_ (rm_up.trans r2) hw' (Int.emod_nonneg _ (by decide)) (Int.emod_lt_of_pos _ (by decide)) (by omega) (by omega)
        rw [up_ne hcb]
        have y := congrFun r2 c
        rw [rm_ne hcb, rm_ne hcb] at y
        rw [y]; exact hc
      simp only [sSeq, sSet, sIf, sNx, gNm, gSub, bB, eBin, eVar, eC, geA, List.getElem?_cons_zero, List.getElem?_cons_succ, up_same, decide_eq_true_eq]
      by_cases hz : 1000000000000000000 ≤ z
      · rw [if_pos hz]
        refine ⟨b, [A.int w, .int s, .int (p + 1), .ref c], 0, 0, rfl, rfl, by first | exact rfl | exact up_same, rfl, ?_⟩
        simp only [up_up]
        exact go2 z _ (by omega) up_same rm_up
      · rw [if_neg hz]
        exact go2 w _ w0 up_same rm_up
    simp only [sIf, sNx, sSeq, sSet, gNm, eBi, lCons, lNil, bB, eBin, eVar, eC, List.getElem?_cons_zero, List.getElem?_cons_succ, List.set_cons_zero, List.set_cons_succ, ix_ref, hb, hc, at0, at2, at3, ltA, len_ref, List.length_map, decide_eq_true_eq]
    by_cases hl : p < cells.length
    · rw [if_pos hl]
      have e : L2.atI (cells.map A.int) p = some (.int (cells[p.toNat]'(by omega))) := by
        obtain ⟨i, rfl⟩ : ∃ i : Nat, p = i := ⟨p.toNat, by omega⟩
        rw [atI_nat (by simp; omega)]
        simp
      rw [e]
      exact go _
    · rw [if_neg hl]
      exact go _
  · rw [if_neg hw]
    exact tail _ _ w s p G hb hc rfl w0 s0 s1 p0 (by omega)
end Q
/-! P3: texts: of which signs, how long. -/
namespace Q
open PySem PySem.Spec PyProof.Rows L2
/-- a text of signs with q, L or fewer -/
def Cs (q : Nat → Prop) (L : Nat) (z : Str) : Prop := z.length ≤ L ∧ ∀ c ∈ z.cps.toList, q c
section
variable {q : Nat → Prop} {L M : Nat} {x y : Str}
theorem len_list (z : Str) : z.length = z.cps.toList.length := rfl
theorem Cs.more (h : Cs q L x) (l : L ≤ M) : Cs q M x := ⟨Nat.le_trans h.1 l, h.2⟩
theorem Cs.imp {r : Nat → Prop} (h : Cs q L x) (k : ∀ c, q c → r c) : Cs r L x := ⟨h.1, fun c m => k c (h.2 c m)⟩
theorem app_list (x y : Str) : (x ++ y).cps.toList = x.cps.toList ++ y.cps.toList := by
  show (x.cps ++ y.cps).toList = _
  simp
theorem len_app (x y : Str) : (x ++ y).length = x.length + y.length := by
  rw [len_list, len_list, len_list, app_list, List.length_append]
theorem Cs.app (h : Cs q L x) (k : Cs q M y) : Cs q (L + M) (x ++ y) := by
  refine ⟨by rw [len_app]; exact Nat.add_le_add h.1 k.1, fun c m => ?_⟩
  rw [app_list] at m
  rcases List.mem_append.mp m with m | m
  · exact h.2 c m
  · exact k.2 c m
theorem Cs.cut {lo hi : Option Int} (h : Cs q L x) : Cs q L (cutS x lo hi) := by
  unfold cutS
  refine ⟨?_, fun c m => h.2 c (List.mem_of_mem_drop (List.mem_of_mem_take m))⟩
  have := h.1
  rw [len_list] at this ⊢
  simp only [List.length_take, List.length_drop]
  omega
theorem Cs.one {c : Nat} (h : q c) : Cs q 1 ⟨#[c]⟩ := ⟨Nat.le_refl _, fun d m => by simp at m; subst m; exact h⟩
theorem Cs.nil : Cs q 0 Str.empty := ⟨Nat.le_refl _, fun c m => by simp [Str.empty] at m⟩
theorem rep_list (a : Array Nat) : ∀ (n : Nat) (acc : Array Nat), ((List.replicate n a).foldl (· ++ ·) acc).toList = acc.toList ++ (List.replicate n a.toList).flatten
  | 0, acc => by simp
  | n + 1, acc => by
    rw [List.replicate_succ, List.foldl_cons, rep_list a n, List.replicate_succ, List.flatten_cons]
    simp
theorem Cs.mul {n : Nat} {k : Int} (h : Cs q L x) (hk : k ≤ n) : Cs q (n * L) (Txt.mul x k) := by
  unfold Txt.mul
  split
  · exact Cs.nil.more (Nat.zero_le _)
  · rename_i h1
    have hn : 1 ≤ n := by omega
    split
    · exact h.more (by calc L = 1 * L := (Nat.one_mul _).symm
                           _ ≤ n * L := Nat.mul_le_mul_right _ hn)
    · have e := rep_list x.cps k.toNat #[]
      refine ⟨?_, fun c m => ?_⟩
      · rw [len_list, e]
        simp only [List.nil_append, List.length_flatten, List.map_replicate, List.sum_replicate_nat]
        exact Nat.mul_le_mul (by omega) h.1
      · rw [e] at m
        simp only [List.nil_append, List.mem_flatten, List.mem_replicate] at m
        obtain ⟨l, ⟨_, rfl⟩, m⟩ := m
        exact h.2 c m
theorem MulOk.small {k : Int} (h : x.length ≤ 1000) (h1 : k ≤ 1000) (h0 : -1000 ≤ k) : MulOk x k := by
  have e : (2 : Int) ^ 63 = 9223372036854775808 := by decide
  refine ⟨?_, fun a _ => ?_, fun a _ => ?_⟩
  · simp; omega
  · have hp : 0 < k := by omega
    have : (2 ^ 63 - 1) / 1000 ≤ (2 ^ 63 - 1 : Int) / k := by
      apply Int.le_ediv_of_mul_le hp
      have : ((2 ^ 63 - 1 : Int) / 1000) * k ≤ ((2 ^ 63 - 1) / 1000) * 1000 := Int.mul_le_mul_of_nonneg_left h1 (by decide)
      refine Int.le_trans this (by decide)
    have e2 : (2 ^ 63 - 1 : Int) / 1000 = 9223372036854775 := by decide
    omega
  · have : x.length * k.toNat ≤ 1000 * 1000 := Nat.mul_le_mul h (by omega)
    unfold PySem.Builtin.Str.tooLong sizeLine
    simp; omega
theorem glue_list : ∀ (ps : List Str) (acc : Array Nat), (ps.foldl (fun acc p => acc ++ (#[] : Array Nat) ++ p.cps) acc).toList = acc.toList ++ (ps.map (·.cps.toList)).flatten
  | [], acc => by simp
  | p :: ps, acc => by
    rw [List.foldl_cons, glue_list ps, List.map_cons, List.flatten_cons]
    simp
theorem join_list (ys : List Str) : (Txt.join (Str.ofString "") ys).cps.toList = (ys.map (·.cps.toList)).flatten := by
  show ((ys.drop 1).foldl (fun acc p => acc ++ (#[] : Array Nat) ++ p.cps) (ys.headD Str.empty).cps).toList = _
  cases ys with
  | nil => rfl
  | cons y ys => rw [glue_list]; rfl
theorem Cs.join {ys : List Str} (h : ∀ y ∈ ys, Cs q 1 y) : Cs q ys.length (Txt.join (Str.ofString "") ys) := by
  refine ⟨?_, fun c m => ?_⟩
  · rw [len_list, join_list]
    induction ys with
    | nil => exact Nat.le_refl _
    | cons y ys ih =>
      have h1 := (h y (by simp)).1
      have h2 := ih fun z m => h z (by simp [m])
      rw [len_list] at h1
      simp only [List.map_cons, List.flatten_cons, List.length_append, List.length_cons]
      omega
  · rw [join_list] at m
    simp only [List.mem_flatten, List.mem_map] at m
    obtain ⟨l, ⟨y, hy, rfl⟩, m⟩ := m
    exact (h y hy).2 c m
theorem Cs.lens {ys : List Str} (h : ∀ y ∈ ys, Cs q L y) : (ys.map (·.length)).sum ≤ ys.length * L := by
  induction ys with
  | nil => simp
  | cons y ys ih =>
    have h1 := (h y (by simp)).1
    have h2 := ih fun z m => h z (by simp [m])
    simp only [List.map_cons, List.sum_cons, List.length_cons, Nat.succ_mul]
    omega
end
/-- small letters -/
def low (c : Nat) : Prop := 97 ≤ c ∧ c ≤ 122
def asc (c : Nat) : Prop := c < 128
theorem low_asc {c : Nat} (h : low c) : asc c := by unfold low at h; unfold asc; omega
instance (c : Nat) : Decidable (low c) := by unfold low; infer_instance
instance (c : Nat) : Decidable (asc c) := by unfold asc; infer_instance
def abc : Str := Str.ofString "abcdefghijklmnopqrstuvwxyz"
theorem abc_low : ∀ c ∈ abc.cps.toList, low c := by decide +kernel
theorem abc_len : abc.cps.toList.length = 26 := by decide +kernel
theorem char_at {q : Nat → Prop} {z : Str} (h : ∀ c ∈ z.cps.toList, q c) {i : Int} (h0 : 0 ≤ i) (h1 : i < z.cps.toList.length) : ∃ c, L2.atI z.cps.toList i = some c ∧ q c := by
  obtain ⟨k, rfl⟩ : ∃ k : Nat, i = k := ⟨i.toNat, by omega⟩
  exact ⟨_, atI_nat (by omega), h _ (List.getElem_mem _)⟩
end Q
/-! P4: the bag's making; the labels. -/
namespace Q
open PySem PySem.Spec PyProof.Rows L2
section
variable {G G' : Gp} {b p a : Addr} {P : Int} {o : O}
theorem Bag.more {P' : Int} (h : Bag b P G) (l : P ≤ P') : Bag b P' G := by
  obtain ⟨w, s, q, c, cells, h1, h2, h3, h4, h5, h6, h7, h8⟩ := h
  exact ⟨w, s, q, c, cells, h1, h2, h3, h4, h5, h6, h7, by omega⟩
theorem Bag.ne (h : Bag b P G) (hp : G p = none) : p ≠ b := by
  obtain ⟨w, s, q, c, cells, h1, h2, h3, h4, h5, h6, h7, h8⟩ := h
  rintro rfl; rw [hp] at h1; cases h1
theorem Bag.new (h : Bag b P G) (hp : G p = none) : Bag b P (up G p o) := by
  obtain ⟨w, s, q, c, cells, h1, h2, h3, h4, h5, h6, h7, h8⟩ := h
  have e : ∀ {x : Addr} {u : O}, G x = some u → up G p o x = some u := fun {x u} z => Sub.new hp _ _ z
  exact ⟨w, s, q, c, cells, e h1, h2, e h3, h4, h5, h6, h7, h8⟩
theorem Bag.sub (h : Bag b P G) (s : Sub G G') : Bag b P G' := by
  obtain ⟨w, s', q, c, cells, h1, h2, h3, h4, h5, h6, h7, h8⟩ := h
  exact ⟨w, s', q, c, cells, s _ _ h1, h2, s _ _ h3, h4, h5, h6, h7, h8⟩
theorem Bag.at (h : Bag b P G) : G b ≠ none := by
  obtain ⟨w, s', q, c, cells, h1, h2, h3, h4, h5, h6, h7, h8⟩ := h
  rw [h1]; simp
theorem keep (r : rm b G' = rm b G) (n : a ≠ b) (e : G a = some o) : G' a = some o := by
  have z := congrFun r a
  rw [rm_ne n, rm_ne n] at z
  rw [z]; exact e
theorem keepS (r : Sub (rm b G) (rm b G')) (n : a ≠ b) (e : G a = some o) : G' a = some o := by
  have z := r a o (by rw [rm_ne n]; exact e)
  rwa [rm_ne n] at z
theorem sub_eq (r : rm b G' = rm b G) : Sub (rm b G) (rm b G') := by rw [r]; exact .refl
end
theorem lc_inv {i : Nat} {te : EA} {vs : List Nat} {chk : Gp → Prop} {Qf : List A → Gp → Prop} {ς : En} (N : Nat) (hN : N ≤ sizeLine) (I : List A → Gp → Prop) (hc : ∀ acc G, I acc G → chk G) : ∀ (xs acc : List A) (G : Gp),
    (∀ x ∈ xs, ∀ acc G Q, acc.length < N → I acc G → (∀ y G', I (acc ++ [y]) G' → Q y G') → te ((wipeA ς vs).set i (some x)) G Q (fun _ _ => False)) →
    I acc G → acc.length + xs.length ≤ N → (∀ acc' G', acc'.length = acc.length + xs.length → I acc' G' → Qf acc' G') → lcR (gNm i) bYes te vs chk Qf xs acc ς G
  | [], acc, G, _, h, _, q => ⟨hc acc G h, q acc G rfl h⟩
  | x :: xs, acc, G, st, h, l, q => by
    refine ⟨hc acc G h, ?_⟩
    simp only [gNm, bYes, if_true]
    simp only [List.length_cons] at l
    refine st x (by simp) acc G _ (by omega) h fun y G' h' => ⟨by omega, ?_⟩
    refine lc_inv N hN I hc xs (acc ++ [y]) G' (fun z m => st z (by simp [m])) h' (by simp only [List.length_append, List.length_cons, List.length_nil]; omega) fun acc' G2 l2 h2 => q acc' G2 ?_ h2
    simp only [List.length_cons, List.length_append, List.length_nil] at l2 ⊢
    omega
theorem bag_ok {FT : FTab} {n : Nat} {G : Gp} {ns : List Int} {Q : KA} {X : KX} (hF : FT (Str.ofString "_law_bag") = some ⟨1, 2, tk_bag⟩)
    (q : ∀ b G', Bag b 0 G' → Sub G G' → Q (.ref b) G') : runF FT (n + 1) "_law_bag" [.fro (ns.map .int)] G Q X := by
  refine ⟨_, hF, rfl, ?_⟩
  show tk_bag (runF FT n) _ [some (.fro (ns.map .int)), none] G
  simp only [tk_bag, sSeq, sRet, eLst, lCons, lNil, eC, eLc, iSeq, eSl, oNo, oSome, eVar, List.getElem?_cons_zero, slA]
  refine ⟨_, rfl, fun p hp => ?_⟩
  simp only [itOf, up_same]
  have hl : (cutA (ns.map A.int) none (some 63)).length ≤ 63 := by
    unfold cutA
    simp only [HT.sIx, List.length_take, List.length_drop, List.length_map]
    simp; omega
  refine lc_inv 63 (by decide) (fun acc G2 => ∃ cells : List Int, acc = cells.map A.int ∧ G2 = up G p (.lst (cutA (ns.map A.int) none (some 63)))) ?_ _ _ _ ?_ ⟨[], rfl, rfl⟩ (by simp only [List.length_nil]; omega) ?_
  · rintro acc G2 ⟨cells, _, rfl⟩
    exact up_same
  · rintro x hx acc G2 Q2 _ ⟨cells, rfl, rfl⟩ q2
    obtain ⟨i, rfl⟩ : ∃ i : Int, x = .int i := by
      have := List.mem_of_mem_drop (List.mem_of_mem_take hx)
      simp only [List.mem_map] at this
      obtain ⟨i, _, e⟩ := this
      exact ⟨i, e.symm⟩
    simp only [wipeA, eBi, absA, lCons, lNil, eVar, List.set_cons_zero, List.set_cons_succ, List.getElem?_cons_zero, List.getElem?_cons_succ]
    refine ⟨i, rfl, q2 _ _ ⟨cells ++ [if i < 0 then -i else i], by simp, rfl⟩⟩
  · rintro acc G2 hl2 ⟨cells, rfl, rfl⟩
    intro c hc
    refine ⟨(by show 4 ≤ sizeLine; decide), fun b hb => q b _ ?_ ?_⟩
    · have hcb : c ≠ b := ne_fresh (up_same (G := up G p _) (a := c)) hb
      exact ⟨0, 1234567891, 0, c, cells, up_same, hcb, by rw [up_ne hcb, up_same], by decide, by decide, by decide, by decide, by decide⟩
    · exact (Sub.new hp).trans ((Sub.new hc).trans (Sub.new hb))
def tk_labels (c : Cal) : SA := (sSeq (sSet (eC (.str (Str.ofString "abcdefghijklmnopqrstuvwxyz"))) (gNm 2))
  (sSeq (sSet (eM "str" splitA (eC (.str (Str.ofString "a b edge path go put take rule drop back again result facts rules ask why idle bare rounds"))) (lCons (eC (.str (Str.ofString " "))) lNil)) (gNm 3))
  (sSeq (sSet (eBin addA (eVar 3) (eLst (lCons (eC (.str (Str.ofString "x"))) (lCons (eC (.str (Str.ofString "y"))) (lCons (eC (.str (Str.ofString "va"))) (lCons (eC (.str (Str.ofString "vb"))) (lCons (eC (.str (Str.ofString "wall"))) lNil))))))) (gNm 3))
  (sSeq (sSet (eTup (lCons (eCall c "_law_take" (lCons (eVar 0) (lCons (eC (.int 4)) lNil))) (lCons (eCall c "_law_take" (lCons (eVar 0) (lCons (eC (.int 24)) lNil))) lNil))) (gTup [4, 5]))
  (sSeq (sSet (eM "str" joinA (eC (.str (Str.ofString ""))) (lCons (eLc (iRng1 (eBin addA (eC (.int 1)) (eCall c "_law_take" (lCons (eVar 0) (lCons (eC (.int 7)) lNil))))) (gNm 7) bYes (eBin ixA (eVar 2) (eCall c "_law_take" (lCons (eVar 0) (lCons (eC (.int 26)) lNil)))) [7]) lNil)) (gNm 6))
  (sSeq (sSet (eTup (lCons (eCall c "_law_take" (lCons (eVar 0) (lCons (eBin addA (eBi lenA (lCons (eVar 6) lNil)) (eC (.int 1))) lNil))) (lCons (eBin fdivA (eVar 4) (eC (.int 3))) lNil))) (gTup [8, 9]))
  (sSeq (sIf (bB (eBin (eqA false) (eVar 4) (eC (.int 0)))) (sSeq (sRet (eSl (eBin addA (eSl (eVar 3) (oSome (eVar 5)) oNo) (eSl (eVar 3) oNo (oSome (eVar 5)))) oNo (oSome (eVar 1))))
  sNx) sNx)
  (sSeq (sSet (eLc (iRng1 (eVar 1)) (gNm 7) bYes (eBin mulA (eBin ixA (eVar 2) (eBin modA (eBi intOfA (lCons (eBin addA (eVar 5) (eBin ixA (eLst (lCons (eBin mulA (eC (.int 3)) (eVar 7)) (lCons (eBin fdivA (eVar 7) (eC (.int 8))) lNil))) (eVar 9))) lNil)) (eC (.int 26)))) (eBin addA (eC (.int 1)) (eBin mulA (eBin modA (eBi intOfA (lCons (eVar 7) lNil)) (eC (.int 8))) (eVar 9)))) [7]) (gNm 10))
  (sSeq (sSet (eBin mulA (eVar 6) (eBi intOfA (lCons (eBin (eqA false) (eVar 4) (eC (.int 2))) lNil))) (gNm 6))
  (sSeq (sRet (eLc (iRng1 (eVar 1)) (gNm 7) bYes (eBin addA (eBin addA (eSl (eVar 6) oNo (oSome (eVar 8))) (eBin ixA (eVar 10) (eVar 7))) (eSl (eVar 6) (oSome (eVar 8)) oNo)) [7]))
  sNx))))))))))


def mnu : Str := Str.ofString "a b edge path go put take rule drop back again result facts rules ask why idle bare rounds"
def men : List Str := Txt.split mnu (Str.ofString " ")
def men5 : List Str := ["x", "y", "va", "vb", "wall"].map Str.ofString
instance (q : Nat → Prop) [DecidablePred q] (L : Nat) (z : Str) : Decidable (Cs q L z) := by unfold Cs; infer_instance
theorem men_low : ∀ z ∈ men ++ men5, Cs low 24 z := by decide +kernel
theorem men_len : (men ++ men5).length = 24 := by decide +kernel
theorem cut_map {α β : Type} (f : α → β) (xs : List α) (lo hi : Option Int) : cutA (xs.map f) lo hi = (cutA xs lo hi).map f := by
  unfold cutA
  simp only [List.length_map, List.map_take, List.map_drop]
theorem cut_mem {α : Type} {xs : List α} {lo hi : Option Int} {x : α} (h : x ∈ cutA xs lo hi) : x ∈ xs := List.mem_of_mem_drop (List.mem_of_mem_take h)
theorem cut_pre {α : Type} {xs : List α} {k : Int} (h0 : 0 ≤ k) (h1 : k ≤ xs.length) : (cutA xs none (some k)).length = k.toNat := by
  unfold cutA
  simp only [HT.sIx, List.length_take, List.length_drop]
  rw [if_neg (by omega)]; omega
theorem cut_suf {α : Type} {xs : List α} {k : Int} (h0 : 0 ≤ k) (h1 : k ≤ xs.length) : (cutA xs (some k) none).length = xs.length - k.toNat := by
  unfold cutA
  simp only [HT.sIx, List.length_take, List.length_drop]
  rw [if_neg (by omega)]; omega
theorem labels_ok {FT : FTab} {n : Nat} {b : Addr} {P many : Int} {G : Gp} {Q : KA} {X : KX} (hT : FT (Str.ofString "_law_take") = some ⟨2, 7, tk_take⟩) (hF : FT (Str.ofString "_law_labels") = some ⟨2, 11, tk_labels⟩)
    (B : Bag b P G) (hP : P ≤ 2 ^ 59) (h0 : 0 ≤ many) (h1 : many ≤ 24)
    (q : ∀ r (ws : List Str) G', r ≠ b → G' r = some (.lst (ws.map A.str)) → (ws.length : Int) = many → (∀ z ∈ ws, Cs low 24 z) → Bag b (P + 20) G' → Sub (rm b G) (rm b G') → Q (.ref r) G') : runF FT (n + 2) "_law_labels" [.ref b, .int many] G Q X := by
  refine ⟨_, hF, rfl, ?_⟩
  show tk_labels (runF FT (n + 1)) _ [some (.ref b), some (.int many), none, none, none, none, none, none, none, none, none] G
  have hbn : (2 : Int) ^ 59 = 576460752303423488 := by decide
  have hbm : (2 : Int) ^ 60 = 1152921504606846976 := by decide
  unfold tk_labels
  refine seq_i fun R hR => ?_
  simp only [sSet, eC, gNm, List.set_cons_zero, List.set_cons_succ]
  refine hR _ _ ?_
  clear hR R
  refine seq_i fun R hR => ?_
  simp only [sSet, eM, eC, gNm, lCons, lNil, tyA, splitA, List.set_cons_zero, List.set_cons_succ]
  refine ⟨trivial, _, _, rfl, rfl, by decide +kernel, by decide +kernel, fun p1 e1 => ?_⟩
  refine hR _ _ ?_
  clear hR R
  refine seq_i fun R hR => ?_
  simp only [sSet, eBin, eC, eVar, gNm, eLst, lCons, lNil, List.getElem?_cons_zero, List.getElem?_cons_succ, List.set_cons_zero, List.set_cons_succ]
  refine ⟨(by show 5 ≤ sizeLine; decide), fun p2 e2 => ?_⟩
  have n12 : p1 ≠ p2 := ne_fresh (up_same (G := G) (a := p1)) e2
  simp only [addA, up_same, up_ne n12]
  refine ⟨(by decide +kernel), fun p3 e3 => ?_⟩
  refine hR _ _ ?_
  clear hR R
  have em : (Txt.split (Str.ofString "a b edge path go put take rule drop back again result facts rules ask why idle bare rounds") (Str.ofString " ")).map A.str ++ [A.str (Str.ofString "x"), .str (Str.ofString "y"), .str (Str.ofString "va"), .str (Str.ofString "vb"), .str (Str.ofString "wall")] = (men ++ men5).map A.str := by
    rw [List.map_append]; rfl
  have g3 := up_same (G := up (up G p1 (.lst ((Txt.split (Str.ofString "a b edge path go put take rule drop back again result facts rules ask why idle bare rounds") (Str.ofString " ")).map A.str))) p2 (.lst [A.str (Str.ofString "x"), .str (Str.ofString "y"), .str (Str.ofString "va"), .str (Str.ofString "vb"), .str (Str.ofString "wall")])) (a := p3) (o := .lst ((Txt.split (Str.ofString "a b edge path go put take rule drop back again result facts rules ask why idle bare rounds") (Str.ofString " ")).map A.str ++ [A.str (Str.ofString "x"), .str (Str.ofString "y"), .str (Str.ofString "va"), .str (Str.ofString "vb"), .str (Str.ofString "wall")]))
  rw [em] at g3 ⊢
  have B1 := B.new (o := (.lst ((Txt.split (Str.ofString "a b edge path go put take rule drop back again result facts rules ask why idle bare rounds") (Str.ofString " ")).map A.str))) e1
  have B2 := B1.new (o := (.lst [A.str (Str.ofString "x"), .str (Str.ofString "y"), .str (Str.ofString "va"), .str (Str.ofString "vb"), .str (Str.ofString "wall")])) e2
  have nb3 := B2.ne e3
  have B3 := B2.new (o := .lst ((men ++ men5).map A.str)) e3
  have S3 : Sub (rm b G) (rm b (up (up (up G p1 (.lst ((Txt.split (Str.ofString "a b edge path go put take rule drop back again result facts rules ask why idle bare rounds") (Str.ofString " ")).map A.str))) p2 (.lst [A.str (Str.ofString "x"), .str (Str.ofString "y"), .str (Str.ofString "va"), .str (Str.ofString "vb"), .str (Str.ofString "wall")])) p3 (.lst ((men ++ men5).map A.str)))) :=
    (rm_new e1).trans ((rm_new e2).trans (rm_new e3))
  generalize up (up (up G p1 (.lst ((Txt.split (Str.ofString "a b edge path go put take rule drop back again result facts rules ask why idle bare rounds") (Str.ofString " ")).map A.str))) p2 (.lst [A.str (Str.ofString "x"), .str (Str.ofString "y"), .str (Str.ofString "va"), .str (Str.ofString "vb"), .str (Str.ofString "wall")])) p3 (.lst ((men ++ men5).map A.str)) = G3 at g3 B3 S3 ⊢
  clear em B1 B2 e1 e2 e3 n12
  refine seq_i fun R hR => ?_
  simp only [sSet, eTup, eCall, eC, eVar, gTup, gTs, lCons, lNil, List.getElem?_cons_zero, List.getElem?_cons_succ, List.set_cons_zero, List.set_cons_succ]
  refine take_ok hT B3 (by omega) (by decide) (by decide) fun way G4 w0 w1 B4 r4 => ?_
  refine take_ok hT B4 (by omega) (by decide) (by decide) fun turn G5 t0 t1 B5 r5 => ?_
  refine ⟨(by show 2 ≤ sizeLine; decide), rfl, hR _ _ ?_⟩
  clear hR R
  have g5 := keep r5 nb3 (keep r4 nb3 g3)
  have S5 : Sub (rm b G) (rm b G5) := by rw [r5, r4]; exact S3
  refine seq_i fun R hR => ?_
  simp only [sSet, eM, eC, eVar, eLc, iRng1, eBin, eCall, gNm, addA, lCons, lNil, List.getElem?_cons_zero, List.getElem?_cons_succ, List.set_cons_zero, List.set_cons_succ, tyA, true_and]
  refine take_ok hT B5 (by omega) (by decide) (by decide) fun d6 G6 d60 d61 B6 r6 => ?_
  refine ⟨by omega, by omega, ?_⟩
  refine lc_inv 7 (by decide) (fun acc G' => ∃ ys : List Str, acc = ys.map A.str ∧ (∀ y ∈ ys, Cs low 1 y) ∧ Bag b (P + 3 + ys.length) G' ∧ rm b G' = rm b G6) (fun _ _ _ => trivial) _ _ _ ?_ ⟨[], rfl, by simp, by simpa using B6.more (by omega), rfl⟩ (by simp only [List.length_nil, List.length_map, List.length_range]; omega) ?_
  · rintro x hx acc Gx Qx hl ⟨ys, rfl, hy, Bx, rx⟩ qx
    simp only [List.length_map] at hl
    simp only [wipeA, eBin, eCall, eC, eVar, lCons, lNil, ixA, List.set_cons_zero, List.set_cons_succ, List.getElem?_cons_zero, List.getElem?_cons_succ]
    refine take_ok (many := 26) hT Bx (by omega) (by decide) (by decide) fun d Gy y0 y1 By ry => ?_
    obtain ⟨c, ec, hcl⟩ := char_at abc_low y0 (by rw [abc_len]; omega)
    refine ⟨by decide, c, ec, qx _ _ ⟨ys ++ [⟨#[c]⟩], by simp, ?_, by simpa [Int.add_assoc] using By, ry.trans rx⟩⟩
    intro y my
    rcases List.mem_append.mp my with my | my
    · exact hy y my
    · simp at my; subst my; exact Cs.one hcl
  rintro acc G7 hl7 ⟨ys, rfl, hy, B7, r7⟩
  simp only [List.length_map, List.length_range, List.length_nil, Nat.zero_add] at hl7
  have hys : ys.length ≤ 7 := by omega
  intro p7 e7
  simp only [joinA]
  have hlens := Cs.lens hy
  refine ⟨_, _, ys, rfl, rfl, by simp only [seqOf, up_same], ?_, ?_⟩
  · have z : (Str.ofString "").length = 0 := by decide +kernel
    rw [z]; omega
  have hstem : Cs low 7 (Txt.join (Str.ofString "") ys) := (Cs.join hy).more hys
  generalize Txt.join (Str.ofString "") ys = stem at hstem ⊢
  have nb7 := B7.ne e7
  have g7 : up G7 p7 (.lst (ys.map A.str)) p3 = some (.lst ((men ++ men5).map A.str)) := Sub.new e7 _ _ (keep r7 nb3 (keep r6 nb3 g5))
  have S7 : Sub (rm b G) (rm b (up G7 p7 (.lst (ys.map A.str)))) := by
    refine Sub.trans ?_ (rm_new e7)
    rw [r7, r6]; exact S5
  have B7' : Bag b (P + 10) (up G7 p7 (.lst (ys.map A.str))) := (B7.new e7).more (by omega)
  generalize up G7 p7 (.lst (ys.map A.str)) = G8 at g7 S7 B7' ⊢
  refine hR _ _ ?_
  clear hR R
  refine seq_i fun R hR => ?_
  simp only [sSet, eTup, eCall, eBin, eBi, eC, eVar, gTup, gTs, addA, fdivA, intA, lenA, lCons, lNil, List.getElem?_cons_zero, List.getElem?_cons_succ, List.set_cons_zero, List.set_cons_succ]
  have hsl := hstem.1
  have hz : sizeLine = 16777216 := by decide
  refine ⟨by omega, take_ok hT B7' (by omega) (by omega) (by omega) fun at_ G9 a0 a1 B9 r9 => ?_⟩
  refine ⟨⟨by decide, by decide⟩, (by show 2 ≤ sizeLine; decide), rfl, hR _ _ ?_⟩
  clear hR R
  have g9 := keep r9 nb3 g7
  have S9 : Sub (rm b G) (rm b G9) := by rw [r9]; exact S7
  refine seq_i fun R hR => ?_
  simp only [sIf, sNx, sSeq, sRet, bB, eBin, eC, eVar, eq_int, Bool.false_eq_true, if_false, eSl, oNo, oSome, slA, lstOf, List.getElem?_cons_zero, List.getElem?_cons_succ, g9]
  by_cases hw : (way == 0) = true
  · rw [if_pos hw]
    refine ⟨_, rfl, ?_⟩
    simp only [cut_map]
    intro p10 e10
    have n10 : p3 ≠ p10 := ne_fresh g9 e10
    simp only [up_ne n10, g9]
    refine ⟨_, rfl, ?_⟩
    simp only [cut_map]
    intro p11 e11
    have n11 : p10 ≠ p11 := ne_fresh (up_same (a := p10)) e11
    simp only [addA, up_same, up_ne n11]
    have la : (cutA (men ++ men5) (some turn) none).length = 24 - turn.toNat := by rw [cut_suf t0 (by rw [men_len]; omega), men_len]
    have lb : (cutA (men ++ men5) none (some turn)).length = turn.toNat := cut_pre t0 (by rw [men_len]; omega)
    refine ⟨by simp only [List.length_map]; omega, ?_⟩
    rw [← List.map_append]
    intro p12 e12
    simp only [up_same]
    refine ⟨_, rfl, ?_⟩
    simp only [cut_map]
    intro p13 e13
    have C12 := (((B9.new (o := (.lst ((cutA (men ++ men5) (some turn) none).map A.str))) e10).new (o := (.lst ((cutA (men ++ men5) none (some turn)).map A.str))) e11).new (o := .lst ((cutA (men ++ men5) (some turn) none ++ cutA (men ++ men5) none (some turn)).map A.str)) e12)
    refine q p13 (cutA (cutA (men ++ men5) (some turn) none ++ cutA (men ++ men5) none (some turn)) none (some many)) _ (C12.ne e13) up_same ?_ ?_ ((C12.new e13).more (by omega)) ?_
    · rw [cut_pre h0 (by rw [List.length_append]; omega)]; omega
    · intro z mz
      have mz := cut_mem mz
      rcases List.mem_append.mp mz with mz | mz
      · exact men_low z (cut_mem mz)
      · exact men_low z (cut_mem mz)
    · exact S9.trans ((rm_new e10).trans ((rm_new e11).trans ((rm_new e12).trans (rm_new e13))))
  · rw [if_neg hw]
    have hw' : way ≠ 0 := by simpa using hw
    refine hR _ _ ?_
    clear hR R
    generalize hfar : way / 3 = far
    have f0 : 0 ≤ far := by omega
    have f1 : far ≤ 1 := by omega
    refine seq_i fun R hR => ?_
    simp only [sSet, eLc, iRng1, eVar, gNm, List.getElem?_cons_zero, List.getElem?_cons_succ, List.set_cons_zero, List.set_cons_succ]
    refine ⟨by omega, by omega, ?_⟩
    refine lc_inv 24 (by decide) (fun acc G' => ∃ ys : List Str, acc = ys.map A.str ∧ (∀ y ∈ ys, Cs low 8 y) ∧ Sub G9 G') (fun _ _ _ => trivial) _ _ _ ?_ ⟨[], rfl, by simp, .refl⟩ (by simp only [List.length_nil, List.length_map, List.length_range]; omega) ?_
    · rintro x hx acc Gx Qx hl ⟨ys, rfl, hy, sx⟩ qx
      simp only [List.mem_map, List.mem_range] at hx
      obtain ⟨k, hk, rfl⟩ := hx
      simp only [wipeA, eBin, eBi, eLst, eC, eVar, lCons, lNil, mulA, fdivA, modA, addA, intA, intOfA, List.set_cons_zero, List.set_cons_succ, List.getElem?_cons_zero, List.getElem?_cons_succ]
      refine ⟨small_mul (by decide) (by omega), ⟨by decide, by decide⟩, (by show 2 ≤ sizeLine; decide), fun pk ek => ?_⟩
      have ix : ∃ v : Int, 0 ≤ v ∧ L2.atI [A.int (3 * (k : Int)), .int ((k : Int) / 8)] far = some (.int v) := by
        rcases (by omega : far = 0 ∨ far = 1) with rfl | rfl
        · exact ⟨_, by omega, at0⟩
        · exact ⟨_, by omega, at1⟩
      obtain ⟨v, v0, ev⟩ := ix
      simp only [ix_ref, up_same, ev]
      refine ⟨by decide, ?_⟩
      obtain ⟨c, ec, hcl⟩ := char_at abc_low (i := (turn + v) % 26) (Int.emod_nonneg _ (by decide)) (by rw [abc_len]; exact Int.emod_lt_of_pos _ (by decide))
      refine ⟨by decide, c, ec, by decide, ?_⟩
      have m0 : 0 ≤ (k : Int) % 8 := Int.emod_nonneg _ (by decide)
      have m1 : (k : Int) % 8 < 8 := Int.emod_lt_of_pos _ (by decide)
      have mm : 0 ≤ (k : Int) % 8 * far ∧ (k : Int) % 8 * far ≤ 7 := by
        rcases (by omega : far = 0 ∨ far = 1) with rfl | rfl <;> constructor <;> omega
      refine ⟨small_mul (by omega) (by omega), MulOk.small (x := ⟨#[c]⟩) (by show 1 ≤ 1000; decide) (by omega) (by omega), ?_⟩
      refine qx _ _ ⟨ys ++ [Txt.mul ⟨#[c]⟩ (1 + (k : Int) % 8 * far)], by simp, ?_, sx.trans (.new ek)⟩
      intro y my
      rcases List.mem_append.mp my with my | my
      · exact hy y my
      · simp at my; subst my
        exact (Cs.one hcl).mul (n := 8) (by omega)
    rintro acc G10 hl10 ⟨ys, rfl, hy, S10⟩
    simp only [List.length_map, List.length_range, List.length_nil, Nat.zero_add] at hl10
    intro p10 e10
    refine hR _ _ ?_
    clear hR R
    have B10 := B9.sub S10
    have nb10 := B10.ne e10
    refine seq_i fun R hR => ?_
    simp only [sSet, eBin, eBi, eC, eVar, lCons, lNil, gNm, mulA, eq_int, intOfA, Bool.false_eq_true, if_false, List.getElem?_cons_zero, List.getElem?_cons_succ, List.set_cons_zero, List.set_cons_succ]
    refine ⟨MulOk.small (by omega) (by split <;> omega) (by split <;> omega), hR _ _ ?_⟩
    clear hR R
    have hst2 : Cs low 7 (Txt.mul stem (if (way == 2) = true then 1 else 0)) := (hstem.mul (n := 1) (by split <;> omega)).more (by omega)
    generalize Txt.mul stem (if (way == 2) = true then 1 else 0) = st2 at hst2 ⊢
    simp only [sSeq, sRet, eLc, iRng1, eVar, List.getElem?_cons_zero, List.getElem?_cons_succ]
    refine ⟨by omega, by omega, ?_⟩
    refine lc_inv 24 (by decide) (fun acc G' => ∃ zs : List Str, acc = zs.map A.str ∧ (∀ y ∈ zs, Cs low 24 y) ∧ G' = up G10 p10 (.lst (ys.map A.str))) (fun _ _ _ => trivial) _ _ _ ?_ ⟨[], rfl, by simp, rfl⟩ (by simp only [List.length_nil, List.length_map, List.length_range]; omega) ?_
    · rintro x hx acc Gx Qx hl ⟨zs, rfl, hzs, rfl⟩ qx
      simp only [List.mem_map, List.mem_range] at hx
      obtain ⟨k, hk, rfl⟩ := hx
      have hk2 : k < (ys.map A.str).length := by simp only [List.length_map]; omega
      simp only [wipeA, eBin, eSl, oNo, oSome, slA, eVar, addA, ix_ref, up_same, atI_nat hk2, List.getElem_map, List.set_cons_zero, List.set_cons_succ, List.getElem?_cons_zero, List.getElem?_cons_succ]
      have h2l := hst2.1
      have hyk : Cs low 8 (ys[k]'(by simpa using hk2)) := hy _ (List.getElem_mem _)
      have c1 := hst2.cut (lo := none) (hi := some at_)
      have c2 := hst2.cut (lo := some at_) (hi := none)
      have c3 := (c1.app hyk).app c2
      have d1 := c1.1
      have d2 := c2.1
      have d3 := (c1.app hyk).1
      have d4 := hyk.1
      refine ⟨by omega, by omega, by omega, by omega, qx _ _ ⟨zs ++ [cutS st2 none (some at_) ++ ys[k]'(by simpa using hk2) ++ cutS st2 (some at_) none], by simp, ?_, rfl⟩⟩
      intro y my
      rcases List.mem_append.mp my with my | my
      · exact hzs y my
      · simp at my; subst my
        exact c3.more (by decide)
    rintro acc G11 hl11 ⟨zs, rfl, hzs, rfl⟩
    simp only [List.length_map, List.length_range, List.length_nil, Nat.zero_add] at hl11
    intro p11 e11
    have B11 := B10.new (o := .lst (ys.map A.str)) e10
    exact q p11 zs _ (B11.ne e11) up_same (by omega) hzs ((B11.new e11).more (by omega)) (S9.trans ((rm_mono S10).trans ((rm_new e10).trans (rm_new e11))))
end Q
/-! P5: k12: what the questions answer. -/
namespace Q
open PySem PySem.Spec PyProof.Rows L2
def tk_is_integer (c : Cal) : SA := (sSeq (sRet (eAnd (eIsi (eVar 0) ["int"]) (eNot (eIsi (eVar 0) ["bool"]))))
  sNx)
def tk_is_constant (c : Cal) : SA := (sSeq (sRet (eAnd (eCall c "is_integer" (lCons (eVar 0) lNil)) (eBin geA (eVar 0) (eC (.int 0)))))
  sNx)
def tk_is_word (c : Cal) : SA := (sSeq (sIf (bOr (bNot (bV (eIsi (eVar 0) ["str"]))) (bNot (bB (eChain leA leA (eC (.int 1)) (eBi lenA (lCons (eVar 0) lNil)) (eC (.int 8)))))) (sSeq (sRet (eC (.bl false)))
  sNx) sNx)
  (sSeq (sRet (eAnd (eM "str" (strB Txt.isascii) (eVar 0) lNil) (eAnd (eM "str" (strB Txt.isalpha) (eVar 0) lNil) (eM "str" (strB Txt.islower) (eVar 0) lNil))))
  sNx))
def tk_is_fact (c : Cal) : SA := (sSeq (sIf (bOr (bNot (bV (eIsi (eVar 0) ["tuple"]))) (bNot (bB (eChain leA leA (eC (.int 1)) (eBi lenA (lCons (eVar 0) lNil)) (eBin addA (eC (.int 1)) (eC (.int 4))))))) (sSeq (sRet (eC (.bl false)))
  sNx) sNx)
  (sSeq (sRet (eAnd (eCall c "is_word" (lCons (eBin ixA (eVar 0) (eC (.int 0))) lNil)) (eBi (allA (·.all id)) (lCons (eLc (iSeq (eSl (eVar 0) (oSome (eC (.int 1))) oNo)) (gNm 1) bYes (eCall c "is_constant" (lCons (eVar 1) lNil)) [1]) lNil))))
  sNx))
def tk_is_name (c : Cal) : SA := (sSeq (sIf (bOr (bNot (bV (eIsi (eVar 0) ["tuple"]))) (bOr (bB (eBin (eqA true) (eBi lenA (lCons (eVar 0) lNil)) (eC (.int 2)))) (bNot (bV (eCall c "is_word" (lCons (eBin ixA (eVar 0) (eC (.int 0))) lNil)))))) (sSeq (sRet (eC (.bl false)))
  sNx) sNx)
  (sSeq (sRet (eAnd (eCall c "is_integer" (lCons (eBin ixA (eVar 0) (eC (.int 1))) lNil)) (eChain leA leA (eC (.int 0)) (eBin ixA (eVar 0) (eC (.int 1))) (eC (.int 4)))))
  sNx))
def tk_whole (c : Cal) : SA := (sSeq (sRet (eAnd (eIsi (eVar 0) ["int"]) (eNot (eIsi (eVar 0) ["bool"]))))
  sNx)
def tk_spelt (c : Cal) : SA := (sSeq (sIf (bOr (bNot (bV (eIsi (eVar 0) ["str"]))) (bOr (bB (eBin ltA (eBi lenA (lCons (eVar 0) lNil)) (eC (.int 1)))) (bB (eBin gtA (eBi lenA (lCons (eVar 0) lNil)) (eC (.int 8)))))) (sSeq (sRet (eC (.bl false)))
  sNx) sNx)
  (sSeq (sRet (eBin (eqA false) (eLc (iSeq (eVar 0)) (gNm 1) (bB (eBin (inA true) (eVar 1) (eC (.str (Str.ofString "abcdefghijklmnopqrstuvwxyz"))))) (eVar 1) [1]) (eLst lNil)))
  sNx))
def tk_due (c : Cal) : SA := (sSeq (sSet (eLst lNil) (gNm 1))
  (sSeq (sIf (bAnd (bV (eIsi (eVar 0) ["tuple"])) (bAnd (bB (eBin (eqA true) (eVar 0) (eTup lNil))) (bV (eCall c "_law_spelt" (lCons (eBin ixA (eVar 0) (eC (.int 0))) lNil))))) (sSeq (sSet (eLst (lCons (eLc (iSeq (eSl (eVar 0) (oSome (eC (.int 1))) oNo)) (gNm 2) bYes (eVar 2) [2]) lNil)) (gNm 1))
  sNx) sNx)
  (sSeq (sSet (eAnd (eBin (eqA true) (eVar 1) (eLst lNil)) (eBin ltA (eBi lenA (lCons (eBin ixA (eVar 1) (eC (.int 0))) lNil)) (eC (.int 5)))) (gNm 3))
  (sSeq (sSet (eAnd (eVar 3) (eBin (eqA false) (eLc (iSeq (eBin ixA (eVar 1) (eC (.int 0)))) (gNm 2) (bOr (bNot (bV (eCall c "_law_whole" (lCons (eVar 2) lNil)))) (bB (eBin ltA (eVar 2) (eC (.int 0))))) (eVar 2) [2]) (eLst lNil))) (gNm 3))
  (sSeq (sSet (eAnd (eBin (eqA true) (eVar 1) (eLst lNil)) (eAnd (eBin (eqA false) (eBi lenA (lCons (eBin ixA (eVar 1) (eC (.int 0))) lNil)) (eC (.int 1))) (eAnd (eCall c "_law_whole" (lCons (eBin ixA (eBin ixA (eVar 1) (eC (.int 0))) (eC (.int 0))) lNil)) (eChain leA leA (eC (.int 0)) (eBin ixA (eBin ixA (eVar 1) (eC (.int 0))) (eC (.int 0))) (eC (.int 4)))))) (gNm 4))
  (sSeq (sRet (eLst (lCons (eCall c "_law_whole" (lCons (eVar 0) lNil)) (lCons (eAnd (eCall c "_law_whole" (lCons (eVar 0) lNil)) (eBin geA (eVar 0) (eC (.int 0)))) (lCons (eCall c "_law_spelt" (lCons (eVar 0) lNil)) (lCons (eVar 3) (lCons (eVar 4) lNil)))))))
  sNx))))))

def isIntB : A → Bool
  | .int _ => true
  | _ => false
def isConB : A → Bool
  | .int i => decide (0 ≤ i)
  | _ => false
def lowB (z : Str) : Bool := z.cps.toList.all fun c => decide (low c)
def wordB (z : Str) : Bool := decide (1 ≤ z.length) && decide (z.length ≤ 8) && lowB z
def isWordB : A → Bool
  | .str z => wordB z
  | _ => false
def isFactB : A → Bool
  | .tup (x :: xs) => decide (xs.length ≤ 4) && (isWordB x && xs.all isConB)
  | _ => false
def isNameB : A → Bool
  | .tup [x, .int i] => isWordB x && (decide (0 ≤ i) && decide (i ≤ 4))
  | _ => false
/-- a value of a kind that isinstance tells; texts are ascii, not long -/
def Kn (G : Gp) (a : A) : Prop := (∃ t, tyName G a = some t) ∧ ∀ z, a = .str z → Cs asc 300 z
theorem Kn.mono {G G' : Gp} {a : A} (h : Kn G a) (s : Sub G G') : Kn G' a := by
  refine ⟨?_, h.2⟩
  obtain ⟨t, e⟩ := h.1
  cases a with
  | ref p =>
    simp only [tyName] at e ⊢
    cases g : G p with
    | none => rw [g] at e; cases e
    | some o => rw [g] at e; rw [s p o g]; exact ⟨t, e⟩
  | _ => exact ⟨_, rfl⟩
section
variable {FT : FTab} {n : Nat} {G : Gp} {a : A} {Q : KA} {X : KX}
/-- isinstance of int, not of bool -/
theorem isi_int {Qb : Bool → Gp → Prop} (h : ∃ t, tyName G a = some t) (q : Q (.bl (isIntB a)) G) : ∃ t, tyName G a = some t ∧ (if isiB t ["int"] = true then ∃ u, tyName G a = some u ∧ Q (.bl (!isiB u ["bool"])) G else Q (.bl (isiB t ["int"])) G) := by
  obtain ⟨t, e⟩ := h
  refine ⟨t, e, ?_⟩
  have k : ∀ t, tyName G a = some t → (isiB t ["int"] = true → (isIntB a = !isiB t ["bool"])) ∧ (isiB t ["int"] = false → isIntB a = false) := by
    intro t e
    cases a with
    | ref p =>
      simp only [tyName] at e
      split at e <;> first | (cases e; exact ⟨fun z => absurd z (by decide), fun _ => rfl⟩) | cases e
    | _ => simp only [tyName, Option.some.injEq] at e; subst e; constructor <;> intro z <;> first | rfl | exact absurd z (by decide)
  cases z : isiB t ["int"]
  · rw [if_neg Bool.false_ne_true]
    rw [(k t e).2 z] at q; exact q
  · rw [if_pos rfl]
    refine ⟨t, e, ?_⟩
    rw [(k t e).1 z] at q; exact q
theorem is_integer_ok (hF : FT (Str.ofString "is_integer") = some ⟨1, 1, tk_is_integer⟩) (h : ∃ t, tyName G a = some t) (q : Q (.bl (isIntB a)) G) : runF FT (n + 1) "is_integer" [a] G Q X := by
  refine ⟨_, hF, rfl, ?_⟩
  show tk_is_integer (runF FT n) _ [some a] G
  simp only [tk_is_integer, sSeq, sRet, eAnd, eNot, eIsi, eVar, List.getElem?_cons_zero, truA]
  exact isi_int (Qb := fun _ _ => True) h q
theorem whole_ok (hF : FT (Str.ofString "_law_whole") = some ⟨1, 1, tk_whole⟩) (h : ∃ t, tyName G a = some t) (q : Q (.bl (isIntB a)) G) : runF FT (n + 1) "_law_whole" [a] G Q X := by
  refine ⟨_, hF, rfl, ?_⟩
  show tk_whole (runF FT n) _ [some a] G
  simp only [tk_whole, sSeq, sRet, eAnd, eNot, eIsi, eVar, List.getElem?_cons_zero, truA]
  exact isi_int (Qb := fun _ _ => True) h q
theorem is_constant_ok (hI : FT (Str.ofString "is_integer") = some ⟨1, 1, tk_is_integer⟩) (hF : FT (Str.ofString "is_constant") = some ⟨1, 1, tk_is_constant⟩) (h : ∃ t, tyName G a = some t) (q : Q (.bl (isConB a)) G) : runF FT (n + 2) "is_constant" [a] G Q X := by
  refine ⟨_, hF, rfl, ?_⟩
  show tk_is_constant (runF FT (n + 1)) _ [some a] G
  simp only [tk_is_constant, sSeq, sRet, eAnd, eCall, eBin, eC, lCons, lNil, eVar, List.getElem?_cons_zero]
  refine is_integer_ok hI h ?_
  cases a <;> simp only [isIntB, truA, Bool.false_eq_true, if_false, if_true, geA] <;> exact q
theorem asc_facts : ∀ c : Fin 128, (Unicode.isAlpha c.1 && !(Unicode.isUpper c.1 || Unicode.isTitle c.1)) = decide (low c.1) ∧ (Unicode.isLower c.1 = decide (low c.1)) := by decide +kernel
theorem word_asc {z : Str} (h : Cs asc 300 z) (h1 : 1 ≤ z.length) : (Txt.isascii z && (Txt.isalpha z && Txt.islower z)) = lowB z ∧ Txt.isascii z = true := by
  have f : ∀ c ∈ z.cps.toList, (Unicode.isAlpha c && !(Unicode.isUpper c || Unicode.isTitle c)) = decide (low c) ∧ Unicode.isLower c = decide (low c) := fun c m => asc_facts ⟨c, h.2 c m⟩
  have ha : Txt.isascii z = true := by
    unfold Txt.isascii
    rw [Array.all_eq_true']
    intro c m
    have y : c < 128 := h.2 c (by simpa using m)
    simpa using y
  refine ⟨?_, ha⟩
  rw [ha, Bool.true_and, Bool.eq_iff_iff]
  unfold Txt.isalpha Txt.islower lowB
  simp only [Bool.and_eq_true, decide_eq_true_eq, Array.all_eq_true', Array.any_eq_true', Bool.not_eq_true', List.all_eq_true]
  constructor
  · rintro ⟨⟨_, al⟩, _, an⟩ c m
    have h1 := (f c m).1
    have h2 := al c (by simpa using m)
    have h3 : (Unicode.isUpper c || Unicode.isTitle c) = false := by
      rw [Array.any_eq_false'] at an
      have := an c (by simpa using m)
      simpa using this
    rw [h2, h3] at h1
    simpa using h1
  · intro hl
    have g : ∀ c ∈ z.cps, Unicode.isAlpha c = true ∧ (Unicode.isUpper c || Unicode.isTitle c) = false ∧ Unicode.isLower c = true := by
      intro c m
      have m' : c ∈ z.cps.toList := by simpa using m
      have h1 := f c m'
      have h2 : decide (low c) = true := by simpa using hl c m'
      rw [h2] at h1
      simp only [Bool.and_eq_true, Bool.not_eq_true'] at h1
      exact ⟨h1.1.1, h1.1.2, h1.2⟩
    refine ⟨⟨h1, fun c m => (g c m).1⟩, ?_, ?_⟩
    · have hz : 0 < z.cps.size := h1
      exact ⟨z.cps[0], Array.getElem_mem _, (g _ (Array.getElem_mem _)).2.2⟩
    · rw [Array.any_eq_false']
      intro c m
      have := (g c m).2.1
      simpa using this
/-- what is neither a text nor a tuple -/
theorem isi_no {t s : String} (hs : s = "str" ∨ s = "tuple") (e : tyName G a = some t) (h1 : s = "str" → ∀ z, a ≠ .str z) (h2 : s = "tuple" → ∀ z, a ≠ .tup z) : isiB t [s] = false := by
  have k : ∀ u, u ∈ ["NoneType", "bool", "int", "list", "dict"] → isiB u [s] = false := by rcases hs with rfl | rfl <;> decide
  cases a with
  | str z =>
    rcases hs with rfl | rfl
    · exact absurd rfl (h1 rfl z)
    · cases e; decide
  | tup z =>
    rcases hs with rfl | rfl
    · cases e; decide
    · exact absurd rfl (h2 rfl z)
  | ref p =>
    simp only [tyName] at e
    split at e <;> first | (cases e; exact k _ (by decide)) | cases e
  | _ => cases e; exact k _ (by decide)
theorem is_word_ok (hF : FT (Str.ofString "is_word") = some ⟨1, 1, tk_is_word⟩) (h : Kn G a) (q : Q (.bl (isWordB a)) G) : runF FT (n + 1) "is_word" [a] G Q X := by
  refine ⟨_, hF, rfl, ?_⟩
  show tk_is_word (runF FT n) _ [some a] G
  have hz : sizeLine = 16777216 := by decide
  obtain ⟨⟨t, e⟩, hs⟩ := h
  simp only [tk_is_word, sSeq, sIf, sRet, sNx, bOr, bNot, bV, eIsi, eVar, List.getElem?_cons_zero, truA]
  refine ⟨t, e, ?_⟩
  cases a with
  | str z =>
    cases e
    have hc := hs z rfl
    have hl := hc.1
    have i1 : isiB "str" ["str"] = true := by decide
    simp only [i1, Bool.not_true, Bool.false_eq_true, if_false, bB, eChain, eC, eBi, lCons, lNil, eVar, lenA, leA, List.getElem?_cons_zero]
    refine ⟨by omega, ?_⟩
    have fin : 1 ≤ z.length → z.length ≤ 8 → eAnd (eM "str" (strB Txt.isascii) (eVar 0) lNil) (eAnd (eM "str" (strB Txt.isalpha) (eVar 0) lNil) (eM "str" (strB Txt.islower) (eVar 0) lNil)) [some (.str z)] G Q (fun e G' => X e G') := by
      intro a1 a2
      obtain ⟨w1, w2⟩ := word_asc hc a1
      have e1 : isWordB (.str z) = lowB z := by simp only [isWordB, wordB]; simp [a1, a2]
      rw [e1, ← w1, w2, Bool.true_and] at q
      simp only [eAnd, eM, eVar, lNil, strB, tyA, List.getElem?_cons_zero]
      refine ⟨trivial, z, rfl, trivial, ?_⟩
      simp only [truA, w2, if_true]
      refine ⟨trivial, z, rfl, trivial, ?_⟩
      cases w3 : Txt.isalpha z
      · rw [w3] at q; simpa only [truA, Bool.false_eq_true, if_false, Bool.false_and] using q
      · rw [w3] at q
        simp only [truA, if_true]
        exact ⟨trivial, z, rfl, trivial, by simpa only [Bool.true_and] using q⟩
    by_cases b1 : (1 : Int) ≤ (z.length : Int)
    · rw [decide_eq_true b1]
      simp only [Bool.not_true, Bool.false_eq_true, if_false, if_true]
      by_cases b2 : (z.length : Int) ≤ 8
      · rw [decide_eq_true b2]
        simp only [Bool.not_true, Bool.false_eq_true, if_false]
        exact fin (by omega) (by omega)
      · rw [decide_eq_false b2]
        simp only [Bool.not_false, if_true]
        have e1 : isWordB (.str z) = false := by
          simp only [isWordB, wordB]
          rw [decide_eq_false (p := z.length ≤ 8) (by omega)]; simp
        rw [e1] at q; exact q
    · rw [decide_eq_false b1]
      simp only [Bool.not_false, if_true]
      have e1 : isWordB (.str z) = false := by
        simp only [isWordB, wordB]
        rw [decide_eq_false (p := 1 ≤ z.length) (by omega)]; simp
      rw [e1] at q; exact q
  | _ =>
    have i1 : isiB t ["str"] = false := isi_no (.inl rfl) e (fun _ z => by simp) (fun z => absurd z (by decide))
    simp only [i1, Bool.not_false, if_true]; exact q
theorem eq_nil {neg : Bool} {p1 p2 : Addr} {xs : List A} (e1 : G p1 = some (.lst xs)) (e2 : G p2 = some (.lst [])) (q : Q (.bl (if neg then !xs.isEmpty else xs.isEmpty)) G) : eqA neg (.ref p1) (.ref p2) G Q := by
  cases xs with
  | nil =>
    refine .inl ⟨.list [], .list [], Dat.lst (k := 0) e1 .nil 60 (by omega), Dat.lst (k := 0) e2 .nil 60 (by omega), rfl, rfl, ?_⟩
    cases neg <;> exact q
  | cons x xs =>
    refine .inr (.inl ⟨x :: xs, [], by simp only [lstOf, e1], by simp only [lstOf, e2], by simp, ?_⟩)
    cases neg <;> exact q
theorem lc_filt {i : Nat} {tt : BA} {vs : List Nat} {chk : Gp → Prop} {Qf : List A → Gp → Prop} {ς : En} {p : A → Bool} (hi : i < (wipeA ς vs).length) (hc : chk G) : ∀ (xs acc : List A),
    (∀ x ∈ xs, ∀ Qb : Bool → Gp → Prop, Qb (p x) G → tt ((wipeA ς vs).set i (some x)) G Qb (fun _ _ => False)) → acc.length + xs.length ≤ sizeLine → Qf (acc ++ xs.filter p) G → lcR (gNm i) tt (eVar i) vs chk Qf xs acc ς G
  | [], acc, _, _, q => ⟨hc, by simpa using q⟩
  | x :: xs, acc, st, l, q => by
    refine ⟨hc, ?_⟩
    simp only [gNm]
    simp only [List.length_cons] at l
    refine st x (by simp) _ ?_
    cases hp : p x
    · simp only [Bool.false_eq_true, if_false]
      exact lc_filt hi hc xs acc (fun y m => st y (by simp [m])) (by omega) (by simpa only [List.filter_cons, hp, Bool.false_eq_true, if_false] using q)
    · simp only [if_true, eVar]
      rw [List.getElem?_set_self hi]
      refine ⟨by omega, lc_filt hi hc xs (acc ++ [x]) (fun y m => st y (by simp [m])) (by simp only [List.length_append, List.length_cons, List.length_nil]; omega) ?_⟩
      simpa only [List.filter_cons, hp, if_true, List.append_assoc, List.singleton_append] using q
theorem lc_map {i : Nat} {te : EA} {vs : List Nat} {chk : Gp → Prop} {Qf : List A → Gp → Prop} {ς : En} {f : A → A} (hc : chk G) : ∀ (xs acc : List A),
    (∀ x ∈ xs, ∀ Q : KA, Q (f x) G → te ((wipeA ς vs).set i (some x)) G Q (fun _ _ => False)) → acc.length + xs.length ≤ sizeLine → Qf (acc ++ xs.map f) G → lcR (gNm i) bYes te vs chk Qf xs acc ς G
  | [], acc, _, _, q => ⟨hc, by simpa using q⟩
  | x :: xs, acc, st, l, q => by
    refine ⟨hc, ?_⟩
    simp only [gNm, bYes, if_true]
    simp only [List.length_cons] at l
    refine st x (by simp) _ ⟨by omega, ?_⟩
    refine lc_map hc xs (acc ++ [f x]) (fun y m => st y (by simp [m])) (by simp only [List.length_append, List.length_cons, List.length_nil]; omega) ?_
    simpa only [List.map_cons, List.append_assoc, List.singleton_append] using q
end
end Q
/-! P6: facts, names, what is due. -/
namespace Q
open PySem PySem.Spec PyProof.Rows L2
def KnT (G : Gp) (a : A) : Prop := Kn G a ∧ ∀ xs, a = .tup xs → xs.length ≤ 10 ∧ ∀ x ∈ xs, Kn G x
theorem KnT.mono {G G' : Gp} {a : A} (h : KnT G a) (s : Sub G G') : KnT G' a := ⟨h.1.mono s, fun xs e => ⟨(h.2 xs e).1, fun x m => ((h.2 xs e).2 x m).mono s⟩⟩
theorem cut1 {α : Type} (x : α) (r : List α) : cutA (x :: r) (some 1) none = r := by
  unfold cutA
  simp only [HT.sIx, List.length_cons]
  rw [if_neg (by decide)]
  have e : min (Int.toNat 1) (r.length + 1) = 1 := by show min 1 (r.length + 1) = 1; omega
  rw [e]
  simp
section
variable {FT : FTab} {n : Nat} {G : Gp} {a : A} {Q : KA} {X : KX}
theorem is_fact_ok (hI : FT (Str.ofString "is_integer") = some ⟨1, 1, tk_is_integer⟩) (hC : FT (Str.ofString "is_constant") = some ⟨1, 1, tk_is_constant⟩) (hW : FT (Str.ofString "is_word") = some ⟨1, 1, tk_is_word⟩)
    (hF : FT (Str.ofString "is_fact") = some ⟨1, 2, tk_is_fact⟩) (h : KnT G a) (q : ∀ G', Sub G G' → Q (.bl (isFactB a)) G') : runF FT (n + 3) "is_fact" [a] G Q X := by
  refine ⟨_, hF, rfl, ?_⟩
  show tk_is_fact (runF FT (n + 2)) _ [some a, none] G
  obtain ⟨⟨⟨t, e⟩, hs⟩, hx⟩ := h
  simp only [tk_is_fact, sSeq, sIf, sRet, sNx, bOr, bNot, bV, eIsi, eVar, List.getElem?_cons_zero, truA]
  refine ⟨t, e, ?_⟩
  cases a with
  | tup xs =>
    cases e
    have i1 : isiB "tuple" ["tuple"] = true := by decide
    obtain ⟨hl, hk⟩ := hx xs rfl
    simp only [i1, Bool.not_true, Bool.false_eq_true, if_false, bB, eChain, eBin, eC, eBi, lCons, lNil, eVar, lenA, leA, addA, List.getElem?_cons_zero]
    refine ⟨xs, rfl, ?_⟩
    cases xs with
    | nil => exact q G .refl
    | cons x r =>
      have b1 : (1 : Int) ≤ ((x :: r).length : Int) := by simp only [List.length_cons]; omega
      rw [decide_eq_true b1]
      simp only [Bool.not_true, Bool.false_eq_true, if_false, if_true]
      by_cases b2 : ((x :: r).length : Int) ≤ 1 + 4
      · rw [decide_eq_true b2]
        have b3 : r.length ≤ 4 := by simp only [List.length_cons] at b2; omega
        simp only [Bool.not_true, Bool.false_eq_true, if_false, eAnd, eCall, eBin, eC, eBi, lCons, lNil, eVar, ix_tup, at0, List.getElem?_cons_zero]
        refine is_word_ok hW (hk x (by simp)) ?_
        have ef : isFactB (.tup (x :: r)) = (isWordB x && r.all isConB) := by simp only [isFactB]; simp [b3]
        rw [ef] at q
        cases w : isWordB x
        · rw [w] at q
          simpa only [truA, Bool.false_eq_true, if_false, Bool.false_and] using q G .refl
        · rw [w] at q
          simp only [truA, if_true, eLc, iSeq, eSl, oNo, oSome, eC, slA, eVar, itOf, cut1, List.getElem?_cons_zero]
          refine lc_map (f := fun y => .bl (isConB y)) trivial r [] ?_ (by simp only [List.length_nil, List.length_cons] at hl ⊢; unfold sizeLine; omega) ?_
          · intro y my Q2 q2
            simp only [wipeA, eCall, lCons, lNil, eVar, List.set_cons_zero, List.set_cons_succ, List.getElem?_cons_zero, List.getElem?_cons_succ]
            exact is_constant_ok hI hC (hk y (by simp [my])).1 q2
          · intro p hp
            refine ⟨_, r.map isConB, rfl, ?_, ?_⟩
            · simp only [lstOf, up_same, List.nil_append, List.map_map]; rfl
            · have z : (r.map isConB).all id = r.all isConB := by rw [List.all_map]; rfl
              show Q (.bl ((r.map isConB).all id)) _
              rw [z]
              simp only [Bool.true_and] at q
              exact q _ (Sub.new hp)
      · rw [decide_eq_false b2]
        have b3 : ¬ r.length ≤ 4 := by simp only [List.length_cons] at b2; omega
        simp only [Bool.not_false, if_true, eC]
        have e1 : isFactB (.tup (x :: r)) = false := by simp only [isFactB]; simp [b3]
        rw [e1] at q; exact q G .refl
  | _ =>
    have i1 : isiB t ["tuple"] = false := isi_no (.inr rfl) e (fun z => absurd z (by decide)) (fun _ z => by simp)
    simp only [i1, Bool.not_false, if_true]; exact q G .refl
theorem is_name_ok (hI : FT (Str.ofString "is_integer") = some ⟨1, 1, tk_is_integer⟩) (hW : FT (Str.ofString "is_word") = some ⟨1, 1, tk_is_word⟩)
    (hF : FT (Str.ofString "is_name") = some ⟨1, 1, tk_is_name⟩) (h : KnT G a) (q : Q (.bl (isNameB a)) G) : runF FT (n + 3) "is_name" [a] G Q X := by
  refine ⟨_, hF, rfl, ?_⟩
  show tk_is_name (runF FT (n + 2)) _ [some a] G
  obtain ⟨⟨⟨t, e⟩, hs⟩, hx⟩ := h
  simp only [tk_is_name, sSeq, sIf, sRet, sNx, bOr, bNot, bV, eIsi, eVar, List.getElem?_cons_zero, truA]
  refine ⟨t, e, ?_⟩
  cases a with
  | tup xs =>
    cases e
    have i1 : isiB "tuple" ["tuple"] = true := by decide
    obtain ⟨hl, hk⟩ := hx xs rfl
    simp only [i1, Bool.not_true, Bool.false_eq_true, if_false, bB, eBin, eC, eBi, lCons, lNil, eVar, lenA, eq_int, if_true, List.getElem?_cons_zero]
    refine ⟨xs, rfl, ?_⟩
    by_cases b2 : ((xs.length : Int) == 2) = true
    · rw [b2]
      have b3 : xs.length = 2 := by have := eq_of_beq b2; omega
      match xs, b3, hk with
      | [x, y], _, hk =>
        simp only [Bool.not_true, Bool.false_eq_true, if_false, eCall, eBin, eC, lCons, lNil, eVar, ix_tup, at0, at1, List.getElem?_cons_zero]
        refine is_word_ok hW (hk x (by simp)) ?_
        cases w : isWordB x
        · have e1 : isNameB (.tup [x, y]) = false := by cases y <;> simp only [isNameB, w, Bool.false_and]
          rw [e1] at q
          simpa only [truA, Bool.not_false, if_true] using q
        · simp only [truA, Bool.not_true, Bool.false_eq_true, if_false, eAnd, eCall, eBin, eChain, eC, lCons, lNil, eVar, ix_tup, at1, List.getElem?_cons_zero]
          refine is_integer_ok hI (hk y (by simp)).1 ?_
          cases y with
          | int i =>
            have e1 : isNameB (.tup [x, .int i]) = (decide (0 ≤ i) && decide (i ≤ 4)) := by simp only [isNameB, w, Bool.true_and]
            rw [e1] at q
            simp only [isIntB, truA, if_true, leA]
            by_cases z : 0 ≤ i
            · rw [decide_eq_true z] at q ⊢; simpa only [Bool.true_and] using q
            · rw [decide_eq_false z] at q ⊢; simpa only [Bool.false_and] using q
          | _ => simpa only [isIntB, truA, Bool.false_eq_true, if_false, isNameB] using q
    · have b4 : ((xs.length : Int) == 2) = false := by simpa using b2
      rw [b4]
      have b3 : xs.length ≠ 2 := by intro z; rw [z] at b4; exact absurd b4 (by decide)
      have e1 : isNameB (.tup xs) = false := by
        match xs, b3 with
        | [], _ => rfl
        | [_], _ => rfl
        | _ :: y :: _ :: _, _ => cases y <;> rfl
      rw [e1] at q
      simpa only [Bool.not_false, if_true] using q
  | _ =>
    have i1 : isiB t ["tuple"] = false := isi_no (.inr rfl) e (fun z => absurd z (by decide)) (fun _ z => by simp)
    simp only [i1, Bool.not_false, if_true]; exact q
def nlB : A → Bool
  | .str y => !lowB y
  | _ => false
theorem low_one (c : Nat) : lowB ⟨#[c]⟩ = decide (low c) := by simp [lowB]
theorem low_list : ∀ l : List Nat, (List.filter nlB (l.map fun c => A.str ⟨#[c]⟩)).isEmpty = l.all fun c => decide (low c)
  | [] => rfl
  | c :: r => by
    have ih := low_list r
    simp only [List.map_cons, List.filter_cons, List.all_cons, nlB, low_one]
    cases w : decide (low c)
    · simp
    · simpa [nlB] using ih
theorem low_filter {z : Str} : (List.filter nlB (z.cps.toList.map fun c => A.str ⟨#[c]⟩)).isEmpty = lowB z := low_list _
theorem occ_facts : ∀ c : Fin 128, (Builtin.Str.occurrences (Str.ofString "abcdefghijklmnopqrstuvwxyz") ⟨#[c.1]⟩ 0 (Str.ofString "abcdefghijklmnopqrstuvwxyz").length 1).isEmpty = !decide (low c.1) := by decide +kernel
theorem spelt_ok (hF : FT (Str.ofString "_law_spelt") = some ⟨1, 2, tk_spelt⟩) (h : Kn G a) (q : ∀ G', Sub G G' → Q (.bl (isWordB a)) G') : runF FT (n + 1) "_law_spelt" [a] G Q X := by
  refine ⟨_, hF, rfl, ?_⟩
  show tk_spelt (runF FT n) _ [some a, none] G
  have hz : sizeLine = 16777216 := by decide
  obtain ⟨⟨t, e⟩, hs⟩ := h
  simp only [tk_spelt, sSeq, sIf, sRet, sNx, bOr, bNot, bV, eIsi, eVar, List.getElem?_cons_zero, truA]
  refine ⟨t, e, ?_⟩
  cases a with
  | str z =>
    cases e
    have hc := hs z rfl
    have hl := hc.1
    have i1 : isiB "str" ["str"] = true := by decide
    simp only [i1, Bool.not_true, Bool.false_eq_true, if_false, bB, eBin, eC, eBi, lCons, lNil, eVar, lenA, ltA, gtA, List.getElem?_cons_zero]
    refine ⟨by omega, ?_⟩
    by_cases b1 : (z.length : Int) < 1
    · rw [decide_eq_true b1]
      have e1 : isWordB (.str z) = false := by
        simp only [isWordB, wordB]
        rw [decide_eq_false (p := 1 ≤ z.length) (by omega)]; simp
      rw [e1] at q; exact q G .refl
    · rw [decide_eq_false b1]
      simp only [Bool.false_eq_true, if_false]
      refine ⟨by omega, ?_⟩
      by_cases b2 : 8 < (z.length : Int)
      · rw [decide_eq_true b2]
        have e1 : isWordB (.str z) = false := by
          simp only [isWordB, wordB]
          rw [decide_eq_false (p := z.length ≤ 8) (by omega)]; simp
        rw [e1] at q; exact q G .refl
      · rw [decide_eq_false b2]
        have e1 : isWordB (.str z) = lowB z := by
          simp only [isWordB, wordB]
          rw [decide_eq_true (p := z.length ≤ 8) (by omega), decide_eq_true (p := 1 ≤ z.length) (by omega)]; simp
        rw [e1] at q
        simp only [Bool.false_eq_true, if_false, eBin, eLc, iSeq, eVar, itOf, List.getElem?_cons_zero]
        refine lc_filt (p := nlB) (by simp [wipeA]) trivial _ [] ?_ ?_ ?_
        · intro x hx Qb qb
          simp only [List.mem_map] at hx
          obtain ⟨c, mc, rfl⟩ := hx
          simp only [wipeA, bB, eBin, eVar, eC, List.set_cons_zero, List.set_cons_succ, List.getElem?_cons_zero, List.getElem?_cons_succ]
          refine .inl ⟨_, _, rfl, rfl, ?_⟩
          have o := occ_facts ⟨c, hc.2 c mc⟩
          simp only [if_true]
          rw [o]
          have l1 : lowB ⟨#[c]⟩ = decide (low c) := by simp [lowB]
          simp only [nlB, l1] at qb
          simpa only [Bool.not_not] using qb
        · have := hc.1
          rw [len_list] at this
          simp only [List.length_nil, List.length_map]
          omega
        · intro p hp
          simp only [eLst, lNil]
          refine ⟨by decide, fun p2 hp2 => ?_⟩
          refine eq_nil (xs := _) (by rw [up_ne (ne_fresh (up_same (a := p)) hp2)]; exact up_same) up_same ?_
          have q1 := q _ ((Sub.new hp).trans (Sub.new (o := .lst []) hp2))
          simp only [Bool.false_eq_true, if_false, List.nil_append]
          rw [low_filter]; exact q1
  | _ =>
    have i1 : isiB t ["str"] = false := isi_no (.inl rfl) e (fun _ z => by simp) (fun z => absurd z (by decide))
    simp only [i1, Bool.not_false, if_true]; exact q G .refl
end
end Q
/-! P7: alike, due. -/
namespace Q
open PySem PySem.Spec PyProof.Rows L2
section
variable {FT : FTab} {n : Nat} {G : Gp} {a : A} {Q : KA} {X : KX}
theorem alike_ok (hF : FT (Str.ofString "_law_alike") = some ⟨2, 2, tk_alike⟩) {x y : A} {d : PyData} {k : Nat} (hx : Dat k G x d) (hy : Dat k G y d) (hk : k ≤ 60) (hs : SeqAt.shaped d = true) (he : PyData.eqv d d = true)
    (h1 : d.showable = true) (h2 : d.shown.length ≤ sizeLine) (h3 : d.depth ≤ 60) (q : Q (.bl true) G) : runF FT (n + 1) "_law_alike" [x, y] G Q X := by
  refine ⟨_, hF, rfl, ?_⟩
  show tk_alike (runF FT n) _ [some x, some y] G
  simp only [tk_alike, sSeq, sRet, eAnd, eBin, eBi, eVar, lCons, lNil, List.getElem?_cons_zero, List.getElem?_cons_succ]
  refine .inl ⟨d, d, hx 60 hk, hy 60 hk, hs, hs, ?_⟩
  rw [he]
  simp only [Bool.false_eq_true, if_false, truA, if_true]
  refine ⟨x, d, rfl, hx 60 hk, h1, h2, h3, y, d, rfl, hy 60 hk, h1, h2, h3, ?_⟩
  show eqA false (.str d.shown) (.str d.shown) G Q
  rw [eq_str]
  simpa using q
theorem con_filter : ∀ r : List A, (List.filter (fun y => !isConB y) r).isEmpty = r.all isConB
  | [] => rfl
  | y :: r => by
    have ih := con_filter r
    simp only [List.filter_cons, List.all_cons]
    cases w : isConB y
    · simp
    · simpa using ih
/-- what the rest of due does with a list of the row behind the tag, or none -/
theorem due_ok (hW : FT (Str.ofString "_law_whole") = some ⟨1, 1, tk_whole⟩) (hS : FT (Str.ofString "_law_spelt") = some ⟨1, 2, tk_spelt⟩) (hF : FT (Str.ofString "_law_due") = some ⟨1, 5, tk_due⟩) (h : KnT G a)
    (q : ∀ r G', Sub G G' → G' r = some (.lst [.bl (isIntB a), .bl (isConB a), .bl (isWordB a), .bl (isFactB a), .bl (isNameB a)]) → Q (.ref r) G') : runF FT (n + 2) "_law_due" [a] G Q X := by
  refine ⟨_, hF, rfl, ?_⟩
  show tk_due (runF FT (n + 1)) _ [some a, none, none, none, none] G
  have hz : sizeLine = 16777216 := by decide
  unfold tk_due
  refine seq_i fun R hR => ?_
  simp only [sSet, eLst, lNil, gNm, List.set_cons_zero, List.set_cons_succ]
  refine ⟨by decide, fun p0 e0 => hR _ _ ?_⟩
  clear hR R
  have s0 : Sub G (up G p0 (.lst [])) := Sub.new e0
  have h0 := h.mono s0
  have g0 : up G p0 (.lst []) p0 = some (.lst []) := up_same
  generalize up G p0 (.lst []) = G0 at s0 h0 g0 ⊢
  refine seq_i fun R hR => ?_
  -- the end
  have fin : ∀ (y z : Option A) (bf bn : Bool) (G1 : Gp), Sub G G1 → bf = isFactB a → bn = isNameB a → eLst (lCons (eCall (runF FT (n + 1)) "_law_whole" (lCons (eVar 0) lNil)) (lCons (eAnd (eCall (runF FT (n + 1)) "_law_whole" (lCons (eVar 0) lNil)) (eBin geA (eVar 0) (eC (.int 0)))) (lCons (eCall (runF FT (n + 1)) "_law_spelt" (lCons (eVar 0) lNil)) (lCons (eVar 3) (lCons (eVar 4) lNil)))))
      [some a, y, z, some (.bl bf), some (.bl bn)] G1 Q (fun e G' => X e G') := by
    rintro y z _ _ G1 s1 rfl rfl
    have h1 := h.mono s1
    simp only [eLst, eAnd, eCall, eBin, eC, eVar, lCons, lNil, List.getElem?_cons_zero, List.getElem?_cons_succ]
    refine whole_ok hW h1.1.1 (whole_ok hW h1.1.1 ?_)
    have nx : runF FT (n + 1) "_law_spelt" [a] G1 (fun a1 G2 => [A.bl (isIntB a), .bl (isConB a), a1, .bl (isFactB a), .bl (isNameB a)].length ≤ sizeLine ∧ new (.lst [A.bl (isIntB a), .bl (isConB a), a1, .bl (isFactB a), .bl (isNameB a)]) G2 Q) (fun e G' => X e G') :=
      spelt_ok hS h1.1 fun G2 s2 => ⟨(by show 5 ≤ sizeLine; decide), fun r er => q r _ (s1.trans (s2.trans (Sub.new er))) up_same⟩
    cases a <;> simp only [isIntB, truA, Bool.false_eq_true, if_false, if_true, geA] at nx ⊢ <;> exact nx
  have nob : ∀ p1 p2 (xs : List A) (Gx : Gp) (Qx : KA), Gx p1 = some (.lst xs) → Gx p2 = some (.lst []) → Qx (.bl (!xs.isEmpty)) Gx → eqA true (.ref p1) (.ref p2) Gx Qx := fun p1 p2 xs Gx Qx e1 e2 q1 => eq_nil e1 e2 (by simpa only [if_true] using q1)
  have nul : ([] : List A).length ≤ sizeLine := by decide
  have noRest : ∀ G1, Sub G0 G1 → isFactB a = false → isNameB a = false → R [some a, some (.ref p0), none, none, none] G1 := by
    intro G1 s1 f1 n1
    refine hR _ _ ?_
    have g1 := s1 _ _ g0
    refine seq_i fun R hR => ?_
    simp only [sSet, eAnd, eBin, eLst, eVar, lNil, gNm, List.getElem?_cons_zero, List.getElem?_cons_succ, List.set_cons_zero, List.set_cons_succ]
    refine ⟨nul, fun p3 e3 => nob p0 p3 [] _ _ (Sub.new e3 _ _ g1) up_same ?_⟩
    simp only [List.isEmpty_nil, Bool.not_true, truA, Bool.false_eq_true, if_false]
    refine hR _ _ ?_
    refine seq_i fun R hR => ?_
    simp only [sSet, eAnd, eVar, gNm, truA, Bool.false_eq_true, if_false, List.getElem?_cons_zero, List.getElem?_cons_succ, List.set_cons_zero, List.set_cons_succ]
    refine hR _ _ ?_
    have s3 : Sub G1 (up G1 p3 (.lst [])) := Sub.new e3
    generalize up G1 p3 (.lst []) = G3 at s3 ⊢
    refine seq_i fun R hR => ?_
    simp only [sSet, eAnd, eBin, eLst, eVar, lNil, gNm, List.getElem?_cons_zero, List.getElem?_cons_succ, List.set_cons_zero, List.set_cons_succ]
    refine ⟨nul, fun p4 e4 => nob p0 p4 [] _ _ (Sub.new e4 _ _ (s3 _ _ g1)) up_same ?_⟩
    simp only [List.isEmpty_nil, Bool.not_true, truA, Bool.false_eq_true, if_false]
    refine hR _ _ ?_
    exact fin _ _ false false _ (s0.trans (s1.trans (s3.trans (Sub.new e4)))) f1.symm n1.symm
  have yesRest : ∀ p2 p1 x r G1, Sub G0 G1 → a = .tup (x :: r) → isWordB x = true → G1 p2 = some (.lst [.ref p1]) → G1 p1 = some (.lst r) → R [some a, some (.ref p2), none, none, none] G1 := by
    intro p2 p1 x r G1 s1 ha hw g2 g1
    have hk := (h0.mono s1).2 _ ha
    have hl : r.length ≤ 9 := by have := hk.1; simp only [List.length_cons] at this; omega
    refine hR _ _ ?_
    refine seq_i fun R hR => ?_
    simp only [sSet, eAnd, eBin, eBi, eC, eLst, eVar, lCons, lNil, gNm, List.getElem?_cons_zero, List.getElem?_cons_succ, List.set_cons_zero, List.set_cons_succ]
    refine ⟨nul, fun p3 e3 => nob p2 p3 [.ref p1] _ _ (Sub.new e3 _ _ g2) up_same ?_⟩
    have s3 : Sub G1 (up G1 p3 (.lst [])) := Sub.new e3
    generalize up G1 p3 (.lst []) = G3 at s3 ⊢
    simp only [List.isEmpty_cons, Bool.not_false, truA, if_true, ix_ref, s3 _ _ g2, at0, len_ref, s3 _ _ g1, ltA]
    refine hR _ _ ?_
    refine seq_i fun R hR => ?_
    have third : ∀ G4, Sub G3 G4 → R [some a, some (.ref p2), none, some (.bl (decide ((r.length : Int) < 5) && r.all isConB)), none] G4 := by
      intro G4 s4
      refine hR _ _ ?_
      refine seq_i fun R hR => ?_
      have t2 := s4 _ _ (s3 _ _ g2)
      have t1 := s4 _ _ (s3 _ _ g1)
      simp only [sSet, eAnd, eBin, eBi, eC, eLst, eCall, eChain, eVar, lCons, lNil, gNm, List.getElem?_cons_zero, List.getElem?_cons_succ, List.set_cons_zero, List.set_cons_succ]
      refine ⟨nul, fun p5 e5 => nob p2 p5 [.ref p1] _ _ (Sub.new e5 _ _ t2) up_same ?_⟩
      have s5 : Sub G4 (up G4 p5 (.lst [])) := Sub.new e5
      generalize up G4 p5 (.lst []) = G5 at s5 ⊢
      simp only [List.isEmpty_cons, Bool.not_false, truA, if_true, ix_ref, s5 _ _ t2, at0, len_ref, s5 _ _ t1, eq_int, Bool.false_eq_true, if_false]
      have sA := s0.trans (s1.trans (s3.trans (s4.trans s5)))
      have ef : isFactB a = (decide ((r.length : Int) < 5) && r.all isConB) := by
        rw [ha]; simp only [isFactB, hw, Bool.true_and]
        congr 1
        exact decide_eq_decide.mpr (by omega)
      have done : ∀ bn, bn = isNameB a → R [some a, some (.ref p2), none, some (.bl (decide ((r.length : Int) < 5) && r.all isConB)), some (.bl bn)] G5 := fun bn e => hR _ _ (fin _ _ _ bn _ sA ef.symm e)
      cases r with
      | nil => exact done false (by rw [ha]; rfl)
      | cons y r' =>
        cases r' with
        | cons y2 r2 =>
          have z : ((((y :: y2 :: r2).length : Nat) : Int) == 1) = false := by
            simp only [List.length_cons]
            exact beq_eq_false_iff_ne.mpr (by omega)
          rw [z]
          exact done false (by rw [ha]; cases y <;> rfl)
        | nil =>
          have z : (((([y] : List A).length : Nat) : Int) == 1) = true := rfl
          rw [z]
          simp only [truA, if_true]
          have ky := ((h0.mono (s1.trans (s3.trans (s4.trans s5)))).2 _ ha).2 y (by simp)
          refine whole_ok hW ky.1 ?_
          cases y with
          | int i =>
            simp only [isIntB, truA, if_true, leA, s5 _ _ t2, s5 _ _ t1, ix_ref, at0]
            have e1 : isNameB a = (decide (0 ≤ i) && decide (i ≤ 4)) := by rw [ha]; simp only [isNameB, hw, Bool.true_and]
            by_cases z : 0 ≤ i
            · rw [decide_eq_true z] at e1 ⊢
              exact done _ (by rw [e1, Bool.true_and])
            · rw [decide_eq_false z] at e1 ⊢
              exact done _ (by rw [e1, Bool.false_and])
          | _ =>
            simp only [isIntB, truA, Bool.false_eq_true, if_false]
            exact done _ (by rw [ha]; rfl)
    simp only [sSet, eAnd, eBin, eVar, eLc, iSeq, gNm, List.getElem?_cons_zero, List.getElem?_cons_succ, List.set_cons_zero, List.set_cons_succ]
    by_cases hl5 : (r.length : Int) < 5
    · rw [decide_eq_true hl5] at third ⊢
      simp only [Bool.true_and] at third
      simp only [truA, if_true, eC, ix_ref, s3 _ _ g2, at0, itOf, s3 _ _ g1]
      refine lc_filt (p := fun y => !isConB y) (by simp [wipeA]) (s3 _ _ g1) r [] ?_ (by simp only [List.length_nil]; omega) ?_
      · intro y my Qb qb
        have ky := ((h0.mono (s1.trans s3)).2 _ ha).2 y (by simp [my])
        simp only [wipeA, bOr, bNot, bV, bB, eCall, eBin, eC, eVar, lCons, lNil, List.set_cons_zero, List.set_cons_succ, List.getElem?_cons_zero, List.getElem?_cons_succ]
        refine whole_ok hW ky.1 ?_
        cases y with
        | int i =>
          simp only [isIntB, truA, Bool.not_true, Bool.false_eq_true, if_false, ltA]
          have e1 : (!isConB (.int i)) = decide (i < 0) := by
            simp only [isConB]
            rw [← decide_not]
            exact decide_eq_decide.mpr (by omega)
          rw [e1] at qb; exact qb
        | _ => simp only [isIntB, truA, Bool.not_false, if_true]; exact qb
      · intro p6 e6
        simp only [eLst, lNil]
        refine ⟨nul, fun p7 e7 => eq_nil (by rw [up_ne (ne_fresh (up_same (a := p6)) e7)]; exact up_same) up_same ?_⟩
        have k := con_filter r
        simp only [Bool.false_eq_true, if_false, List.nil_append, k]
        exact third _ ((Sub.new e6).trans (Sub.new e7))
    · rw [decide_eq_false hl5] at third ⊢
      simp only [Bool.false_and] at third
      simp only [truA, Bool.false_eq_true, if_false]
      exact third _ .refl
  simp only [sIf, sNx, sSeq, bAnd, bV, bB, eIsi, eBin, eTup, eCall, eVar, eC, lCons, lNil, List.getElem?_cons_zero, truA]
  obtain ⟨⟨⟨t, e⟩, hs⟩, hx⟩ := h0
  refine ⟨t, e, ?_⟩
  cases a with
  | tup xs =>
    cases e
    have i1 : isiB "tuple" ["tuple"] = true := by decide
    simp only [i1, if_true]
    refine ⟨nul, .inr (.inr (.inl ⟨xs, rfl, rfl, ?_⟩))⟩
    cases xs with
    | nil => exact noRest _ .refl rfl rfl
    | cons x r =>
      simp only [if_true, List.isEmpty_cons, Bool.not_false, ix_tup, at0]
      refine spelt_ok hS ((hx _ rfl).2 x (by simp)) fun G1 s1 => ?_
      cases w : isWordB x
      · simp only [truA, Bool.false_eq_true, if_false]
        refine noRest G1 s1 (by simp only [isFactB, w, Bool.false_and, Bool.and_false]) ?_
        cases r with
        | nil => rfl
        | cons y r' => cases r' <;> cases y <;> simp [isNameB, w]
      · simp only [truA, if_true, sSet, eLst, eLc, iSeq, eSl, oNo, oSome, slA, eVar, eC, itOf, cut1, gNm, lCons, lNil, List.getElem?_cons_zero, List.set_cons_zero, List.set_cons_succ]
        refine lc_map (f := fun y => y) trivial r [] ?_ ?_ ?_
        · intro y my Q2 q2
          simpa only [wipeA, eVar, List.set_cons_zero, List.set_cons_succ, List.getElem?_cons_zero, List.getElem?_cons_succ] using q2
        · have := (hx _ rfl).1
          simp only [List.length_cons] at this
          simp only [List.length_nil]; omega
        · intro p1 e1
          refine ⟨(by show 1 ≤ sizeLine; decide), fun p2 e2 => ?_⟩
          have n12 := ne_fresh (up_same (a := p1)) e2
          refine yesRest p2 p1 x r _ (s1.trans ((Sub.new e1).trans (Sub.new e2))) rfl w up_same ?_
          rw [up_ne n12, up_same]; simp
  | _ =>
    have i1 : isiB t ["tuple"] = false := isi_no (.inr rfl) e (fun z => absurd z (by decide)) (fun _ z => by simp)
    simp only [i1, Bool.false_eq_true, if_false]; exact noRest _ .refl rfl rfl
end
end Q
/-! P8: k12: what is drawn: numbers, odd words, atoms. -/
namespace Q
open PySem PySem.Spec PyProof.Rows L2
def tk_number (c : Cal) : SA := (sSeq (sSet (eLst (lCons (eC (.int 0)) (lCons (eC (.int 1)) (lCons (eC (.int 2)) (lCons (eC (.int 4)) (lCons (eC (.int 5)) (lCons (eNeg (eC (.int 1))) (lCons (eCall c "_law_take" (lCons (eVar 0) (lCons (eC (.int 100)) lNil))) (lCons (eBin powA (eC (.int 10)) (eC (.int 39))) (lCons (eBin addA (eBin powA (eC (.int 10)) (eC (.int 60))) (eCall c "_law_take" (lCons (eVar 0) (lCons (eC (.int 9)) lNil)))) (lCons (eNeg (eBin powA (eC (.int 10)) (eC (.int 30)))) lNil))))))))))) (gNm 1))
  (sSeq (sRet (eBin ixA (eVar 1) (eCall c "_law_take" (lCons (eVar 0) (lCons (eC (.int 10)) lNil)))))
  sNx))
def tk_odd_word (c : Cal) : SA := (sSeq (sSet (eC (.str (Str.ofString " _-!0Aa\n`{"))) (gNm 2))
  (sSeq (sPar 3 4 (lCons (eCall c "_law_take" (lCons (eVar 0) (lCons (eBin addA (eBi lenA (lCons (eVar 1) lNil)) (eC (.int 1))) lNil))) (lCons (eBin ixA (eVar 2) (eCall c "_law_take" (lCons (eVar 0) (lCons (eC (.int 10)) lNil)))) lNil)))
  (sSeq (sSet (eLst (lCons (eBin addA (eBin addA (eSl (eVar 1) oNo (oSome (eVar 3))) (eVar 4)) (eSl (eVar 1) (oSome (eVar 3)) oNo)) (lCons (eBin addA (eSl (eVar 1) oNo (oSome (eVar 3))) (eSl (eVar 1) (oSome (eBin addA (eVar 3) (eC (.int 1)))) oNo)) (lCons (eBin mulA (eVar 1) (eC (.int 9))) (lCons (eC (.str (Str.ofString ""))) lNil))))) (gNm 5))
  (sSeq (sRet (eBin ixA (eBin addA (eVar 5) (eLst (lCons (eBin addA (eVar 1) (eC (.str (Str.ofString "abcdefgh")))) (lCons (eM "str" upperA (eVar 1) lNil) lNil)))) (eCall c "_law_take" (lCons (eVar 0) (lCons (eC (.int 6)) lNil)))))
  sNx))))
def tk_atom_of (c : Cal) : SA := (sSeq (sSet (eLst (lCons (eVar 1) (lCons (eCall c "_law_odd_word" (lCons (eVar 0) (lCons (eVar 1) lNil))) (lCons (eCall c "_law_number" (lCons (eVar 0) lNil)) (lCons (eC (.bl true)) (lCons (eC (.bl false)) (lCons (eC .non) (lCons (eLst lNil) (lCons eDct0 (lCons (eTup lNil) lNil)))))))))) (gNm 2))
  (sSeq (sRet (eBin ixA (eBin addA (eVar 2) (eLst (lCons (eLst (lCons (eLst (lCons (eLst (lCons (eLst (lCons (eLst (lCons (eLst (lCons (eLst (lCons (eLst lNil) lNil)) lNil)) lNil)) lNil)) lNil)) lNil)) lNil)) lNil))) (eCall c "_law_take" (lCons (eVar 0) (lCons (eC (.int 10)) lNil)))))
  sNx))
def tk_thing (c : Cal) : SA := (sSeq (sPar 2 3 (lCons (eCall c "_law_take" (lCons (eVar 0) (lCons (eC (.int 6)) lNil))) (lCons (eCall c "_law_take" (lCons (eVar 0) (lCons (eC (.int 6)) lNil))) lNil)))
  (sSeq (sIf (bB (eBin (eqA false) (eVar 2) (eC (.int 0)))) (sSeq (sRet (eCall c "_law_atom_of" (lCons (eVar 0) (lCons (eVar 1) lNil))))
  sNx) sNx)
  (sSeq (sSet (eBin addA (eLst (lCons (eVar 1) lNil)) (eLc (iRng1 (eVar 3)) (gNm 5) bYes (eCall c "_law_number" (lCons (eVar 0) lNil)) [5])) (gNm 4))
  (sSeq (sIf (bB (eBin ltA (eVar 2) (eC (.int 3)))) (sSeq (sRet (eBi tupleA (lCons (eVar 4) lNil)))
  sNx) sNx)
  (sSeq (sIf (bB (eBin (eqA false) (eVar 2) (eC (.int 3)))) (sSeq (sRet (eTup (lCons (eVar 1) (lCons (eBin ixA (eLst (lCons (eCall c "_law_take" (lCons (eVar 0) (lCons (eC (.int 6)) lNil))) (lCons (eCall c "_law_number" (lCons (eVar 0) lNil)) (lCons (eC (.bl true)) (lCons (eC (.str (Str.ofString "1"))) lNil))))) (eCall c "_law_take" (lCons (eVar 0) (lCons (eC (.int 4)) lNil)))) lNil))))
  sNx) sNx)
  (sSeq (sSet (eCall c "_law_take" (lCons (eVar 0) (lCons (eBi lenA (lCons (eVar 4) lNil)) lNil))) (gNm 6))
  (sSeq (sSet (eBin addA (eBin addA (eSl (eVar 4) oNo (oSome (eVar 6))) (eLst (lCons (eCall c "_law_atom_of" (lCons (eVar 0) (lCons (eVar 1) lNil))) lNil))) (eSl (eVar 4) (oSome (eBin addA (eVar 6) (eC (.int 1)))) oNo)) (gNm 4))
  (sSeq (sRet (eIf (bAnd (bB (eBin (eqA false) (eVar 2) (eC (.int 4)))) (bB (eBin gtA (eVar 3) (eC (.int 3))))) (eVar 4) (eBi tupleA (lCons (eVar 4) lNil))))
  sNx))))))))

theorem atI_mem {α : Type} {xs : List α} {i : Int} (h0 : 0 ≤ i) (h1 : i < xs.length) : ∃ x ∈ xs, L2.atI xs i = some x := by
  obtain ⟨k, rfl⟩ : ∃ k : Nat, i = k := ⟨i.toNat, by omega⟩
  exact ⟨_, List.getElem_mem _, atI_nat (by omega)⟩
section
variable {FT : FTab} {n : Nat} {G : Gp} {a : A} {b : Addr} {P : Int} {Q : KA} {X : KX}
theorem number_ok (hT : FT (Str.ofString "_law_take") = some ⟨2, 7, tk_take⟩) (hF : FT (Str.ofString "_law_number") = some ⟨1, 2, tk_number⟩) (B : Bag b P G) (hP : P ≤ 2 ^ 59)
    (q : ∀ (i : Int) G', i.natAbs < 10 ^ 62 → Bag b (P + 3) G' → Sub (rm b G) (rm b G') → Q (.int i) G') : runF FT (n + 2) "_law_number" [.ref b] G Q X := by
  refine ⟨_, hF, rfl, ?_⟩
  show tk_number (runF FT (n + 1)) _ [some (.ref b), none] G
  have hbn : (2 : Int) ^ 59 = 576460752303423488 := by decide
  have hbm : (2 : Int) ^ 60 = 1152921504606846976 := by decide
  unfold tk_number
  refine seq_i fun R hR => ?_
  simp only [sSet, eLst, eNeg, eBin, eCall, eVar, eC, lCons, lNil, gNm, addA, powA, intA, List.getElem?_cons_zero, List.set_cons_zero, List.set_cons_succ]
  refine take_ok (many := 100) hT B (by omega) (by decide) (by decide) fun d1 G1 d10 d11 B1 r1 => ?_
  refine ⟨⟨by decide, by decide, by decide⟩, ⟨by decide, by decide, by decide⟩, take_ok (many := 9) hT B1 (by omega) (by decide) (by decide) fun d2 G2 d20 d21 B2 r2 => ?_⟩
  refine ⟨⟨by decide, by decide, by decide⟩, (by show 10 ≤ sizeLine; decide), fun p e => hR _ _ ?_⟩
  have all : ∀ x ∈ [A.int 0, .int 1, .int 2, .int 4, .int 5, .int (-1), .int d1, .int (10 ^ (39 : Int).toNat), .int (10 ^ (60 : Int).toNat + d2), .int (-10 ^ (30 : Int).toNat)], ∃ i : Int, x = .int i ∧ i.natAbs < 10 ^ 62 := by
    have c1 : (10 : Int) ^ (39 : Int).toNat = 1000000000000000000000000000000000000000 := by decide
    have c2 : (10 : Int) ^ (60 : Int).toNat = 1000000000000000000000000000000000000000000000000000000000000 := by decide
    have c3 : (10 : Int) ^ (30 : Int).toNat = 1000000000000000000000000000000 := by decide
    have c4 : (10 : Nat) ^ 62 = 100000000000000000000000000000000000000000000000000000000000000 := by decide
    intro x hx
    simp only [List.mem_cons, List.not_mem_nil, or_false] at hx
    rcases hx with rfl | rfl | rfl | rfl | rfl | rfl | rfl | rfl | rfl | rfl <;> exact ⟨_, rfl, by omega⟩
  have nb := B2.ne e
  have B3 := B2.new (o := .lst [A.int 0, .int 1, .int 2, .int 4, .int 5, .int (-1), .int d1, .int (10 ^ (39 : Int).toNat), .int (10 ^ (60 : Int).toNat + d2), .int (-10 ^ (30 : Int).toNat)]) e
  simp only [sSeq, sRet, eBin, eCall, eVar, eC, lCons, lNil, List.getElem?_cons_zero, List.getElem?_cons_succ]
  refine take_ok (many := 10) hT B3 (by omega) (by decide) (by decide) fun d3 G3 d30 d31 B4 r4 => ?_
  have g := keep r4 nb up_same
  rw [ix_ref, g]
  obtain ⟨x, mx, ex⟩ := atI_mem (xs := [A.int 0, .int 1, .int 2, .int 4, .int 5, .int (-1), .int d1, .int (10 ^ (39 : Int).toNat), .int (10 ^ (60 : Int).toNat + d2), .int (-10 ^ (30 : Int).toNat)]) d30 (by show d3 < 10; exact d31)
  simp only [ex]
  obtain ⟨i, rfl, hi⟩ := all x mx
  refine q i G3 hi (B4.more (by omega)) ?_
  rw [r4, ← r1, ← r2]
  exact rm_new e
theorem upper_list (z : Str) : (Txt.upper z).cps.toList = (z.cps.toList.map Unicode.upperOf).flatten := by
  unfold Txt.upper placed
  rw [show (z.cps.mapIdx fun i c => ((fun (_ : Nat) (c : Nat) => Unicode.upperOf c) i c).toArray) = z.cps.map fun c => (Unicode.upperOf c).toArray from by apply Array.ext <;> simp]
  simp [Array.toList_flatten, List.map_map, Function.comp_def]
theorem upper_facts : ∀ c : Fin 128, decide (low c.1) = true → Unicode.upperOf c.1 = [c.1 - 32] := by decide +kernel
theorem upper_low : ∀ l : List Nat, (∀ c ∈ l, low c) → (l.map Unicode.upperOf).flatten = l.map (· - 32)
  | [], _ => rfl
  | c :: r, h => by
    have l1 : low c := h c (by simp)
    have l2 : c < 128 := by unfold low at l1; omega
    have l3 : Unicode.upperOf c = [c - 32] := upper_facts ⟨c, l2⟩ (by simpa using l1)
    rw [List.map_cons, List.flatten_cons, l3, upper_low r fun d m => h d (by simp [m])]
    rfl
theorem Cs.upper {z : Str} {L : Nat} (h : Cs low L z) : Cs asc L (Txt.upper z) := by
  have e := upper_low z.cps.toList h.2
  refine ⟨?_, fun c m => ?_⟩
  · rw [len_list, upper_list, e, List.length_map]; exact h.1
  · rw [upper_list, e] at m
    simp only [List.mem_map] at m
    obtain ⟨d, md, rfl⟩ := m
    have l1 : low d := h.2 d md
    unfold low at l1
    unfold asc; omega
theorem odd_signs : ∀ c ∈ (Str.ofString " _-!0Aa\n`{").cps.toList, asc c := by decide +kernel
theorem odd_len : (Str.ofString " _-!0Aa\n`{").cps.toList.length = 10 ∧ (Str.ofString " _-!0Aa\n`{").length ≤ sizeLine := by decide +kernel
theorem odd_word_ok (hT : FT (Str.ofString "_law_take") = some ⟨2, 7, tk_take⟩) (hF : FT (Str.ofString "_law_odd_word") = some ⟨2, 6, tk_odd_word⟩) (B : Bag b P G) (hP : P ≤ 2 ^ 59) {w : Str} (hw : Cs low 24 w)
    (q : ∀ (z : Str) G', Cs asc 300 z → Bag b (P + 3) G' → Sub (rm b G) (rm b G') → Q (.str z) G') : runF FT (n + 2) "_law_odd_word" [.ref b, .str w] G Q X := by
  refine ⟨_, hF, rfl, ?_⟩
  show tk_odd_word (runF FT (n + 1)) _ [some (.ref b), some (.str w), none, none, none, none] G
  have hbn : (2 : Int) ^ 59 = 576460752303423488 := by decide
  have hbm : (2 : Int) ^ 60 = 1152921504606846976 := by decide
  have hz : sizeLine = 16777216 := by decide
  have hl := hw.1
  unfold tk_odd_word
  refine seq_i fun R hR => ?_
  simp only [sSet, eC, gNm, List.set_cons_zero, List.set_cons_succ]
  refine hR _ _ ?_
  clear hR R
  refine seq_i fun R hR => ?_
  simp only [sPar, eBin, eBi, eCall, eVar, eC, lCons, lNil, lenA, addA, List.getElem?_cons_zero, List.getElem?_cons_succ, List.set_cons_zero, List.set_cons_succ]
  refine ⟨by omega, take_ok hT B (by omega) (by omega) (by omega) fun at_ G1 a0 a1 B1 r1 => ?_⟩
  refine take_ok (many := 10) hT B1 (by omega) (by decide) (by decide) fun d G2 d0 d1 B2 r2 => ?_
  obtain ⟨c, ec, hc⟩ := char_at odd_signs (i := d) d0 (by rw [odd_len.1]; exact d1)
  simp only [ixA]
  refine ⟨odd_len.2, c, ec, hR _ _ ?_⟩
  clear hR R
  refine seq_i fun R hR => ?_
  have hA : Cs asc 24 w := hw.imp fun _ h => low_asc h
  have c1 := hA.cut (lo := none) (hi := some at_)
  have c2 := hA.cut (lo := some at_) (hi := none)
  have c3 := hA.cut (lo := some (at_ + 1)) (hi := none)
  have h1 : Cs asc 1 ⟨#[c]⟩ := Cs.one hc
  have k1 := (c1.app h1).app c2
  have k2 := c1.app c3
  have k3 := hA.mul (k := 9) (n := 9) (by decide)
  have k4 : Cs asc 32 (w ++ Str.ofString "abcdefgh") := hA.app (M := 8) (by decide +kernel)
  have k5 := hw.upper
  have m1 := c1.1
  have m2 := c2.1
  have m3 := c3.1
  have m4 := h1.1
  have m5 := (c1.app h1).1
  have m6 := k4.1
  simp only [sSet, eLst, eSl, oNo, oSome, slA, eBin, eVar, eC, lCons, lNil, gNm, addA, mulA, List.getElem?_cons_zero, List.getElem?_cons_succ, List.set_cons_zero, List.set_cons_succ]
  refine ⟨by omega, by omega, by omega, by omega, by omega, by omega, by omega, MulOk.small (by omega) (by decide) (by decide), (by show 4 ≤ sizeLine; decide), fun p e => hR _ _ ?_⟩
  clear hR R
  have nb := B2.ne e
  have B3 := B2.new (o := .lst [A.str (cutS w none (some at_) ++ ⟨#[c]⟩ ++ cutS w (some at_) none), .str (cutS w none (some at_) ++ cutS w (some (at_ + 1)) none), .str (Txt.mul w 9), .str (Str.ofString "")]) e
  have S3 : Sub (rm b G) (rm b (up G2 p (.lst [A.str (cutS w none (some at_) ++ ⟨#[c]⟩ ++ cutS w (some at_) none), .str (cutS w none (some at_) ++ cutS w (some (at_ + 1)) none), .str (Txt.mul w 9), .str (Str.ofString "")]))) := by
    rw [← r1, ← r2]; exact rm_new e
  have g3 := up_same (G := G2) (a := p) (o := .lst [A.str (cutS w none (some at_) ++ ⟨#[c]⟩ ++ cutS w (some at_) none), .str (cutS w none (some at_) ++ cutS w (some (at_ + 1)) none), .str (Txt.mul w 9), .str (Str.ofString "")])
  generalize up G2 p (.lst [A.str (cutS w none (some at_) ++ ⟨#[c]⟩ ++ cutS w (some at_) none), .str (cutS w none (some at_) ++ cutS w (some (at_ + 1)) none), .str (Txt.mul w 9), .str (Str.ofString "")]) = G3 at B3 S3 g3 ⊢
  simp only [sSeq, sRet, eLst, eM, upperA, tyA, eBin, eCall, eVar, eC, lCons, lNil, addA, List.getElem?_cons_zero, List.getElem?_cons_succ]
  refine ⟨by have z8 : (Str.ofString "abcdefgh").length = 8 := by decide +kernel
             omega, trivial, w, rfl, trivial, by omega, (by show 2 ≤ sizeLine; decide), fun p2 e2 => ?_⟩
  have n2 := ne_fresh g3 e2
  simp only [up_same, up_ne n2, g3]
  refine ⟨(by show 6 ≤ sizeLine; decide), fun p3 e3 => ?_⟩
  have C2 := B3.new (o := .lst [A.str (w ++ Str.ofString "abcdefgh"), .str (Txt.upper w)]) e2
  have nb3 := C2.ne e3
  have C3 := C2.new (o := .lst ([A.str (cutS w none (some at_) ++ ⟨#[c]⟩ ++ cutS w (some at_) none), .str (cutS w none (some at_) ++ cutS w (some (at_ + 1)) none), .str (Txt.mul w 9), .str (Str.ofString "")] ++ [A.str (w ++ Str.ofString "abcdefgh"), .str (Txt.upper w)])) e3
  refine take_ok (many := 6) hT C3 (by omega) (by decide) (by decide) fun d3 G6 d30 d31 B6 r6 => ?_
  have g6 := keep r6 nb3 up_same
  rw [ix_ref, g6]
  obtain ⟨x, mx, ex⟩ := atI_mem (xs := ([A.str (cutS w none (some at_) ++ ⟨#[c]⟩ ++ cutS w (some at_) none), .str (cutS w none (some at_) ++ cutS w (some (at_ + 1)) none), .str (Txt.mul w 9), .str (Str.ofString "")] ++ [A.str (w ++ Str.ofString "abcdefgh"), .str (Txt.upper w)])) d30 (by show d3 < 6; exact d31)
  simp only [ex]
  have all : ∃ z, x = .str z ∧ Cs asc 300 z := by
    simp only [List.cons_append, List.nil_append, List.mem_cons, List.not_mem_nil, or_false] at mx
    rcases mx with rfl | rfl | rfl | rfl | rfl | rfl
    · exact ⟨_, rfl, k1.more (by decide)⟩
    · exact ⟨_, rfl, k2.more (by decide)⟩
    · exact ⟨_, rfl, k3.more (by decide)⟩
    · exact ⟨_, rfl, by decide +kernel⟩
    · exact ⟨_, rfl, k4.more (by decide)⟩
    · exact ⟨_, rfl, k5.more (by decide)⟩
  obtain ⟨z, rfl, hz2⟩ := all
  refine q z G6 hz2 (B6.more (by omega)) ?_
  rw [r6]
  exact S3.trans ((rm_new e2).trans (rm_new e3))
end
end Q
/-! P9: k12: atoms, things. -/
namespace Q
open PySem PySem.Spec PyProof.Rows L2
/-- data whose text is not long -/
def Sm (D W : Nat) (d : PyData) : Prop := d.leavesShort 300 = true ∧ d.showable = true ∧ d.depth ≤ D ∧ d.weight ≤ W
def AtK (G : Gp) (a : A) : Prop := (∃ d, Dat 12 G a d ∧ Sm 12 400 d) ∧ Kn G a ∧ ∀ xs, a = .tup xs → xs = []
theorem AtK.mono {G G' : Gp} {a : A} (h : AtK G a) (s : Sub G G') : AtK G' a := ⟨let ⟨d, h1, h2⟩ := h.1; ⟨d, h1.mono s, h2⟩, h.2.1.mono s, h.2.2⟩
section
variable {G : Gp}
theorem AtK.non : AtK G .non := ⟨⟨_, Dat.non.more (by decide), rfl, rfl, by decide, by decide⟩, ⟨⟨_, rfl⟩, fun _ e => by cases e⟩, fun _ e => by cases e⟩
theorem AtK.bl {b : Bool} : AtK G (.bl b) := ⟨⟨_, Dat.bl.more (by decide), rfl, rfl, by simp [PyData.depth], by simp [PyData.weight]⟩, ⟨⟨_, rfl⟩, fun _ e => by cases e⟩, fun _ e => by cases e⟩
theorem AtK.int {i : Int} (h : i.natAbs < 10 ^ 62) : AtK G (.int i) := by
  have hl : i.natAbs.log2 < 206 := by
    by_cases z : i.natAbs = 0
    · rw [z]; decide
    · refine (Nat.log2_lt z).mpr (Nat.lt_of_lt_of_le h (by decide))
  have l1 := int_text_length_le (a := i) (k := 206) (by decide) hl
  refine ⟨⟨_, Dat.int.more (by decide), ?_, ?_, by simp [PyData.depth], ?_⟩, ⟨⟨_, rfl⟩, fun _ e => by cases e⟩, fun _ e => by cases e⟩
  · have l2 : (PyData.int i).shown.length ≤ 300 := by
      have e : (PyData.int i).shown = Str.ofString (toString i) := by simp only [PyData.shown]
      rw [e, PySem.ofString_length]; omega
    simp only [PyData.leavesShort]
    exact decide_eq_true l2
  · simp only [PyData.showable, decide_eq_true_eq]; omega
  · simp only [PyData.weight]; split <;> omega
theorem AtK.str {z : Str} (h : Cs asc 300 z) : AtK G (.str z) := by
  refine ⟨⟨_, Dat.str.more (by decide), ?_, rfl, by simp [PyData.depth], ?_⟩, ⟨⟨_, rfl⟩, fun y e => by cases e; exact h⟩, fun _ e => by cases e⟩
  · simp only [PyData.leavesShort, List.all_eq_true, decide_eq_true_eq]
    intro c m
    have : c < 128 := h.2 c m
    exact Nat.lt_of_lt_of_le this (by decide)
  · have := h.1
    simp only [PyData.weight]
    unfold Str.length at this; omega
theorem AtK.tup0 : AtK G (.tup []) := ⟨⟨_, (Dat.tup (k := 0) .nil).more (by decide), rfl, rfl, by decide, by decide⟩, ⟨⟨_, rfl⟩, fun _ e => by cases e⟩, fun _ e => by cases e; rfl⟩
theorem AtK.lst0 {p : Addr} (e : G p = some (.lst [])) : AtK G (.ref p) := ⟨⟨_, (Dat.lst (k := 0) e .nil).more (by decide), rfl, rfl, by decide, by decide⟩, ⟨⟨"list", by simp only [tyName, e]⟩, fun _ e => by cases e⟩, fun _ e => by cases e⟩
theorem AtK.dct0 {p : Addr} (e : G p = some (.dct [])) : AtK G (.ref p) := ⟨⟨_, (Dat.dct0 e).more (by decide), rfl, rfl, by decide, by decide⟩, ⟨⟨"dict", by simp only [tyName, e]⟩, fun _ e => by cases e⟩, fun _ e => by cases e⟩
/-- lists in lists -/
def Nst (t : EA) (k : Nat) (d : PyData) : Prop := ∀ (b : Addr) ς G Q X, G b ≠ none → (∀ p G', Sub G G' → Sub (rm b G) (rm b G') → Dat k (rm b G') (.ref p) d → (∃ xs, rm b G' p = some (.lst xs)) → Q (.ref p) G') → t ς G Q X
theorem Nst.zero : Nst (eLst lNil) 1 (.list []) := fun b ς G Q X hb q => by
  simp only [eLst, lNil]
  refine ⟨by decide, fun p e => ?_⟩
  have n : p ≠ b := fun z => by subst z; exact hb e
  have g : rm b (up G p (.lst [])) p = some (.lst []) := by rw [rm_ne n]; exact up_same
  exact q p _ (.new e) (rm_new e) (Dat.lst g .nil) ⟨_, g⟩
theorem Nst.succ {t : EA} {k : Nat} {d : PyData} (h : Nst t k d) : Nst (eLst (lCons t lNil)) (k + 1) (.list [d]) := fun b ς G Q X hb q => by
  simp only [eLst, lCons, lNil]
  refine h b ς G _ X hb fun p1 G1 s1 r1 d1 _ => ⟨(by show 1 ≤ sizeLine; decide), fun p e => ?_⟩
  have n : p ≠ b := fun z => by
    subst z
    cases g : G p with
    | none => exact hb g
    | some o => have := s1 _ _ g; rw [e] at this; cases this
  have g : rm b (up G1 p (.lst [.ref p1])) p = some (.lst [.ref p1]) := by rw [rm_ne n]; exact up_same
  exact q p _ (s1.trans (.new e)) (r1.trans (rm_new e)) (Dat.lst g (.cons (d1.mono (rm_new e)) .nil)) ⟨_, g⟩
end
section
variable {FT : FTab} {n : Nat} {G : Gp} {a : A} {b : Addr} {P : Int} {Q : KA} {X : KX}
theorem nst8 : Nst (eLst (lCons (eLst (lCons (eLst (lCons (eLst (lCons (eLst (lCons (eLst (lCons (eLst (lCons (eLst lNil) lNil)) lNil)) lNil)) lNil)) lNil)) lNil)) lNil)) 8
    (.list [.list [.list [.list [.list [.list [.list [.list []]]]]]]]) := Nst.zero.succ.succ.succ.succ.succ.succ.succ
theorem atom_ok (hT : FT (Str.ofString "_law_take") = some ⟨2, 7, tk_take⟩) (hN : FT (Str.ofString "_law_number") = some ⟨1, 2, tk_number⟩) (hO : FT (Str.ofString "_law_odd_word") = some ⟨2, 6, tk_odd_word⟩) (hF : FT (Str.ofString "_law_atom_of") = some ⟨2, 3, tk_atom_of⟩)
    (B : Bag b P G) (hP : P ≤ 2 ^ 58) {w : Str} (hw : Cs low 24 w)
    (q : ∀ (x : A) G', AtK (rm b G') x → Bag b (P + 8) G' → Sub (rm b G) (rm b G') → Q x G') : runF FT (n + 3) "_law_atom_of" [.ref b, .str w] G Q X := by
  refine ⟨_, hF, rfl, ?_⟩
  show tk_atom_of (runF FT (n + 2)) _ [some (.ref b), some (.str w), none] G
  have hba : (2 : Int) ^ 58 = 288230376151711744 := by decide
  have hbn : (2 : Int) ^ 59 = 576460752303423488 := by decide
  have hbm : (2 : Int) ^ 60 = 1152921504606846976 := by decide
  unfold tk_atom_of
  refine seq_i fun R hR => ?_
  simp only [sSet, eCall, eVar, eC, lCons, gNm, List.getElem?_cons_zero, List.getElem?_cons_succ, List.set_cons_zero, List.set_cons_succ, eLst, eDct0, eTup, lNil]
  refine odd_word_ok hT hO B (by omega) hw fun z1 G1 hz1 B1 S1 => ?_
  refine number_ok hT hN B1 (by omega) fun i G2 hi B2 S2 => ?_
  refine ⟨by decide, fun pa ea => ?_⟩
  have na := B2.ne ea
  have B3 := B2.new (o := .lst []) ea
  intro pb eb
  have nb := B3.ne eb
  have B4 := B3.new (o := .dct []) eb
  refine ⟨by decide, (by show 9 ≤ sizeLine; decide), fun pc ec => hR _ _ ?_⟩
  have nc := B4.ne ec
  have B5 := B4.new (o := .lst [A.str w, .str z1, .int i, .bl true, .bl false, .non, .ref pa, .ref pb, .tup []]) ec
  have S5 : Sub (rm b G) (rm b (up (up (up G2 pa (.lst [])) pb (.dct [])) pc (.lst [A.str w, .str z1, .int i, .bl true, .bl false, .non, .ref pa, .ref pb, .tup []]))) :=
    S1.trans (S2.trans ((rm_new ea).trans ((rm_new eb).trans (rm_new ec))))
  have ga : up (up (up G2 pa (.lst [])) pb (.dct [])) pc (.lst [A.str w, .str z1, .int i, .bl true, .bl false, .non, .ref pa, .ref pb, .tup []]) pa = some (.lst []) :=
    Sub.new ec _ _ (Sub.new eb _ _ up_same)
  have gb : up (up (up G2 pa (.lst [])) pb (.dct [])) pc (.lst [A.str w, .str z1, .int i, .bl true, .bl false, .non, .ref pa, .ref pb, .tup []]) pb = some (.dct []) :=
    Sub.new ec _ _ up_same
  have gc := up_same (G := up (up G2 pa (.lst [])) pb (.dct [])) (a := pc) (o := .lst [A.str w, .str z1, .int i, .bl true, .bl false, .non, .ref pa, .ref pb, .tup []])
  generalize up (up (up G2 pa (.lst [])) pb (.dct [])) pc (.lst [A.str w, .str z1, .int i, .bl true, .bl false, .non, .ref pa, .ref pb, .tup []]) = G5 at B5 S5 ga gb gc ⊢
  clear hR R
  show (sSeq (sRet (eBin ixA (eBin addA (eVar 2) (eLst (lCons _ lNil))) _)) sNx) _ _ _
  simp only [sSeq, sRet, eBin, eVar, List.getElem?_cons_zero, List.getElem?_cons_succ]
  rw [eLst]
  simp only [lCons, lNil]
  refine nst8 b _ G5 _ _ B5.at fun p6 G6 s6 r6 d6 ⟨xs6, e6⟩ => ?_
  refine ⟨(by show 1 ≤ sizeLine; decide), fun p7 e7 => ?_⟩
  have B6 := B5.sub s6
  have gc7 : up G6 p7 (.lst [.ref p6]) pc = _ := Sub.new e7 _ _ (s6 _ _ gc)
  have B7 := B6.new (o := .lst [.ref p6]) e7
  simp only [addA, gc7, up_same]
  refine ⟨(by show 10 ≤ sizeLine; decide), fun p8 e8 => ?_⟩
  have n8 := B7.ne e8
  have B8 := B7.new (o := .lst ([A.str w, .str z1, .int i, .bl true, .bl false, .non, .ref pa, .ref pb, .tup []] ++ [.ref p6])) e8
  simp only [eCall, lCons, lNil, eVar, eC, List.getElem?_cons_zero]
  refine take_ok (many := 10) hT B8 (by omega) (by decide) (by decide) fun d G9 d0 d1 B9 r9 => ?_
  have g9 := keep r9 n8 up_same
  rw [ix_ref, g9]
  obtain ⟨x, mx, ex⟩ := atI_mem (xs := ([A.str w, .str z1, .int i, .bl true, .bl false, .non, .ref pa, .ref pb, .tup []] ++ [.ref p6])) d0 (by show d < 10; exact d1)
  simp only [ex]
  have T9 : Sub (rm b G6) (rm b G9) := by rw [r9]; exact (rm_new e7).trans (rm_new e8)
  refine q x G9 ?_ (B9.more (by omega)) (S5.trans (r6.trans T9))
  have rr : Sub (rm b G5) (rm b G9) := r6.trans T9
  simp only [List.cons_append, List.nil_append, List.mem_cons, List.not_mem_nil, or_false] at mx
  rcases mx with rfl | rfl | rfl | rfl | rfl | rfl | rfl | rfl | rfl | rfl
  · exact .str ((hw.imp fun _ h => low_asc h).more (by decide))
  · exact .str hz1
  · exact .int hi
  · exact .bl
  · exact .bl
  · exact .non
  · exact .lst0 (rr _ _ (by rw [rm_ne na]; exact ga))
  · exact .dct0 (rr _ _ (by rw [rm_ne nb]; exact gb))
  · exact .tup0
  · exact ⟨⟨_, (d6.mono T9).more (by decide), rfl, rfl, by decide, by decide⟩, ⟨⟨"list", by simp only [tyName, T9 _ _ e6]⟩, fun _ e => by cases e⟩, fun _ e => by cases e⟩
end
end Q
/-! P10: k12: things. -/
namespace Q
open PySem PySem.Spec PyProof.Rows L2
def ThK (G : Gp) (a : A) : Prop := (∃ d, Dat 14 G a d ∧ Sm 14 4000 d) ∧ KnT G a
theorem ThK.mono {G G' : Gp} {a : A} (h : ThK G a) (s : Sub G G') : ThK G' a := ⟨let ⟨d, h1, h2⟩ := h.1; ⟨d, h1.mono s, h2⟩, h.2.mono s⟩
section
variable {G : Gp}
theorem row_data : ∀ xs : List A, (∀ x ∈ xs, AtK G x) → ∃ ds, Dats 12 G xs ds ∧ PyData.leavesShortAll 300 ds = true ∧ PyData.showableAll ds = true ∧ PyData.depthAll ds ≤ 12 ∧ PyData.weightAll ds ≤ 401 * xs.length
  | [], _ => ⟨[], .nil, rfl, rfl, by decide, by decide⟩
  | x :: xs, h => by
    obtain ⟨ds, h1, h2, h3, h4, h5⟩ := row_data xs fun y m => h y (by simp [m])
    obtain ⟨⟨d, k1, k2, k3, k4, k5⟩, _⟩ := h x (by simp)
    refine ⟨d :: ds, .cons k1 h1, ?_, ?_, ?_, ?_⟩
    · simp only [PyData.leavesShortAll, k2, h2, Bool.and_self]
    · simp only [PyData.showableAll, k3, h3, Bool.and_self]
    · simp only [PyData.depthAll]; omega
    · simp only [PyData.weightAll, List.length_cons]; omega
theorem AtK.th {a : A} (h : AtK G a) : ThK G a := by
  obtain ⟨⟨d, h1, h2, h3, h4, h5⟩, k, t⟩ := h
  refine ⟨⟨d, h1.more (by decide), h2, h3, by omega, by omega⟩, k, fun xs e => ?_⟩
  have z := t xs e
  subst z
  exact ⟨by simp, fun x m => by simp at m⟩
theorem ThK.tup {xs : List A} (h : ∀ x ∈ xs, AtK G x) (hl : xs.length ≤ 8) : ThK G (.tup xs) := by
  obtain ⟨ds, h1, h2, h3, h4, h5⟩ := row_data xs h
  refine ⟨⟨_, (Dat.tup h1).more (by decide), ?_, ?_, ?_, ?_⟩, ⟨⟨_, rfl⟩, fun _ e => by cases e⟩, fun ys e => ?_⟩
  · simpa only [PyData.leavesShort] using h2
  · simpa only [PyData.showable] using h3
  · simp only [PyData.depth]; omega
  · simp only [PyData.weight]; omega
  · cases e; exact ⟨by omega, fun x m => (h x m).2.1⟩
theorem ThK.lst {xs : List A} {p : Addr} (e : G p = some (.lst xs)) (h : ∀ x ∈ xs, AtK G x) (hl : xs.length ≤ 8) : ThK G (.ref p) := by
  obtain ⟨ds, h1, h2, h3, h4, h5⟩ := row_data xs h
  refine ⟨⟨_, (Dat.lst e h1).more (by decide), ?_, ?_, ?_, ?_⟩, ⟨⟨"list", by simp only [tyName, e]⟩, fun _ e => by cases e⟩, fun ys e => by cases e⟩
  · simpa only [PyData.leavesShort] using h2
  · simpa only [PyData.showable] using h3
  · simp only [PyData.depth]; omega
  · simp only [PyData.weight]; omega
end
section
variable {FT : FTab} {n : Nat} {G : Gp} {a : A} {b : Addr} {P : Int} {Q : KA} {X : KX}
theorem thing_ok (hT : FT (Str.ofString "_law_take") = some ⟨2, 7, tk_take⟩) (hN : FT (Str.ofString "_law_number") = some ⟨1, 2, tk_number⟩) (hO : FT (Str.ofString "_law_odd_word") = some ⟨2, 6, tk_odd_word⟩) (hA : FT (Str.ofString "_law_atom_of") = some ⟨2, 3, tk_atom_of⟩)
    (hF : FT (Str.ofString "_law_thing") = some ⟨2, 7, tk_thing⟩) (B : Bag b P G) (hP : P ≤ 2 ^ 57) {w : Str} (hw : Cs low 24 w)
    (q : ∀ (x : A) G', ThK (rm b G') x → Bag b (P + 60) G' → Sub (rm b G) (rm b G') → Q x G') : runF FT (n + 4) "_law_thing" [.ref b, .str w] G Q X := by
  refine ⟨_, hF, rfl, ?_⟩
  show tk_thing (runF FT (n + 3)) _ [some (.ref b), some (.str w), none, none, none, none, none] G
  have hb7 : (2 : Int) ^ 57 = 144115188075855872 := by decide
  have hba : (2 : Int) ^ 58 = 288230376151711744 := by decide
  have hbn : (2 : Int) ^ 59 = 576460752303423488 := by decide
  have hbm : (2 : Int) ^ 60 = 1152921504606846976 := by decide
  have hW : ∀ G : Gp, AtK G (.str w) := fun G => .str ((hw.imp fun _ h => low_asc h).more (by decide))
  unfold tk_thing
  refine seq_i fun R hR => ?_
  simp only [sPar, eCall, eVar, eC, lCons, lNil, List.getElem?_cons_zero, List.set_cons_zero, List.set_cons_succ]
  refine take_ok (many := 6) hT B (by omega) (by decide) (by decide) fun way G1 w0 w1 B1 r1 => ?_
  refine take_ok (many := 6) hT B1 (by omega) (by decide) (by decide) fun many G2 m0 m1 B2 r2 => ?_
  have S2 : Sub (rm b G) (rm b G2) := by rw [r2, r1]; exact .refl
  refine hR _ _ ?_
  clear hR R
  refine seq_i fun R hR => ?_
  simp only [sIf, sNx, sSeq, sRet, bB, eBin, eCall, eVar, eC, lCons, lNil, eq_int, Bool.false_eq_true, if_false, List.getElem?_cons_zero, List.getElem?_cons_succ]
  by_cases hw0 : (way == 0) = true
  · rw [if_pos hw0]
    exact atom_ok hT hN hO hA B2 (by omega) hw fun x G3 hx B3 S3 => q x G3 hx.th (B3.more (by omega)) (S2.trans S3)
  rw [if_neg hw0]
  refine hR _ _ ?_
  clear hR R
  refine seq_i fun R hR => ?_
  simp only [sSet, eBin, eLst, eLc, iRng1, eVar, lCons, lNil, gNm, List.getElem?_cons_zero, List.getElem?_cons_succ, List.set_cons_zero, List.set_cons_succ]
  refine ⟨(by show 1 ≤ sizeLine; decide), fun p3 e3 => ⟨by omega, by omega, ?_⟩⟩
  have n3 := B2.ne e3
  have B3 := B2.new (o := .lst [.str w]) e3
  have g3 : up G2 p3 (.lst [.str w]) p3 = some (.lst [.str w]) := up_same
  have S3 : Sub (rm b G) (rm b (up G2 p3 (.lst [.str w]))) := S2.trans (rm_new e3)
  generalize up G2 p3 (.lst [.str w]) = G3 at B3 g3 S3 ⊢
  refine lc_inv 6 (by decide) (fun acc G' => (∀ x ∈ acc, ∃ i : Int, x = .int i ∧ i.natAbs < 10 ^ 62) ∧ Bag b (P + 2 + 3 * acc.length) G' ∧ Sub (rm b G3) (rm b G')) (fun _ _ _ => trivial) _ _ _ ?_ ⟨by simp, B3.more (by simp only [List.length_nil]; omega), .refl⟩ (by simp only [List.length_nil, List.length_map, List.length_range]; omega) ?_
  · rintro x hx acc Gx Qx hl ⟨hi, Bx, sx⟩ qx
    simp only [wipeA, eCall, eVar, lCons, lNil, List.set_cons_zero, List.set_cons_succ, List.getElem?_cons_zero, List.getElem?_cons_succ]
    refine number_ok hT hN Bx (by omega) fun i Gy hy By sy => qx _ _ ⟨?_, By.more (by simp only [List.length_append, List.length_cons, List.length_nil]; omega), sx.trans sy⟩
    intro z mz
    rcases List.mem_append.mp mz with mz | mz
    · exact hi z mz
    · simp at mz; exact ⟨i, mz, hy⟩
  rintro acc G4 hl4 ⟨hi, B4, S4⟩
  simp only [List.length_nil, List.length_map, List.length_range, Nat.zero_add] at hl4
  intro p4 e4
  have g34 := keepS S4 n3 g3
  have n34 := ne_fresh g34 e4
  simp only [addA, up_ne n34, g34, up_same]
  refine ⟨by simp only [List.length_append, List.length_cons, List.length_nil]; unfold sizeLine; omega, fun p5 e5 => hR _ _ ?_⟩
  clear hR R
  have B4' := B4.new (o := .lst acc) e4
  have n5 := B4'.ne e5
  have B5 := B4'.new (o := .lst ([.str w] ++ acc)) e5
  have g5 : up (up G4 p4 (.lst acc)) p5 (.lst ([.str w] ++ acc)) p5 = some (.lst ([.str w] ++ acc)) := up_same
  have S5 : Sub (rm b G) (rm b (up (up G4 p4 (.lst acc)) p5 (.lst ([.str w] ++ acc)))) := S3.trans (S4.trans ((rm_new e4).trans (rm_new e5)))
  generalize up (up G4 p4 (.lst acc)) p5 (.lst ([.str w] ++ acc)) = G5 at B5 g5 S5 ⊢
  have hall : ∀ (G : Gp), ∀ x ∈ [A.str w] ++ acc, AtK G x := by
    intro G x mx
    rcases List.mem_append.mp mx with mx | mx
    · simp at mx; subst mx; exact hW G
    · obtain ⟨i, rfl, h⟩ := hi x mx
      exact .int h
  have hlen : ([A.str w] ++ acc).length ≤ 6 ∧ 1 ≤ ([A.str w] ++ acc).length := by
    simp only [List.length_append, List.length_cons, List.length_nil]; omega
  generalize [A.str w] ++ acc = row at g5 hall hlen ⊢
  refine seq_i fun R hR => ?_
  simp only [sIf, sNx, sSeq, sRet, bB, eBin, eBi, tupleA, ltA, eVar, eC, lCons, lNil, List.getElem?_cons_zero, List.getElem?_cons_succ, decide_eq_true_eq]
  by_cases hw3 : way < 3
  · rw [if_pos hw3]
    exact ⟨_, row, rfl, by simp only [seqOf, g5], q _ G5 (.tup (hall _) (by omega)) (B5.more (by omega)) S5⟩
  rw [if_neg hw3]
  refine hR _ _ ?_
  clear hR R
  refine seq_i fun R hR => ?_
  simp only [sIf, sNx, sSeq, sRet, bB, eBin, eTup, eLst, eCall, eVar, eC, lCons, lNil, eq_int, Bool.false_eq_true, if_false, List.getElem?_cons_zero, List.getElem?_cons_succ]
  by_cases hw4 : (way == 3) = true
  · rw [if_pos hw4]
    refine take_ok (many := 6) hT B5 (by omega) (by decide) (by decide) fun d6 G6 d60 d61 B6 r6 => ?_
    refine number_ok hT hN B6 (by omega) fun i G7 hi7 B7 S7 => ?_
    refine ⟨(by show 4 ≤ sizeLine; decide), fun p8 e8 => ?_⟩
    have n8 := B7.ne e8
    have B8 := B7.new (o := .lst [A.int d6, .int i, .bl true, .str (Str.ofString "1")]) e8
    refine take_ok (many := 4) hT B8 (by omega) (by decide) (by decide) fun d9 G9 d90 d91 B9 r9 => ?_
    have g9 := keep r9 n8 up_same
    rw [ix_ref, g9]
    obtain ⟨x, mx, ex⟩ := atI_mem (xs := [A.int d6, .int i, .bl true, .str (Str.ofString "1")]) d90 (by show d9 < 4; exact d91)
    simp only [ex]
    refine ⟨(by show 2 ≤ sizeLine; decide), q _ G9 (.tup ?_ (by show 2 ≤ 8; decide)) (B9.more (by omega)) ?_⟩
    · intro y my
      simp only [List.mem_cons, List.not_mem_nil, or_false] at my
      rcases my with rfl | rfl
      · exact hW _
      · simp only [List.mem_cons, List.not_mem_nil, or_false] at mx
        rcases mx with rfl | rfl | rfl | rfl
        · refine .int ?_
          have z : d6.natAbs < 6 := by omega
          exact Nat.lt_of_lt_of_le z (by decide)
        · exact .int hi7
        · exact .bl
        · exact .str (by decide +kernel)
    · rw [r9]
      refine S5.trans ?_
      rw [← r6]
      exact S7.trans (rm_new e8)
  rw [if_neg hw4]
  refine hR _ _ ?_
  clear hR R
  refine seq_i fun R hR => ?_
  simp only [sSet, eCall, eBi, len_ref, eVar, g5, gNm, lCons, lNil, List.getElem?_cons_zero, List.getElem?_cons_succ, List.set_cons_zero, List.set_cons_succ]
  refine take_ok hT B5 (by omega) (by omega) (by omega) fun at_ G6 a0 a1 B6 r6 => hR _ _ ?_
  clear hR R
  have g6 := keep r6 n5 g5
  have S6 : Sub (rm b G) (rm b G6) := by rw [r6]; exact S5
  refine seq_i fun R hR => ?_
  simp only [sSet, eBin, eSl, oNo, oSome, slA, lstOf, eLst, eCall, eVar, eC, g6, gNm, lCons, lNil, List.getElem?_cons_zero, List.getElem?_cons_succ, List.set_cons_zero, List.set_cons_succ]
  refine ⟨row, rfl, fun p7 e7 => ?_⟩
  have n7 := B6.ne e7
  have B7 := B6.new (o := .lst (cutA row none (some at_))) e7
  have g7 : up G6 p7 (.lst (cutA row none (some at_))) p7 = some (.lst (cutA row none (some at_))) := up_same
  have h7 : up G6 p7 (.lst (cutA row none (some at_))) p5 = some (.lst row) := Sub.new e7 _ _ g6
  have S7 := S6.trans (rm_new (b := b) (o := .lst (cutA row none (some at_))) e7)
  generalize up G6 p7 (.lst (cutA row none (some at_))) = G7 at B7 g7 h7 S7 ⊢
  refine atom_ok hT hN hO hA B7 (by omega) hw fun x G8 hx B8 S8 => ?_
  have g8 := keepS S8 n7 g7
  have h8 := keepS S8 n5 h7
  refine ⟨(by show 1 ≤ sizeLine; decide), fun p9 e9 => ?_⟩
  have B9 := B8.new (o := .lst [x]) e9
  have m7 := ne_fresh g8 e9
  simp only [addA, up_same, up_ne m7, g8]
  have l1 : (cutA row none (some at_)).length ≤ 6 := by
    unfold cutA; simp only [List.length_take, List.length_drop]; omega
  have l2 : (cutA row (some (at_ + 1)) none).length ≤ row.length - at_.toNat - 1 := by
    unfold cutA; simp only [HT.sIx, List.length_take, List.length_drop]
    rw [if_neg (by omega)]; omega
  have l3 : (cutA row none (some at_)).length ≤ at_.toNat := by rw [cut_pre a0 (by omega)]; omega
  refine ⟨by simp only [List.length_append, List.length_cons, List.length_nil]; unfold sizeLine; omega, fun p10 e10 => ?_⟩
  have m5 : p5 ≠ p9 := ne_fresh h8 e9
  have m5' : p5 ≠ p10 := ne_fresh (by rw [up_ne m5]; exact h8) e10
  simp only [up_ne m5', up_ne m5, h8]
  refine ⟨row, rfl, fun p11 e11 => ?_⟩
  have m10 : p10 ≠ p11 := ne_fresh up_same e11
  simp only [addA, up_same, up_ne m10]
  have B10 := B9.new (o := .lst (cutA row none (some at_) ++ [x])) e10
  have B11 := B10.new (o := .lst (cutA row (some (at_ + 1)) none)) e11
  refine ⟨by simp only [List.length_append, List.length_cons, List.length_nil]; unfold sizeLine; omega, fun p12 e12 => hR _ _ ?_⟩
  clear hR R
  have n12 := B11.ne e12
  have B12 := B11.new (o := .lst (cutA row none (some at_) ++ [x] ++ cutA row (some (at_ + 1)) none)) e12
  have T12 := (rm_new (b := b) (o := .lst [x]) e9).trans ((rm_new (b := b) (o := .lst (cutA row none (some at_) ++ [x])) e10).trans ((rm_new (b := b) (o := .lst (cutA row (some (at_ + 1)) none)) e11).trans (rm_new (b := b) (o := .lst (cutA row none (some at_) ++ [x] ++ cutA row (some (at_ + 1)) none)) e12)))
  have g12 := up_same (G := up (up (up G8 p9 (.lst [x])) p10 (.lst (cutA row none (some at_) ++ [x]))) p11 (.lst (cutA row (some (at_ + 1)) none))) (a := p12) (o := .lst (cutA row none (some at_) ++ [x] ++ cutA row (some (at_ + 1)) none))
  generalize up (up (up (up G8 p9 (.lst [x])) p10 (.lst (cutA row none (some at_) ++ [x]))) p11 (.lst (cutA row (some (at_ + 1)) none))) p12 (.lst (cutA row none (some at_) ++ [x] ++ cutA row (some (at_ + 1)) none)) = G12 at B12 T12 g12 ⊢
  have hall2 : ∀ y ∈ cutA row none (some at_) ++ [x] ++ cutA row (some (at_ + 1)) none, AtK (rm b G12) y := by
    intro y my
    rcases List.mem_append.mp my with my | my
    · rcases List.mem_append.mp my with my | my
      · exact hall _ y (cut_mem my)
      · simp at my; subst my; exact hx.mono T12
    · exact hall _ y (cut_mem my)
  have hlen2 : (cutA row none (some at_) ++ [x] ++ cutA row (some (at_ + 1)) none).length ≤ 8 := by
    simp only [List.length_append, List.length_cons, List.length_nil]; omega
  generalize cutA row none (some at_) ++ [x] ++ cutA row (some (at_ + 1)) none = row2 at g12 hall2 hlen2 ⊢
  have Sf : Sub (rm b G) (rm b G12) := S7.trans (S8.trans T12)
  have f1 : Q (.ref p12) G12 := q _ _ (.lst (by rw [rm_ne n12]; exact g12) hall2 hlen2) (B12.more (by omega)) Sf
  have f2 : Q (.tup row2) G12 := q _ _ (.tup hall2 hlen2) (B12.more (by omega)) Sf
  simp only [sSeq, sRet, eIf, bAnd, bB, eBin, eBi, tupleA, gtA, eVar, eC, lCons, lNil, eq_int, Bool.false_eq_true, if_false, List.getElem?_cons_zero, List.getElem?_cons_succ]
  have f3 : ∃ a xs, [A.ref p12] = [a] ∧ seqOf G12 a = some xs ∧ Q (.tup xs) G12 := ⟨_, row2, rfl, by simp only [seqOf, g12], f2⟩
  split
  · split
    · exact f1
    · exact f3
  · exact f3
end
end Q
namespace G
open PySem PySem.Spec PyProof.Rows L2 Q
def top (i : Nat) : Stmt := PySem.Challenge.pw_frozenbodies_k12_kinds_known.main.body.getD i (.Pass ⟨0, 0, 0, 0⟩)
def t_is_integer (c : Cal) : SA := (sSeq (sRet (eAnd (eIsi (eVar 0) ["int"]) (eNot (eIsi (eVar 0) ["bool"]))))
  sNx)
def i_is_integer : DI := ⟨"is_integer", Str.ofString "is_integer", top 3, [Str.ofString "thing"], [Str.ofString "thing"]⟩
def t_is_constant (c : Cal) : SA := (sSeq (sRet (eAnd (eCall c "is_integer" (lCons (eVar 0) lNil)) (eBin geA (eVar 0) (eC (.int 0)))))
  sNx)
def i_is_constant : DI := ⟨"is_constant", Str.ofString "is_constant", top 4, [Str.ofString "thing"], [Str.ofString "thing"]⟩
def t_is_word (c : Cal) : SA := (sSeq (sIf (bOr (bNot (bV (eIsi (eVar 0) ["str"]))) (bNot (bB (eChain leA leA (eC (.int 1)) (eBi lenA (lCons (eVar 0) lNil)) (eC (.int 8)))))) (sSeq (sRet (eC (.bl false)))
  sNx) sNx)
  (sSeq (sRet (eAnd (eM "str" (strB Txt.isascii) (eVar 0) lNil) (eAnd (eM "str" (strB Txt.isalpha) (eVar 0) lNil) (eM "str" (strB Txt.islower) (eVar 0) lNil))))
  sNx))
def i_is_word : DI := ⟨"is_word", Str.ofString "is_word", top 5, [Str.ofString "thing"], [Str.ofString "thing"]⟩
def t_is_fact (c : Cal) : SA := (sSeq (sIf (bOr (bNot (bV (eIsi (eVar 0) ["tuple"]))) (bNot (bB (eChain leA leA (eC (.int 1)) (eBi lenA (lCons (eVar 0) lNil)) (eBin addA (eC (.int 1)) (eC (.int 4))))))) (sSeq (sRet (eC (.bl false)))
  sNx) sNx)
  (sSeq (sRet (eAnd (eCall c "is_word" (lCons (eBin ixA (eVar 0) (eC (.int 0))) lNil)) (eBi (allA (·.all id)) (lCons (eLc (iSeq (eSl (eVar 0) (oSome (eC (.int 1))) oNo)) (gNm 1) bYes (eCall c "is_constant" (lCons (eVar 1) lNil)) [1]) lNil))))
  sNx))
def i_is_fact : DI := ⟨"is_fact", Str.ofString "is_fact", top 6, [Str.ofString "thing", Str.ofString "part"], [Str.ofString "thing"]⟩
def t_is_name (c : Cal) : SA := (sSeq (sIf (bOr (bNot (bV (eIsi (eVar 0) ["tuple"]))) (bOr (bB (eBin (eqA true) (eBi lenA (lCons (eVar 0) lNil)) (eC (.int 2)))) (bNot (bV (eCall c "is_word" (lCons (eBin ixA (eVar 0) (eC (.int 0))) lNil)))))) (sSeq (sRet (eC (.bl false)))
  sNx) sNx)
  (sSeq (sRet (eAnd (eCall c "is_integer" (lCons (eBin ixA (eVar 0) (eC (.int 1))) lNil)) (eChain leA leA (eC (.int 0)) (eBin ixA (eVar 0) (eC (.int 1))) (eC (.int 4)))))
  sNx))
def i_is_name : DI := ⟨"is_name", Str.ofString "is_name", top 7, [Str.ofString "thing"], [Str.ofString "thing"]⟩
def t_bag (c : Cal) : SA := (sSeq (sRet (eLst (lCons (eC (.int 0)) (lCons (eC (.int 1234567891)) (lCons (eC (.int 0)) (lCons (eLc (iSeq (eSl (eVar 0) oNo (oSome (eC (.int 63))))) (gNm 1) bYes (eBi absA (lCons (eVar 1) lNil)) [1]) lNil))))))
  sNx)
def i_bag : DI := ⟨"_law_bag", Str.ofString "_law_bag", top 9, [Str.ofString "_law_script", Str.ofString "_law_cell"], [Str.ofString "_law_script"]⟩
def t_take (c : Cal) : SA := (sSeq (sIf (bB (eBin (eqA false) (eBin ixA (eVar 0) (eC (.int 0))) (eC (.int 0)))) (sSeq (sSet (eC (.int 0)) (gNm 2))
  (sSeq (sIf (bB (eBin ltA (eBin ixA (eVar 0) (eC (.int 2))) (eBi lenA (lCons (eBin ixA (eVar 0) (eC (.int 3))) lNil)))) (sSeq (sSet (eBin ixA (eBin ixA (eVar 0) (eC (.int 3))) (eBin ixA (eVar 0) (eC (.int 2)))) (gNm 2))
  sNx) sNx)
  (sSeq (sAug (eVar 0) (eC (.int 2)) (eC (.int 1)))
  (sSeq (sIf (bB (eBin geA (eVar 2) (eC (.int 1000000000000000000)))) (sSeq (sSet (eVar 2) (gSub (eVar 0) (eC (.int 0))))
  sNx) sNx)
  (sSeq (sSet (eBin addA (eBin modA (eBi intOfA (lCons (eVar 2) lNil)) (eC (.int 2147483647))) (eBin mulA (eC (.int 7919)) (eBin ixA (eVar 0) (eC (.int 2))))) (gNm 3))
  (sSeq (sSet (eBin modA (eBi intOfA (lCons (eBin addA (eBin mulA (eBin ixA (eVar 0) (eC (.int 1))) (eC (.int 48271))) (eVar 3)) lNil)) (eC (.int 2147483647))) (gSub (eVar 0) (eC (.int 1))))
  sNx)))))) sNx)
  (sSeq (sIf (bB (eBin gtA (eBin ixA (eVar 0) (eC (.int 0))) (eC (.int 0)))) (sSeq (sSet (eBin modA (eBi intOfA (lCons (eBin ixA (eVar 0) (eC (.int 0))) lNil)) (eVar 1)) (gNm 4))
  (sSeq (sSet (eBin fdivA (eBin ixA (eVar 0) (eC (.int 0))) (eVar 1)) (gSub (eVar 0) (eC (.int 0))))
  (sSeq (sRet (eVar 4))
  sNx))) sNx)
  (sSeq (sSet (eBin modA (eBi intOfA (lCons (eBin mulA (eBin addA (eBin ixA (eVar 0) (eC (.int 1))) (eC (.int 1))) (eC (.int 39373))) lNil)) (eC (.int 1000000007))) (gNm 5))
  (sSeq (sSet (eBin modA (eBi intOfA (lCons (eBin mulA (eBin modA (eBi intOfA (lCons (eBin mulA (eVar 5) (eVar 5)) lNil)) (eC (.int 998244353))) (eC (.int 30011))) lNil)) (eC (.int 998244353))) (gNm 6))
  (sSeq (sIf (bB (eBin gtA (eVar 1) (eC (.int 1000000)))) (sSeq (sRet (eBin modA (eBi intOfA (lCons (eBin addA (eBin mulA (eVar 6) (eC (.int 1000000007))) (eVar 5)) lNil)) (eVar 1)))
  sNx) sNx)
  (sSeq (sRet (eBin modA (eBi intOfA (lCons (eBin fdivA (eVar 6) (eC (.int 7))) lNil)) (eVar 1)))
  sNx))))))
def i_take : DI := ⟨"_law_take", Str.ofString "_law_take", top 10, [Str.ofString "_law_bag_here", Str.ofString "_law_many", Str.ofString "_law_cell", Str.ofString "_law_more", Str.ofString "_law_drawn", Str.ofString "_law_first", Str.ofString "_law_second"], [Str.ofString "_law_bag_here", Str.ofString "_law_many"]⟩
def t_alike (c : Cal) : SA := (sSeq (sRet (eAnd (eBin (eqA false) (eVar 0) (eVar 1)) (eBin (eqA false) (eBi reprA (lCons (eVar 0) lNil)) (eBi reprA (lCons (eVar 1) lNil)))))
  sNx)
def i_alike : DI := ⟨"_law_alike", Str.ofString "_law_alike", top 11, [Str.ofString "_law_found", Str.ofString "_law_due_here"], [Str.ofString "_law_found", Str.ofString "_law_due_here"]⟩
def t_labels (c : Cal) : SA := (sSeq (sSet (eC (.str (Str.ofString "abcdefghijklmnopqrstuvwxyz"))) (gNm 2))
  (sSeq (sSet (eM "str" splitA (eC (.str (Str.ofString "a b edge path go put take rule drop back again result facts rules ask why idle bare rounds"))) (lCons (eC (.str (Str.ofString " "))) lNil)) (gNm 3))
  (sSeq (sSet (eBin addA (eVar 3) (eLst (lCons (eC (.str (Str.ofString "x"))) (lCons (eC (.str (Str.ofString "y"))) (lCons (eC (.str (Str.ofString "va"))) (lCons (eC (.str (Str.ofString "vb"))) (lCons (eC (.str (Str.ofString "wall"))) lNil))))))) (gNm 3))
  (sSeq (sSet (eTup (lCons (eCall c "_law_take" (lCons (eVar 0) (lCons (eC (.int 4)) lNil))) (lCons (eCall c "_law_take" (lCons (eVar 0) (lCons (eC (.int 24)) lNil))) lNil))) (gTup [4, 5]))
  (sSeq (sSet (eM "str" joinA (eC (.str (Str.ofString ""))) (lCons (eLc (iRng1 (eBin addA (eC (.int 1)) (eCall c "_law_take" (lCons (eVar 0) (lCons (eC (.int 7)) lNil))))) (gNm 7) bYes (eBin ixA (eVar 2) (eCall c "_law_take" (lCons (eVar 0) (lCons (eC (.int 26)) lNil)))) [7]) lNil)) (gNm 6))
  (sSeq (sSet (eTup (lCons (eCall c "_law_take" (lCons (eVar 0) (lCons (eBin addA (eBi lenA (lCons (eVar 6) lNil)) (eC (.int 1))) lNil))) (lCons (eBin fdivA (eVar 4) (eC (.int 3))) lNil))) (gTup [8, 9]))
  (sSeq (sIf (bB (eBin (eqA false) (eVar 4) (eC (.int 0)))) (sSeq (sRet (eSl (eBin addA (eSl (eVar 3) (oSome (eVar 5)) oNo) (eSl (eVar 3) oNo (oSome (eVar 5)))) oNo (oSome (eVar 1))))
  sNx) sNx)
  (sSeq (sSet (eLc (iRng1 (eVar 1)) (gNm 7) bYes (eBin mulA (eBin ixA (eVar 2) (eBin modA (eBi intOfA (lCons (eBin addA (eVar 5) (eBin ixA (eLst (lCons (eBin mulA (eC (.int 3)) (eVar 7)) (lCons (eBin fdivA (eVar 7) (eC (.int 8))) lNil))) (eVar 9))) lNil)) (eC (.int 26)))) (eBin addA (eC (.int 1)) (eBin mulA (eBin modA (eBi intOfA (lCons (eVar 7) lNil)) (eC (.int 8))) (eVar 9)))) [7]) (gNm 10))
  (sSeq (sSet (eBin mulA (eVar 6) (eBi intOfA (lCons (eBin (eqA false) (eVar 4) (eC (.int 2))) lNil))) (gNm 6))
  (sSeq (sRet (eLc (iRng1 (eVar 1)) (gNm 7) bYes (eBin addA (eBin addA (eSl (eVar 6) oNo (oSome (eVar 8))) (eBin ixA (eVar 10) (eVar 7))) (eSl (eVar 6) (oSome (eVar 8)) oNo)) [7]))
  sNx))))))))))
def i_labels : DI := ⟨"_law_labels", Str.ofString "_law_labels", top 12, [Str.ofString "_law_bag_here", Str.ofString "_law_many", Str.ofString "_law_letters", Str.ofString "_law_menu", Str.ofString "_law_way", Str.ofString "_law_turn", Str.ofString "_law_stem", Str.ofString "_law_k", Str.ofString "_law_at", Str.ofString "_law_far", Str.ofString "_law_some"], [Str.ofString "_law_bag_here", Str.ofString "_law_many"]⟩
def t_number (c : Cal) : SA := (sSeq (sSet (eLst (lCons (eC (.int 0)) (lCons (eC (.int 1)) (lCons (eC (.int 2)) (lCons (eC (.int 4)) (lCons (eC (.int 5)) (lCons (eNeg (eC (.int 1))) (lCons (eCall c "_law_take" (lCons (eVar 0) (lCons (eC (.int 100)) lNil))) (lCons (eBin powA (eC (.int 10)) (eC (.int 39))) (lCons (eBin addA (eBin powA (eC (.int 10)) (eC (.int 60))) (eCall c "_law_take" (lCons (eVar 0) (lCons (eC (.int 9)) lNil)))) (lCons (eNeg (eBin powA (eC (.int 10)) (eC (.int 30)))) lNil))))))))))) (gNm 1))
  (sSeq (sRet (eBin ixA (eVar 1) (eCall c "_law_take" (lCons (eVar 0) (lCons (eC (.int 10)) lNil)))))
  sNx))
def i_number : DI := ⟨"_law_number", Str.ofString "_law_number", top 13, [Str.ofString "_law_bag_here", Str.ofString "_law_some"], [Str.ofString "_law_bag_here"]⟩
def t_odd_word (c : Cal) : SA := (sSeq (sSet (eC (.str (Str.ofString " _-!0Aa\n`{"))) (gNm 2))
  (sSeq (sPar 3 4 (lCons (eCall c "_law_take" (lCons (eVar 0) (lCons (eBin addA (eBi lenA (lCons (eVar 1) lNil)) (eC (.int 1))) lNil))) (lCons (eBin ixA (eVar 2) (eCall c "_law_take" (lCons (eVar 0) (lCons (eC (.int 10)) lNil)))) lNil)))
  (sSeq (sSet (eLst (lCons (eBin addA (eBin addA (eSl (eVar 1) oNo (oSome (eVar 3))) (eVar 4)) (eSl (eVar 1) (oSome (eVar 3)) oNo)) (lCons (eBin addA (eSl (eVar 1) oNo (oSome (eVar 3))) (eSl (eVar 1) (oSome (eBin addA (eVar 3) (eC (.int 1)))) oNo)) (lCons (eBin mulA (eVar 1) (eC (.int 9))) (lCons (eC (.str (Str.ofString ""))) lNil))))) (gNm 5))
  (sSeq (sRet (eBin ixA (eBin addA (eVar 5) (eLst (lCons (eBin addA (eVar 1) (eC (.str (Str.ofString "abcdefgh")))) (lCons (eM "str" upperA (eVar 1) lNil) lNil)))) (eCall c "_law_take" (lCons (eVar 0) (lCons (eC (.int 6)) lNil)))))
  sNx))))
def i_odd_word : DI := ⟨"_law_odd_word", Str.ofString "_law_odd_word", top 14, [Str.ofString "_law_bag_here", Str.ofString "_law_label", Str.ofString "_law_signs", Str.ofString "_law_at", Str.ofString "_law_sign", Str.ofString "_law_some"], [Str.ofString "_law_bag_here", Str.ofString "_law_label"]⟩
def t_atom_of (c : Cal) : SA := (sSeq (sSet (eLst (lCons (eVar 1) (lCons (eCall c "_law_odd_word" (lCons (eVar 0) (lCons (eVar 1) lNil))) (lCons (eCall c "_law_number" (lCons (eVar 0) lNil)) (lCons (eC (.bl true)) (lCons (eC (.bl false)) (lCons (eC .non) (lCons (eLst lNil) (lCons eDct0 (lCons (eTup lNil) lNil)))))))))) (gNm 2))
  (sSeq (sRet (eBin ixA (eBin addA (eVar 2) (eLst (lCons (eLst (lCons (eLst (lCons (eLst (lCons (eLst (lCons (eLst (lCons (eLst (lCons (eLst (lCons (eLst lNil) lNil)) lNil)) lNil)) lNil)) lNil)) lNil)) lNil)) lNil))) (eCall c "_law_take" (lCons (eVar 0) (lCons (eC (.int 10)) lNil)))))
  sNx))
def i_atom_of : DI := ⟨"_law_atom_of", Str.ofString "_law_atom_of", top 15, [Str.ofString "_law_bag_here", Str.ofString "_law_label", Str.ofString "_law_some"], [Str.ofString "_law_bag_here", Str.ofString "_law_label"]⟩
def t_thing (c : Cal) : SA := (sSeq (sPar 2 3 (lCons (eCall c "_law_take" (lCons (eVar 0) (lCons (eC (.int 6)) lNil))) (lCons (eCall c "_law_take" (lCons (eVar 0) (lCons (eC (.int 6)) lNil))) lNil)))
  (sSeq (sIf (bB (eBin (eqA false) (eVar 2) (eC (.int 0)))) (sSeq (sRet (eCall c "_law_atom_of" (lCons (eVar 0) (lCons (eVar 1) lNil))))
  sNx) sNx)
  (sSeq (sSet (eBin addA (eLst (lCons (eVar 1) lNil)) (eLc (iRng1 (eVar 3)) (gNm 5) bYes (eCall c "_law_number" (lCons (eVar 0) lNil)) [5])) (gNm 4))
  (sSeq (sIf (bB (eBin ltA (eVar 2) (eC (.int 3)))) (sSeq (sRet (eBi tupleA (lCons (eVar 4) lNil)))
  sNx) sNx)
  (sSeq (sIf (bB (eBin (eqA false) (eVar 2) (eC (.int 3)))) (sSeq (sRet (eTup (lCons (eVar 1) (lCons (eBin ixA (eLst (lCons (eCall c "_law_take" (lCons (eVar 0) (lCons (eC (.int 6)) lNil))) (lCons (eCall c "_law_number" (lCons (eVar 0) lNil)) (lCons (eC (.bl true)) (lCons (eC (.str (Str.ofString "1"))) lNil))))) (eCall c "_law_take" (lCons (eVar 0) (lCons (eC (.int 4)) lNil)))) lNil))))
  sNx) sNx)
  (sSeq (sSet (eCall c "_law_take" (lCons (eVar 0) (lCons (eBi lenA (lCons (eVar 4) lNil)) lNil))) (gNm 6))
  (sSeq (sSet (eBin addA (eBin addA (eSl (eVar 4) oNo (oSome (eVar 6))) (eLst (lCons (eCall c "_law_atom_of" (lCons (eVar 0) (lCons (eVar 1) lNil))) lNil))) (eSl (eVar 4) (oSome (eBin addA (eVar 6) (eC (.int 1)))) oNo)) (gNm 4))
  (sSeq (sRet (eIf (bAnd (bB (eBin (eqA false) (eVar 2) (eC (.int 4)))) (bB (eBin gtA (eVar 3) (eC (.int 3))))) (eVar 4) (eBi tupleA (lCons (eVar 4) lNil))))
  sNx))))))))
def i_thing : DI := ⟨"_law_thing", Str.ofString "_law_thing", top 16, [Str.ofString "_law_bag_here", Str.ofString "_law_label", Str.ofString "_law_way", Str.ofString "_law_many", Str.ofString "_law_row", Str.ofString "_law_k", Str.ofString "_law_at"], [Str.ofString "_law_bag_here", Str.ofString "_law_label"]⟩
def t_whole (c : Cal) : SA := (sSeq (sRet (eAnd (eIsi (eVar 0) ["int"]) (eNot (eIsi (eVar 0) ["bool"]))))
  sNx)
def i_whole : DI := ⟨"_law_whole", Str.ofString "_law_whole", top 17, [Str.ofString "_law_thing_here"], [Str.ofString "_law_thing_here"]⟩
def t_spelt (c : Cal) : SA := (sSeq (sIf (bOr (bNot (bV (eIsi (eVar 0) ["str"]))) (bOr (bB (eBin ltA (eBi lenA (lCons (eVar 0) lNil)) (eC (.int 1)))) (bB (eBin gtA (eBi lenA (lCons (eVar 0) lNil)) (eC (.int 8)))))) (sSeq (sRet (eC (.bl false)))
  sNx) sNx)
  (sSeq (sRet (eBin (eqA false) (eLc (iSeq (eVar 0)) (gNm 1) (bB (eBin (inA true) (eVar 1) (eC (.str (Str.ofString "abcdefghijklmnopqrstuvwxyz"))))) (eVar 1) [1]) (eLst lNil)))
  sNx))
def i_spelt : DI := ⟨"_law_spelt", Str.ofString "_law_spelt", top 18, [Str.ofString "_law_thing_here", Str.ofString "_law_sign"], [Str.ofString "_law_thing_here"]⟩
def t_due (c : Cal) : SA := (sSeq (sSet (eLst lNil) (gNm 1))
  (sSeq (sIf (bAnd (bV (eIsi (eVar 0) ["tuple"])) (bAnd (bB (eBin (eqA true) (eVar 0) (eTup lNil))) (bV (eCall c "_law_spelt" (lCons (eBin ixA (eVar 0) (eC (.int 0))) lNil))))) (sSeq (sSet (eLst (lCons (eLc (iSeq (eSl (eVar 0) (oSome (eC (.int 1))) oNo)) (gNm 2) bYes (eVar 2) [2]) lNil)) (gNm 1))
  sNx) sNx)
  (sSeq (sSet (eAnd (eBin (eqA true) (eVar 1) (eLst lNil)) (eBin ltA (eBi lenA (lCons (eBin ixA (eVar 1) (eC (.int 0))) lNil)) (eC (.int 5)))) (gNm 3))
  (sSeq (sSet (eAnd (eVar 3) (eBin (eqA false) (eLc (iSeq (eBin ixA (eVar 1) (eC (.int 0)))) (gNm 2) (bOr (bNot (bV (eCall c "_law_whole" (lCons (eVar 2) lNil)))) (bB (eBin ltA (eVar 2) (eC (.int 0))))) (eVar 2) [2]) (eLst lNil))) (gNm 3))
  (sSeq (sSet (eAnd (eBin (eqA true) (eVar 1) (eLst lNil)) (eAnd (eBin (eqA false) (eBi lenA (lCons (eBin ixA (eVar 1) (eC (.int 0))) lNil)) (eC (.int 1))) (eAnd (eCall c "_law_whole" (lCons (eBin ixA (eBin ixA (eVar 1) (eC (.int 0))) (eC (.int 0))) lNil)) (eChain leA leA (eC (.int 0)) (eBin ixA (eBin ixA (eVar 1) (eC (.int 0))) (eC (.int 0))) (eC (.int 4)))))) (gNm 4))
  (sSeq (sRet (eLst (lCons (eCall c "_law_whole" (lCons (eVar 0) lNil)) (lCons (eAnd (eCall c "_law_whole" (lCons (eVar 0) lNil)) (eBin geA (eVar 0) (eC (.int 0)))) (lCons (eCall c "_law_spelt" (lCons (eVar 0) lNil)) (lCons (eVar 3) (lCons (eVar 4) lNil)))))))
  sNx))))))
def i_due : DI := ⟨"_law_due", Str.ofString "_law_due", top 19, [Str.ofString "_law_thing_here", Str.ofString "_law_rest", Str.ofString "_law_part", Str.ofString "_law_right", Str.ofString "_law_tagged"], [Str.ofString "_law_thing_here"]⟩
def t_law (c : Cal) : SA := (sSeq (sSet (eCall c "_law_bag" (lCons (eVar 0) lNil)) (gNm 1))
  (sSeq (sSet (eCall c "_law_labels" (lCons (eVar 1) (lCons (eC (.int 3)) lNil))) (gNm 2))
  (sSeq (sSet (eLc (iRng1 (eC (.int 24))) (gNm 4) bYes (eCall c "_law_thing" (lCons (eVar 1) (lCons (eBin ixA (eVar 2) (eCall c "_law_take" (lCons (eVar 1) (lCons (eC (.int 3)) lNil)))) lNil))) [4]) (gNm 3))
  (sSeq (sFor (iSeq (eBin addA (eVar 3) (eRev (eVar 3)))) (gNm 5) (sSeq (sSet (eBi reprA (lCons (eVar 5) lNil)) (gNm 6))
  (sSeq (sSet (eLst (lCons (eCall c "is_integer" (lCons (eVar 5) lNil)) (lCons (eCall c "is_constant" (lCons (eVar 5) lNil)) (lCons (eCall c "is_word" (lCons (eVar 5) lNil)) (lCons (eCall c "is_fact" (lCons (eVar 5) lNil)) (lCons (eCall c "is_name" (lCons (eVar 5) lNil)) lNil)))))) (gNm 7))
  (sSeq (sIf (bOr (bNot (bV (eCall c "_law_alike" (lCons (eVar 7) (lCons (eCall c "_law_due" (lCons (eVar 5) lNil)) lNil))))) (bB (eBin (eqA true) (eBi reprA (lCons (eVar 5) lNil)) (eVar 6)))) (sSeq (sRet (eC (.bl false)))
  sNx) sNx)
  sNx))))
  (sSeq (sRet (eC (.bl true)))
  sNx)))))
def i_law : DI := ⟨"law", Str.ofString "law", top 20, [Str.ofString "_law_script", Str.ofString "_law_bag_here", Str.ofString "_law_labels_here", Str.ofString "_law_things", Str.ofString "_law_k", Str.ofString "_law_thing_here", Str.ofString "_law_kept", Str.ofString "_law_found"], [Str.ofString "_law_script"]⟩
def all : List DI := [i_is_integer, i_is_constant, i_is_word, i_is_fact, i_is_name, i_bag, i_take, i_alike, i_labels, i_number, i_odd_word, i_atom_of, i_thing, i_whole, i_spelt, i_due, i_law]
def ft : List (Str × FD) := [(Str.ofString "is_integer", ⟨1, 1, t_is_integer⟩), (Str.ofString "is_constant", ⟨1, 1, t_is_constant⟩), (Str.ofString "is_word", ⟨1, 1, t_is_word⟩), (Str.ofString "is_fact", ⟨1, 2, t_is_fact⟩), (Str.ofString "is_name", ⟨1, 1, t_is_name⟩), (Str.ofString "_law_bag", ⟨1, 2, t_bag⟩), (Str.ofString "_law_take", ⟨2, 7, t_take⟩), (Str.ofString "_law_alike", ⟨2, 2, t_alike⟩), (Str.ofString "_law_labels", ⟨2, 11, t_labels⟩), (Str.ofString "_law_number", ⟨1, 2, t_number⟩), (Str.ofString "_law_odd_word", ⟨2, 6, t_odd_word⟩), (Str.ofString "_law_atom_of", ⟨2, 3, t_atom_of⟩), (Str.ofString "_law_thing", ⟨2, 7, t_thing⟩), (Str.ofString "_law_whole", ⟨1, 1, t_whole⟩), (Str.ofString "_law_spelt", ⟨1, 2, t_spelt⟩), (Str.ofString "_law_due", ⟨1, 5, t_due⟩), (Str.ofString "law", ⟨1, 8, t_law⟩)]
def FT : FTab := fun x => ft.lookup x
def pg : Pg := ⟨ownL all, [(Str.ofString "LONGEST_WORD", 8), (Str.ofString "MOST_PLACES", 4)]⟩
theorem s_is_integer : FnScope i_is_integer.N i_is_integer.ps (defScope i_is_integer.st) := ⟨rfl, rfl, rfl, by decide +kernel, rfl, by decide +kernel, by decide +kernel⟩
theorem k_is_integer (c : Cal) : cSs i_is_integer.N pg c 100 (defScope i_is_integer.st) (defBody i_is_integer.st) = some (t_is_integer c) := by kernel_rfl
theorem s_is_constant : FnScope i_is_constant.N i_is_constant.ps (defScope i_is_constant.st) := ⟨rfl, rfl, rfl, by decide +kernel, rfl, by decide +kernel, by decide +kernel⟩
theorem k_is_constant (c : Cal) : cSs i_is_constant.N pg c 100 (defScope i_is_constant.st) (defBody i_is_constant.st) = some (t_is_constant c) := by kernel_rfl
theorem s_is_word : FnScope i_is_word.N i_is_word.ps (defScope i_is_word.st) := ⟨rfl, rfl, rfl, by decide +kernel, rfl, by decide +kernel, by decide +kernel⟩
theorem k_is_word (c : Cal) : cSs i_is_word.N pg c 100 (defScope i_is_word.st) (defBody i_is_word.st) = some (t_is_word c) := by kernel_rfl
theorem s_is_fact : FnScope i_is_fact.N i_is_fact.ps (defScope i_is_fact.st) := ⟨rfl, rfl, rfl, by decide +kernel, rfl, by decide +kernel, by decide +kernel⟩
theorem k_is_fact (c : Cal) : cSs i_is_fact.N pg c 100 (defScope i_is_fact.st) (defBody i_is_fact.st) = some (t_is_fact c) := by kernel_rfl
theorem s_is_name : FnScope i_is_name.N i_is_name.ps (defScope i_is_name.st) := ⟨rfl, rfl, rfl, by decide +kernel, rfl, by decide +kernel, by decide +kernel⟩
theorem k_is_name (c : Cal) : cSs i_is_name.N pg c 100 (defScope i_is_name.st) (defBody i_is_name.st) = some (t_is_name c) := by kernel_rfl
theorem s_bag : FnScope i_bag.N i_bag.ps (defScope i_bag.st) := ⟨rfl, rfl, rfl, by decide +kernel, rfl, by decide +kernel, by decide +kernel⟩
theorem k_bag (c : Cal) : cSs i_bag.N pg c 100 (defScope i_bag.st) (defBody i_bag.st) = some (t_bag c) := by kernel_rfl
theorem s_take : FnScope i_take.N i_take.ps (defScope i_take.st) := ⟨rfl, rfl, rfl, by decide +kernel, rfl, by decide +kernel, by decide +kernel⟩
theorem k_take (c : Cal) : cSs i_take.N pg c 100 (defScope i_take.st) (defBody i_take.st) = some (t_take c) := by kernel_rfl
theorem s_alike : FnScope i_alike.N i_alike.ps (defScope i_alike.st) := ⟨rfl, rfl, rfl, by decide +kernel, rfl, by decide +kernel, by decide +kernel⟩
theorem k_alike (c : Cal) : cSs i_alike.N pg c 100 (defScope i_alike.st) (defBody i_alike.st) = some (t_alike c) := by kernel_rfl
theorem s_labels : FnScope i_labels.N i_labels.ps (defScope i_labels.st) := ⟨rfl, rfl, rfl, by decide +kernel, rfl, by decide +kernel, by decide +kernel⟩
theorem k_labels (c : Cal) : cSs i_labels.N pg c 100 (defScope i_labels.st) (defBody i_labels.st) = some (t_labels c) := by kernel_rfl
theorem s_number : FnScope i_number.N i_number.ps (defScope i_number.st) := ⟨rfl, rfl, rfl, by decide +kernel, rfl, by decide +kernel, by decide +kernel⟩
theorem k_number (c : Cal) : cSs i_number.N pg c 100 (defScope i_number.st) (defBody i_number.st) = some (t_number c) := by kernel_rfl
theorem s_odd_word : FnScope i_odd_word.N i_odd_word.ps (defScope i_odd_word.st) := ⟨rfl, rfl, rfl, by decide +kernel, rfl, by decide +kernel, by decide +kernel⟩
theorem k_odd_word (c : Cal) : cSs i_odd_word.N pg c 100 (defScope i_odd_word.st) (defBody i_odd_word.st) = some (t_odd_word c) := by kernel_rfl
theorem s_atom_of : FnScope i_atom_of.N i_atom_of.ps (defScope i_atom_of.st) := ⟨rfl, rfl, rfl, by decide +kernel, rfl, by decide +kernel, by decide +kernel⟩
theorem k_atom_of (c : Cal) : cSs i_atom_of.N pg c 100 (defScope i_atom_of.st) (defBody i_atom_of.st) = some (t_atom_of c) := by kernel_rfl
theorem s_thing : FnScope i_thing.N i_thing.ps (defScope i_thing.st) := ⟨rfl, rfl, rfl, by decide +kernel, rfl, by decide +kernel, by decide +kernel⟩
theorem k_thing (c : Cal) : cSs i_thing.N pg c 100 (defScope i_thing.st) (defBody i_thing.st) = some (t_thing c) := by kernel_rfl
theorem s_whole : FnScope i_whole.N i_whole.ps (defScope i_whole.st) := ⟨rfl, rfl, rfl, by decide +kernel, rfl, by decide +kernel, by decide +kernel⟩
theorem k_whole (c : Cal) : cSs i_whole.N pg c 100 (defScope i_whole.st) (defBody i_whole.st) = some (t_whole c) := by kernel_rfl
theorem s_spelt : FnScope i_spelt.N i_spelt.ps (defScope i_spelt.st) := ⟨rfl, rfl, rfl, by decide +kernel, rfl, by decide +kernel, by decide +kernel⟩
theorem k_spelt (c : Cal) : cSs i_spelt.N pg c 100 (defScope i_spelt.st) (defBody i_spelt.st) = some (t_spelt c) := by kernel_rfl
theorem s_due : FnScope i_due.N i_due.ps (defScope i_due.st) := ⟨rfl, rfl, rfl, by decide +kernel, rfl, by decide +kernel, by decide +kernel⟩
theorem k_due (c : Cal) : cSs i_due.N pg c 100 (defScope i_due.st) (defBody i_due.st) = some (t_due c) := by kernel_rfl
theorem s_law : FnScope i_law.N i_law.ps (defScope i_law.st) := ⟨rfl, rfl, rfl, by decide +kernel, rfl, by decide +kernel, by decide +kernel⟩
theorem k_law (c : Cal) : cSs i_law.N pg c 100 (defScope i_law.st) (defBody i_law.st) = some (t_law c) := by kernel_rfl
theorem hFT : ∀ i ∈ all, ∃ d, FT (Str.ofString i.key) = some d ∧ d.ps = i.ps.length ∧ d.slots = i.N.length ∧ ∀ c, cSs i.N pg c 100 (defScope i.st) (defBody i.st) = some (d.body c) :=
  all_cons ⟨_, rfl, rfl, rfl, k_is_integer⟩ (
  all_cons ⟨_, rfl, rfl, rfl, k_is_constant⟩ (
  all_cons ⟨_, rfl, rfl, rfl, k_is_word⟩ (
  all_cons ⟨_, rfl, rfl, rfl, k_is_fact⟩ (
  all_cons ⟨_, rfl, rfl, rfl, k_is_name⟩ (
  all_cons ⟨_, rfl, rfl, rfl, k_bag⟩ (
  all_cons ⟨_, rfl, rfl, rfl, k_take⟩ (
  all_cons ⟨_, rfl, rfl, rfl, k_alike⟩ (
  all_cons ⟨_, rfl, rfl, rfl, k_labels⟩ (
  all_cons ⟨_, rfl, rfl, rfl, k_number⟩ (
  all_cons ⟨_, rfl, rfl, rfl, k_odd_word⟩ (
  all_cons ⟨_, rfl, rfl, rfl, k_atom_of⟩ (
  all_cons ⟨_, rfl, rfl, rfl, k_thing⟩ (
  all_cons ⟨_, rfl, rfl, rfl, k_whole⟩ (
  all_cons ⟨_, rfl, rfl, rfl, k_spelt⟩ (
  all_cons ⟨_, rfl, rfl, rfl, k_due⟩ (
  all_cons ⟨_, rfl, rfl, rfl, k_law⟩ (
  all_nil)))))))))))))))))
theorem mem_law : i_law ∈ all := by simp [all]
end G
/-! R: k12's law holds. -/
namespace G
open PySem PySem.Spec PyProof.Rows L2 Q
theorem f_take : FT (Str.ofString "_law_take") = some ⟨2, 7, tk_take⟩ := rfl
theorem f_bag : FT (Str.ofString "_law_bag") = some ⟨1, 2, tk_bag⟩ := rfl
theorem f_alike : FT (Str.ofString "_law_alike") = some ⟨2, 2, tk_alike⟩ := rfl
theorem f_labels : FT (Str.ofString "_law_labels") = some ⟨2, 11, tk_labels⟩ := rfl
theorem f_number : FT (Str.ofString "_law_number") = some ⟨1, 2, tk_number⟩ := rfl
theorem f_odd : FT (Str.ofString "_law_odd_word") = some ⟨2, 6, tk_odd_word⟩ := rfl
theorem f_atom : FT (Str.ofString "_law_atom_of") = some ⟨2, 3, tk_atom_of⟩ := rfl
theorem f_thing : FT (Str.ofString "_law_thing") = some ⟨2, 7, tk_thing⟩ := rfl
theorem f_whole : FT (Str.ofString "_law_whole") = some ⟨1, 1, tk_whole⟩ := rfl
theorem f_spelt : FT (Str.ofString "_law_spelt") = some ⟨1, 2, tk_spelt⟩ := rfl
theorem f_due : FT (Str.ofString "_law_due") = some ⟨1, 5, tk_due⟩ := rfl
theorem f_int : FT (Str.ofString "is_integer") = some ⟨1, 1, tk_is_integer⟩ := rfl
theorem f_con : FT (Str.ofString "is_constant") = some ⟨1, 1, tk_is_constant⟩ := rfl
theorem f_word : FT (Str.ofString "is_word") = some ⟨1, 1, tk_is_word⟩ := rfl
theorem f_fact : FT (Str.ofString "is_fact") = some ⟨1, 2, tk_is_fact⟩ := rfl
theorem f_name : FT (Str.ofString "is_name") = some ⟨1, 1, tk_is_name⟩ := rfl
theorem bools {G : Gp} {p : Addr} {b1 b2 b3 b4 b5 : Bool} (e : G p = some (.lst [.bl b1, .bl b2, .bl b3, .bl b4, .bl b5])) : Dat 1 G (.ref p) (.list [.bool b1, .bool b2, .bool b3, .bool b4, .bool b5]) :=
  Dat.lst e (.cons .bl (.cons .bl (.cons .bl (.cons .bl (.cons .bl .nil)))))
def bodyL : SA := (sSeq (sSet (eBi reprA (lCons (eVar 5) lNil)) (gNm 6))
  (sSeq (sSet (eLst (lCons (eCall (runF FT 99) "is_integer" (lCons (eVar 5) lNil)) (lCons (eCall (runF FT 99) "is_constant" (lCons (eVar 5) lNil)) (lCons (eCall (runF FT 99) "is_word" (lCons (eVar 5) lNil)) (lCons (eCall (runF FT 99) "is_fact" (lCons (eVar 5) lNil)) (lCons (eCall (runF FT 99) "is_name" (lCons (eVar 5) lNil)) lNil)))))) (gNm 7))
  (sSeq (sIf (bOr (bNot (bV (eCall (runF FT 99) "_law_alike" (lCons (eVar 7) (lCons (eCall (runF FT 99) "_law_due" (lCons (eVar 5) lNil)) lNil))))) (bB (eBin (eqA true) (eBi reprA (lCons (eVar 5) lNil)) (eVar 6)))) (sSeq (sRet (eC (.bl false)))
  sNx) sNx)
  sNx)))
theorem loop {D : Fl} {pL : Addr} {all : List A} {s0 s1 s2 s3 : Option A} (nx : ∀ ς G, D.nx ς G) : ∀ (xs : List A) (y5 y6 y7 : Option A) (G : Gp), (∀ x ∈ xs, ThK G x) → G pL = some (.lst all) →
    forR (gNm 5) bodyL (fun G' => G' pL = some (.lst all)) xs D [s0, s1, s2, s3, none, y5, y6, y7] G
  | [], y5, y6, y7, G, _, g => ⟨g, nx _ _⟩
  | x :: xs, y5, y6, y7, G, h, g => by
    refine ⟨g, ?_⟩
    have hx := h x (by simp)
    obtain ⟨⟨d, d1, d2, d3, d4, d5⟩, hk⟩ := hx
    have hz : sizeLine = 16777216 := by decide
    have sh : d.shown.length ≤ sizeLine := by
      have := PyData.shown_le 300 (by decide) d d2
      omega
    have rep : ∀ G', Sub G G' → ∀ Q : KA, Q (.str d.shown) G' → reprA [x] G' Q := fun G' s Q q => ⟨x, d, rfl, (d1.mono s) 60 (by decide), d3, sh, by omega, q⟩
    simp only [gNm, List.set_cons_zero, List.set_cons_succ]
    unfold bodyL
    refine seq_i fun R hR => ?_
    simp only [sSet, eBi, eVar, lCons, lNil, gNm, List.getElem?_cons_zero, List.getElem?_cons_succ, List.set_cons_zero, List.set_cons_succ]
    refine rep G .refl _ (hR _ _ ?_)
    clear hR R
    refine seq_i fun R hR => ?_
    simp only [sSet, eLst, eCall, eVar, lCons, lNil, gNm, List.getElem?_cons_zero, List.getElem?_cons_succ, List.set_cons_zero, List.set_cons_succ]
    refine is_integer_ok (n := 98) f_int hk.1.1 (is_constant_ok (n := 97) f_int f_con hk.1.1 (is_word_ok (n := 98) f_word hk.1 (is_fact_ok (n := 96) f_int f_con f_word f_fact hk fun G1 s1 => is_name_ok (n := 96) f_int f_word f_name (hk.mono s1) ?_)))
    refine ⟨(by show 5 ≤ sizeLine; decide), fun p2 e2 => hR _ _ ?_⟩
    clear hR R
    have g2 : up G1 p2 (.lst [.bl (isIntB x), .bl (isConB x), .bl (isWordB x), .bl (isFactB x), .bl (isNameB x)]) p2 = _ := up_same
    have s2 := s1.trans (Sub.new (o := .lst [.bl (isIntB x), .bl (isConB x), .bl (isWordB x), .bl (isFactB x), .bl (isNameB x)]) e2)
    generalize up G1 p2 (.lst [.bl (isIntB x), .bl (isConB x), .bl (isWordB x), .bl (isFactB x), .bl (isNameB x)]) = G2 at g2 s2 ⊢
    refine seq_i fun R hR => ?_
    simp only [sIf, sNx, bOr, bNot, bV, bB, eBin, eBi, eCall, eVar, lCons, lNil, List.getElem?_cons_zero, List.getElem?_cons_succ]
    refine due_ok (n := 97) f_whole f_spelt f_due (hk.mono s2) fun r G3 s3 g3 => ?_
    have b2 := bools (s3 _ _ g2)
    have b3 := bools g3
    have sl : (PyData.list [.bool (isIntB x), .bool (isConB x), .bool (isWordB x), .bool (isFactB x), .bool (isNameB x)]).shown.length ≤ sizeLine := by
      have := PyData.shown_le 8 (by decide) (.list [.bool (isIntB x), .bool (isConB x), .bool (isWordB x), .bool (isFactB x), .bool (isNameB x)]) rfl
      have w : (PyData.list [.bool (isIntB x), .bool (isConB x), .bool (isWordB x), .bool (isFactB x), .bool (isNameB x)]).weight = 5 := rfl
      rw [w] at this; omega
    refine alike_ok (n := 98) f_alike b2 b3 (by decide) rfl (by simp [PyData.eqv, PyData.eqvAll]) rfl sl (by simp [PyData.depth, PyData.depthAll]) ?_
    simp only [truA, Bool.not_true, Bool.false_eq_true, if_false]
    refine rep G3 (s2.trans s3) _ ?_
    show eqA true (.str d.shown) (.str d.shown) G3 _
    rw [Q.eq_str]
    simp only [if_true, beq_self_eq_true, Bool.not_true, Bool.false_eq_true, if_false]
    refine hR _ _ ?_
    have s := s2.trans s3
    exact loop nx xs _ _ _ G3 (fun y m => (h y (by simp [m])).mono s) (s _ _ g)
theorem run_law : ∀ ns : List Int, ns.length ≤ 63 → Q.runF FT 100 "law" [.fro (ns.map Q.A.int)] (fun _ => none) (fun v _ => v = .bl true) (fun _ _ => False) := by
  intro ns _
  refine ⟨⟨1, 8, t_law⟩, rfl, rfl, ?_⟩
  show t_law (runF FT 99) _ [some (.fro (ns.map .int)), none, none, none, none, none, none, none] _
  unfold t_law
  refine seq_i fun R hR => ?_
  simp only [sSet, eCall, eVar, lCons, lNil, gNm, List.getElem?_cons_zero, List.set_cons_zero, List.set_cons_succ]
  refine bag_ok (n := 98) f_bag fun b G1 B1 _ => hR _ _ ?_
  clear hR R
  refine seq_i fun R hR => ?_
  simp only [sSet, eCall, eVar, eC, lCons, lNil, gNm, List.getElem?_cons_zero, List.getElem?_cons_succ, List.set_cons_zero, List.set_cons_succ]
  refine labels_ok (n := 97) f_take f_labels B1 (by decide) (by decide) (by decide) fun r ws G2 nr g2 hl hws B2 _ => hR _ _ ?_
  clear hR R
  refine seq_i fun R hR => ?_
  simp only [sSet, eLc, Q.iRng1, eC, gNm, List.set_cons_zero, List.set_cons_succ]
  refine ⟨by decide, by decide, ?_⟩
  have hbn : (2 : Int) ^ 57 = 144115188075855872 := by decide
  have hbm : (2 : Int) ^ 60 = 1152921504606846976 := by decide
  refine lc_inv 24 (by decide) (fun acc G' => (∀ x ∈ acc, ThK (rm b G') x) ∧ Bag b (20 + 61 * acc.length) G' ∧ Sub (rm b G2) (rm b G')) (fun _ _ _ => trivial) _ _ _ ?_ ⟨by simp, B2.more (by simp), .refl⟩ (by decide) ?_
  · rintro x hx acc Gx Qx hl2 ⟨hi, Bx, sx⟩ qx
    simp only [wipeA, eBin, eCall, eVar, eC, lCons, lNil, List.set_cons_zero, List.set_cons_succ, List.getElem?_cons_zero, List.getElem?_cons_succ]
    refine take_ok (n := 98) (many := 3) f_take Bx (by omega) (by decide) (by decide) fun d Gy d0 d1 By ry => ?_
    have gy := keep ry nr (keepS sx nr g2)
    rw [ix_ref, gy]
    obtain ⟨v, mv, ev⟩ := atI_mem (xs := ws.map A.str) d0 (by rw [List.length_map]; omega)
    simp only [ev]
    obtain ⟨w, mw, rfl⟩ := List.mem_map.mp mv
    refine thing_ok (n := 95) f_take f_number f_odd f_atom f_thing By (by omega) (hws w mw) fun z Gz hz Bz sz => qx _ _ ⟨?_, Bz.more (by simp only [List.length_append, List.length_cons, List.length_nil]; omega), sx.trans (by rw [← ry]; exact sz)⟩
    intro y my
    rcases List.mem_append.mp my with my | my
    · exact (hi y my).mono (by rw [← ry]; exact sz)
    · simp at my; subst my; exact hz
  rintro acc G3 hl3 ⟨hi, B3, s3⟩
  intro p3 e3
  refine hR _ _ ?_
  clear hR R
  have h3 : ∀ x ∈ acc, ThK (up G3 p3 (.lst acc)) x := fun x m => ((hi x m).mono rm_sub).mono (Sub.new e3)
  have g3 : up G3 p3 (.lst acc) p3 = some (.lst acc) := up_same
  generalize up G3 p3 (.lst acc) = G4 at h3 g3 ⊢
  have hla : acc.length = 24 := by rw [hl3]; rfl
  refine seq_i fun R hR => ?_
  simp only [sFor, iSeq, eBin, eRev, eVar, lstOf, List.getElem?_cons_zero, List.getElem?_cons_succ, g3]
  refine ⟨acc, rfl, fun p5 e5 => ?_⟩
  have g5 : up G4 p5 (.lst acc.reverse) p3 = some (.lst acc) := Sub.new e5 _ _ g3
  simp only [addA, g5, up_same]
  refine ⟨by rw [List.length_reverse, hla]; decide, fun p6 e6 => ?_⟩
  simp only [itOf, up_same]
  have s := (Sub.new (o := .lst acc.reverse) e5).trans (Sub.new (o := .lst (acc ++ acc.reverse)) e6)
  refine loop (fun ς G => hR ς G (by simp only [sSeq, sRet, eC])) (acc ++ acc.reverse) _ _ _ _ (fun x m => (h3 x ?_).mono s) up_same
  rcases List.mem_append.mp m with m | m
  · exact m
  · simpa using m
end G
open PySem PySem.W PyProof.Rows Q G
set_option maxRecDepth 100000 in
set_option maxHeartbeats 0 in
theorem PySem.Challenge.cw_frozenbodies_k12_kinds_known_holds : PySem.Challenge.rw_frozenbodies_k12_kinds_known.Holds := by
  w_on; o_law; k_head; (case hw => w_witness2)
  k_fill
  refine walkG (l := PySem.Challenge.rw_frozenbodies_k12_kinds_known) (n := 63) (k := 100) (x := Str.ofString "_law_script") (FT := FT) (F := "law") (cm := fun _ => none) rfl (by decide) rfl ⟨rfl, by decide, by decide⟩ (fun w h Y => PySem.W.kIn_of Y) ?D run_law
  intro w mg fa h KX G hmg
  have d_is_integer : ∃ f fd, DefAt (L2.KOf KX) mg i_is_integer f fd := by
    refine' def_mk (key := "is_integer") (qual := Str.ofString "is_integer") (st := top 3) KX G s_is_integer (fun _ _ _ _ _ _ us hl => match us, hl with | [_], _ => rfl) ?a_is_integer ?l_is_integer ?c_is_integer ?k_is_integer
    (case a_is_integer => (try dsimp only [L2.KOf]); k_is); (case l_is_integer => (try dsimp only [L2.KOf]); k_is); (case c_is_integer => (try dsimp only [L2.KOf]); k_is); (case k_is_integer => (try dsimp only [L2.KOf]); k_is)
  have d_is_constant : ∃ f fd, DefAt (L2.KOf KX) mg i_is_constant f fd := by
    refine' def_mk (key := "is_constant") (qual := Str.ofString "is_constant") (st := top 4) KX G s_is_constant (fun _ _ _ _ _ _ us hl => match us, hl with | [_], _ => rfl) ?a_is_constant ?l_is_constant ?c_is_constant ?k_is_constant
    (case a_is_constant => (try dsimp only [L2.KOf]); k_is); (case l_is_constant => (try dsimp only [L2.KOf]); k_is); (case c_is_constant => (try dsimp only [L2.KOf]); k_is); (case k_is_constant => (try dsimp only [L2.KOf]); k_is)
  have d_is_word : ∃ f fd, DefAt (L2.KOf KX) mg i_is_word f fd := by
    refine' def_mk (key := "is_word") (qual := Str.ofString "is_word") (st := top 5) KX G s_is_word (fun _ _ _ _ _ _ us hl => match us, hl with | [_], _ => rfl) ?a_is_word ?l_is_word ?c_is_word ?k_is_word
    (case a_is_word => (try dsimp only [L2.KOf]); k_is); (case l_is_word => (try dsimp only [L2.KOf]); k_is); (case c_is_word => (try dsimp only [L2.KOf]); k_is); (case k_is_word => (try dsimp only [L2.KOf]); k_is)
  have d_is_fact : ∃ f fd, DefAt (L2.KOf KX) mg i_is_fact f fd := by
    refine' def_mk (key := "is_fact") (qual := Str.ofString "is_fact") (st := top 6) KX G s_is_fact (fun _ _ _ _ _ _ us hl => match us, hl with | [_], _ => rfl) ?a_is_fact ?l_is_fact ?c_is_fact ?k_is_fact
    (case a_is_fact => (try dsimp only [L2.KOf]); k_is); (case l_is_fact => (try dsimp only [L2.KOf]); k_is); (case c_is_fact => (try dsimp only [L2.KOf]); k_is); (case k_is_fact => (try dsimp only [L2.KOf]); k_is)
  have d_is_name : ∃ f fd, DefAt (L2.KOf KX) mg i_is_name f fd := by
    refine' def_mk (key := "is_name") (qual := Str.ofString "is_name") (st := top 7) KX G s_is_name (fun _ _ _ _ _ _ us hl => match us, hl with | [_], _ => rfl) ?a_is_name ?l_is_name ?c_is_name ?k_is_name
    (case a_is_name => (try dsimp only [L2.KOf]); k_is); (case l_is_name => (try dsimp only [L2.KOf]); k_is); (case c_is_name => (try dsimp only [L2.KOf]); k_is); (case k_is_name => (try dsimp only [L2.KOf]); k_is)
  have d_bag : ∃ f fd, DefAt (L2.KOf KX) mg i_bag f fd := by
    refine' def_mk (key := "_law_bag") (qual := Str.ofString "_law_bag") (st := top 9) KX G s_bag (fun _ _ _ _ _ _ us hl => match us, hl with | [_], _ => rfl) ?a_bag ?l_bag ?c_bag ?k_bag
    (case a_bag => (try dsimp only [L2.KOf]); k_is); (case l_bag => (try dsimp only [L2.KOf]); k_is); (case c_bag => (try dsimp only [L2.KOf]); k_is); (case k_bag => (try dsimp only [L2.KOf]); k_is)
  have d_take : ∃ f fd, DefAt (L2.KOf KX) mg i_take f fd := by
    refine' def_mk (key := "_law_take") (qual := Str.ofString "_law_take") (st := top 10) KX G s_take (fun _ _ _ _ _ _ us hl => match us, hl with | [_, _], _ => rfl) ?a_take ?l_take ?c_take ?k_take
    (case a_take => (try dsimp only [L2.KOf]); k_is); (case l_take => (try dsimp only [L2.KOf]); k_is); (case c_take => (try dsimp only [L2.KOf]); k_is); (case k_take => (try dsimp only [L2.KOf]); k_is)
  have d_alike : ∃ f fd, DefAt (L2.KOf KX) mg i_alike f fd := by
    refine' def_mk (key := "_law_alike") (qual := Str.ofString "_law_alike") (st := top 11) KX G s_alike (fun _ _ _ _ _ _ us hl => match us, hl with | [_, _], _ => rfl) ?a_alike ?l_alike ?c_alike ?k_alike
    (case a_alike => (try dsimp only [L2.KOf]); k_is); (case l_alike => (try dsimp only [L2.KOf]); k_is); (case c_alike => (try dsimp only [L2.KOf]); k_is); (case k_alike => (try dsimp only [L2.KOf]); k_is)
  have d_labels : ∃ f fd, DefAt (L2.KOf KX) mg i_labels f fd := by
    refine' def_mk (key := "_law_labels") (qual := Str.ofString "_law_labels") (st := top 12) KX G s_labels (fun _ _ _ _ _ _ us hl => match us, hl with | [_, _], _ => rfl) ?a_labels ?l_labels ?c_labels ?k_labels
    (case a_labels => (try dsimp only [L2.KOf]); k_is); (case l_labels => (try dsimp only [L2.KOf]); k_is); (case c_labels => (try dsimp only [L2.KOf]); k_is); (case k_labels => (try dsimp only [L2.KOf]); k_is)
  have d_number : ∃ f fd, DefAt (L2.KOf KX) mg i_number f fd := by
    refine' def_mk (key := "_law_number") (qual := Str.ofString "_law_number") (st := top 13) KX G s_number (fun _ _ _ _ _ _ us hl => match us, hl with | [_], _ => rfl) ?a_number ?l_number ?c_number ?k_number
    (case a_number => (try dsimp only [L2.KOf]); k_is); (case l_number => (try dsimp only [L2.KOf]); k_is); (case c_number => (try dsimp only [L2.KOf]); k_is); (case k_number => (try dsimp only [L2.KOf]); k_is)
  have d_odd_word : ∃ f fd, DefAt (L2.KOf KX) mg i_odd_word f fd := by
    refine' def_mk (key := "_law_odd_word") (qual := Str.ofString "_law_odd_word") (st := top 14) KX G s_odd_word (fun _ _ _ _ _ _ us hl => match us, hl with | [_, _], _ => rfl) ?a_odd_word ?l_odd_word ?c_odd_word ?k_odd_word
    (case a_odd_word => (try dsimp only [L2.KOf]); k_is); (case l_odd_word => (try dsimp only [L2.KOf]); k_is); (case c_odd_word => (try dsimp only [L2.KOf]); k_is); (case k_odd_word => (try dsimp only [L2.KOf]); k_is)
  have d_atom_of : ∃ f fd, DefAt (L2.KOf KX) mg i_atom_of f fd := by
    refine' def_mk (key := "_law_atom_of") (qual := Str.ofString "_law_atom_of") (st := top 15) KX G s_atom_of (fun _ _ _ _ _ _ us hl => match us, hl with | [_, _], _ => rfl) ?a_atom_of ?l_atom_of ?c_atom_of ?k_atom_of
    (case a_atom_of => (try dsimp only [L2.KOf]); k_is); (case l_atom_of => (try dsimp only [L2.KOf]); k_is); (case c_atom_of => (try dsimp only [L2.KOf]); k_is); (case k_atom_of => (try dsimp only [L2.KOf]); k_is)
  have d_thing : ∃ f fd, DefAt (L2.KOf KX) mg i_thing f fd := by
    refine' def_mk (key := "_law_thing") (qual := Str.ofString "_law_thing") (st := top 16) KX G s_thing (fun _ _ _ _ _ _ us hl => match us, hl with | [_, _], _ => rfl) ?a_thing ?l_thing ?c_thing ?k_thing
    (case a_thing => (try dsimp only [L2.KOf]); k_is); (case l_thing => (try dsimp only [L2.KOf]); k_is); (case c_thing => (try dsimp only [L2.KOf]); k_is); (case k_thing => (try dsimp only [L2.KOf]); k_is)
  have d_whole : ∃ f fd, DefAt (L2.KOf KX) mg i_whole f fd := by
    refine' def_mk (key := "_law_whole") (qual := Str.ofString "_law_whole") (st := top 17) KX G s_whole (fun _ _ _ _ _ _ us hl => match us, hl with | [_], _ => rfl) ?a_whole ?l_whole ?c_whole ?k_whole
    (case a_whole => (try dsimp only [L2.KOf]); k_is); (case l_whole => (try dsimp only [L2.KOf]); k_is); (case c_whole => (try dsimp only [L2.KOf]); k_is); (case k_whole => (try dsimp only [L2.KOf]); k_is)
  have d_spelt : ∃ f fd, DefAt (L2.KOf KX) mg i_spelt f fd := by
    refine' def_mk (key := "_law_spelt") (qual := Str.ofString "_law_spelt") (st := top 18) KX G s_spelt (fun _ _ _ _ _ _ us hl => match us, hl with | [_], _ => rfl) ?a_spelt ?l_spelt ?c_spelt ?k_spelt
    (case a_spelt => (try dsimp only [L2.KOf]); k_is); (case l_spelt => (try dsimp only [L2.KOf]); k_is); (case c_spelt => (try dsimp only [L2.KOf]); k_is); (case k_spelt => (try dsimp only [L2.KOf]); k_is)
  have d_due : ∃ f fd, DefAt (L2.KOf KX) mg i_due f fd := by
    refine' def_mk (key := "_law_due") (qual := Str.ofString "_law_due") (st := top 19) KX G s_due (fun _ _ _ _ _ _ us hl => match us, hl with | [_], _ => rfl) ?a_due ?l_due ?c_due ?k_due
    (case a_due => (try dsimp only [L2.KOf]); k_is); (case l_due => (try dsimp only [L2.KOf]); k_is); (case c_due => (try dsimp only [L2.KOf]); k_is); (case k_due => (try dsimp only [L2.KOf]); k_is)
  have d_law : ∃ f fd, DefAt (L2.KOf KX) mg i_law f fd := by
    refine' def_mk (key := "law") (qual := Str.ofString "law") (st := top 20) KX G s_law (fun _ _ _ _ _ _ us hl => match us, hl with | [_], _ => rfl) ?a_law ?l_law ?c_law ?k_law
    (case a_law => (try dsimp only [L2.KOf]); k_is); (case l_law => (try dsimp only [L2.KOf]); k_is); (case c_law => (try dsimp only [L2.KOf]); k_is); (case k_law => (try dsimp only [L2.KOf]); k_is)
  have hat : ∀ i ∈ all, ∃ f fd, DefAt (L2.KOf KX) mg i f fd :=
    all_cons d_is_integer (all_cons d_is_constant (all_cons d_is_word (all_cons d_is_fact (all_cons d_is_name (all_cons d_bag (all_cons d_take (all_cons d_alike (all_cons d_labels (all_cons d_number (all_cons d_odd_word (all_cons d_atom_of (all_cons d_thing (all_cons d_whole (all_cons d_spelt (all_cons d_due (all_cons d_law (all_nil)))))))))))))))))
  have b_len : mg (Str.ofString "len") = none := PySem.W.mg_none_of KX G (by k_is)
  have b_repr : mg (Str.ofString "repr") = none := PySem.W.mg_none_of KX G (by k_is)
  have b_abs : mg (Str.ofString "abs") = none := PySem.W.mg_none_of KX G (by k_is)
  have b_all : mg (Str.ofString "all") = none := PySem.W.mg_none_of KX G (by k_is)
  have b_any : mg (Str.ofString "any") = none := PySem.W.mg_none_of KX G (by k_is)
  have b_int : mg (Str.ofString "int") = none := PySem.W.mg_none_of KX G (by k_is)
  have b_list : mg (Str.ofString "list") = none := PySem.W.mg_none_of KX G (by k_is)
  have b_tuple : mg (Str.ofString "tuple") = none := PySem.W.mg_none_of KX G (by k_is)
  have b_bool : mg (Str.ofString "bool") = none := PySem.W.mg_none_of KX G (by k_is)
  have b_str : mg (Str.ofString "str") = none := PySem.W.mg_none_of KX G (by k_is)
  have b_dict : mg (Str.ofString "dict") = none := PySem.W.mg_none_of KX G (by k_is)
  have b_isinstance : mg (Str.ofString "isinstance") = none := PySem.W.mg_none_of KX G (by k_is)
  have b_range : mg (Str.ofString "range") = none := PySem.W.mg_none_of KX G (by k_is)
  have bl : ∀ x, pg.fn.lookup x = none → x ∈ bltNames → mg x = none := by
    intro x _ hx
    simp only [bltNames, List.mem_cons, List.not_mem_nil, or_false] at hx
    rcases hx with rfl | rfl | rfl | rfl | rfl | rfl | rfl | rfl | rfl | rfl | rfl | rfl | rfl <;> assumption
  have c_LONGEST_WORD : ∃ t, mg (Str.ofString "LONGEST_WORD") = some (.int 8 t) := ⟨_, PySem.W.mg_of KX G (by k_is)⟩
  have c_MOST_PLACES : ∃ t, mg (Str.ofString "MOST_PLACES") = some (.int 4 t) := ⟨_, PySem.W.mg_of KX G (by k_is)⟩
  have cs : ∀ x i, pg.kc.lookup x = some i → ∃ t, mg x = some (.int i t) := lookup_all (by
    simp only [pg, List.mem_cons, List.not_mem_nil, or_false, forall_eq_or_imp, forall_eq]
    exact ⟨c_LONGEST_WORD, c_MOST_PLACES⟩)
  obtain ⟨f, fd, D⟩ := d_law
  have e : f = fa := by
    have z : mg (Str.ofString "law") = some (.ref f) := D.mg
    have z2 : mg (Str.ofString "law") = some (.ref fa) := hmg
    rw [z2] at z; cases z; rfl
  subst e
  refine ⟨fd, fun s u => D.bd1 s [u] rfl, fun base => ?_⟩
  have z := all_defs (P := PySem.Challenge.rw_frozenbodies_k12_kinds_known.prog) (w := w) (base := base) (T := ⟨L2.KOf KX, fun _ => none⟩) (k := 100) rfl hat (fun x F z => own_of z) hFT bl cs 100 i_law mem_law f fd D
  exact z
