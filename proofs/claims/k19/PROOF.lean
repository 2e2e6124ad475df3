import PyProof.Rows.All
import Wide.All
import OpenK.AllK
import Wide.FinOn
import HandS.ForMost
import HandS.ForExc
import HandS.IsInst
import HandS.StrMore
import HandS.Deep
import HandS.Wide
import HandS.Flow
import HandS.Style
import HandS.TupAny
import HandS.TupLe
import PyProof.ReprReads
import PyProof.ReprRoads
import PyProof.StrBlock2
import HandS.More
import KE.SortCalls
import HandS.Conv
import HandS.Small
import HandS.TupLen
import KE.KDictZip
import HandS.DictComp
import PySem.Challenge.RW_frozenbodies_k19_atoms_told
set_option Elab.async false
set_option linter.all false
set_option maxRecDepth 100000
set_option maxHeartbeats 4000000
/-! N1: values as trees, what nobody changes any more among them; the abstract heap of what may change; how they stand in the hand layer's heap. -/
namespace Q
open PySem PySem.Spec PyProof.Rows L2

/-- a value: a tree, but for what may still change, which is at an address. scr: the script. fro, fdc, fin, exn: a list, a dict, an instance, an exception that nobody changes from here on -/
inductive A where
  | non | bl (b : Bool) | int (i : Int) | str (x : Str) | tup (xs : List A) | scr (xs : List A) | fro (xs : List A) | fdc (ks vs : List A) | fin (C : Str) (ns : List Str) (vs : List A) | exn (C : Str) (ns : List Str) (vs : List A) | ref (a : Addr)
/-- what stands at an address: a list, a dict, an instance of the class C -/
inductive O where
  | lst (xs : List A) | dct (kvs : List (A × A)) | ins (C : Str) (fs : List (Str × A))
abbrev Gp := Addr → Option O
def up (G : Gp) (a : Addr) (o : O) : Gp := fun b => if b = a then some o else G b
def rm (b : Addr) (G : Gp) : Gp := fun a => if a = b then none else G a
theorem up_same {G : Gp} {a : Addr} {o : O} : up G a o a = some o := by unfold up; rw [if_pos rfl]
theorem up_ne {G : Gp} {a b : Addr} {o : O} (h : b ≠ a) : up G a o b = G b := by unfold up; rw [if_neg h]
theorem rm_ne {G : Gp} {a b : Addr} (h : a ≠ b) : rm b G a = G a := if_neg h
theorem rm_self {G : Gp} {b : Addr} : rm b G b = none := if_pos rfl
abbrev En := List (Option A)
structure Ex where
  cls : Str
  ns : List Str
  vs : List A
abbrev KA := A → Gp → Prop
abbrev KX := Ex → Gp → Prop
abbrev EA := En → Gp → KA → KX → Prop
abbrev BA := En → Gp → (Bool → Gp → Prop) → KX → Prop
abbrev LA := En → Gp → (List A → Gp → Prop) → KX → Prop
structure Fl where
  nx : En → Gp → Prop
  rt : KA
  bk : En → Gp → Prop := fun _ _ => False
  ct : En → Gp → Prop := fun _ _ => False
  ex : Ex → En → Gp → Prop
abbrev SA := Fl → En → Gp → Prop

/-- the written part, the classes' addresses -/
structure Tx where
  K : PySem.W.Frag
  cm : Str → Option Addr

/-- a key of the hand layer as a tree -/
def keyA : Key → A
  | .inl i => .int i
  | .inr x => .str x
/-- the abstract heap, and the addresses of what nobody changes any more -/
structure GS where
  G : Gp
  S : Addr → Prop
instance : Coe GS Gp := ⟨GS.G⟩
instance : CoeFun GS fun _ => Addr → Option O := ⟨GS.G⟩
def Fx (g : GS) (p : Addr) : Prop := g.S p ∧ g.G p = none
def GS.up (g : GS) (p : Addr) (o : O) : GS := ⟨Q.up g.G p o, g.S⟩
def GS.rm (g : GS) (p : Addr) : GS := ⟨Q.rm p g.G, fun b => b = p ∨ g.S b⟩
def GS.fx (g : GS) (p : Addr) : GS := ⟨g.G, fun b => b = p ∨ g.S b⟩
/-- what nobody changes is kept -/
def Ks (G : GS) (H : Hp) (G' : GS) (H' : Hp) : Prop := ∀ b u, Fx G b → H b = some u → Fx G' b ∧ H' b = some u
/-- what is never written -/
def imm : HO → Prop
  | .tup _ => True
  | .frz _ _ => True
  | _ => False
/-- what lies outside of G is kept -/
structure Kp (G : GS) (H : Hp) (G' : GS) (H' : Hp) : Prop where
  kp : ∀ b u, G b = none → H b = some u → G' b = none ∧ H' b = some u
  sm : ∀ b, G.S b → G'.S b
  nw : ∀ b, G'.S b → G.S b ∨ G b ≠ none ∨ H b = none ∨ ∃ u, imm u ∧ H b = some u
theorem Kp.ks {G G' : GS} {H H' : Hp} (k : Kp G H G' H') : Ks G H G' H' := fun b u f h => ⟨⟨k.sm _ f.1, (k.kp b u f.2 h).1⟩, (k.kp b u f.2 h).2⟩
theorem Kp.refl {G : GS} {H : Hp} : Kp G H G H := ⟨fun _ _ a b => ⟨a, b⟩, fun _ h => h, fun _ h => .inl h⟩
theorem Kp.trans {G G1 G' : GS} {H H1 H' : Hp} (a : Kp G H G1 H1) (b : Kp G1 H1 G' H') : Kp G H G' H' := by
  refine ⟨fun c u x y => b.kp c u (a.kp c u x y).1 (a.kp c u x y).2, fun c h => b.sm c (a.sm c h), fun c h => ?_⟩
  cases g : G c with
  | some o => exact .inr (.inl (by simp))
  | none =>
    cases e : H c with
    | none => exact .inr (.inr (.inl rfl))
    | some u =>
      obtain ⟨z1, z2⟩ := a.kp c u g e
      rcases b.nw c h with h | h | h | ⟨w, i, h⟩
      · rcases a.nw c h with h | h | h | ⟨w, i, h⟩
        · exact .inl h
        · exact absurd g h
        · rw [e] at h; cases h
        · rw [e] at h; cases h; exact .inr (.inr (.inr ⟨u, i, rfl⟩))
      · exact absurd z1 h
      · rw [z2] at h; cases h
      · rw [z2] at h; cases h; exact .inr (.inr (.inr ⟨u, i, rfl⟩))
/-- an exception's own object -/
def exHO (p c : Addr) (d : Option Addr) : HO := .ext fun h => ∃ fv, h.get? p = some { cls := .ref c, dict := d, data := .fields fv }
/-- a tuple, a list that nobody changes, a dict -/
def TupAt (T : Tx) (G : GS) (H : Hp) (p : Addr) (vs : List V) : Prop := (Fx G p ∧ H p = some (.tup vs)) ∨ (vs = [] ∧ SqT T.K (fun _ => none) p [])
def ScrAt (T : Tx) (G : GS) (H : Hp) (p : Addr) (vs : List V) : Prop := (Fx G p ∧ Rd H p (.lst vs)) ∨ SqL T.K (fun _ => none) p vs
theorem rd_none {p : Addr} {u : HO} (h : Rd (fun _ => none) p u) : False := by rcases h with h | ⟨o, h⟩ <;> cases h
section
variable {T : Tx} {G G' : GS} {H H' : Hp} {p : Addr} {vs : List V}
theorem Ks.rd (k : Ks G H G' H') {u : HO} (g : Fx G p) (h : Rd H p u) : Fx G' p ∧ Rd H' p u := by
  rcases h with h | ⟨o, h⟩
  · exact ⟨(k _ _ g h).1, .inl (k _ _ g h).2⟩
  · exact ⟨(k _ _ g h).1, .inr ⟨o, (k _ _ g h).2⟩⟩
theorem TupAt.mono' (h : TupAt T G H p vs) (k : Ks G H G' H') : TupAt T G' H' p vs := by
  rcases h with ⟨g, h⟩ | h
  · exact .inl (k _ _ g h)
  · exact .inr h
theorem ScrAt.mono' (h : ScrAt T G H p vs) (k : Ks G H G' H') : ScrAt T G' H' p vs := by
  rcases h with ⟨g, h⟩ | h
  · exact .inl (k.rd g h)
  · exact .inr h
theorem TupAt.mono (h : TupAt T G H p vs) (k : Kp G H G' H') : TupAt T G' H' p vs := h.mono' k.ks
theorem ScrAt.mono (h : ScrAt T G H p vs) (k : Kp G H G' H') : ScrAt T G' H' p vs := h.mono' k.ks
theorem TupAt.sq (h : TupAt T G H p vs) : SqT T.K H p vs := by
  rcases h with ⟨g, h⟩ | ⟨rfl, h | h⟩
  · exact .inl (.inl h)
  · exact (rd_none h).elim
  · exact .inr h
theorem ScrAt.sq (h : ScrAt T G H p vs) : SqL T.K H p vs := by
  rcases h with ⟨g, h⟩ | h | h
  · exact .inl h
  · exact (rd_none h).elim
  · exact .inr h
end
mutual
/-- the value v stands for the tree -/
def RV (T : Tx) (G : GS) (H : Hp) : A → V → Prop
  | .non, v => v = .non
  | .bl b, v => v = .bl b
  | .int i, v => v = .int i
  | .str x, v => v = .str x
  | .ref a, v => v = .ref a
  | .tup xs, v => ∃ p vs, v = .ref p ∧ TupAt T G H p vs ∧ RVs T G H xs vs
  | .scr xs, v => ∃ p vs, v = .ref p ∧ ScrAt T G H p vs ∧ RVs T G H xs vs
  | .fro xs, v => ∃ p vs, v = .ref p ∧ Fx G p ∧ H p = some (.lst vs) ∧ RVs T G H xs vs
  | .fdc ks xs, v => ∃ p vs, v = .ref p ∧ Fx G p ∧ RVs T G H xs vs ∧ ((∃ qs : List (Key × V), H p = some (.dK qs) ∧ ks = qs.map (fun q => keyA q.1) ∧ vs = qs.map (·.2)) ∨
      ∃ qs : List (List Key × V), H p = some (.dT qs) ∧ ks = qs.map (fun q => A.tup (q.1.map keyA)) ∧ vs = qs.map (·.2))
  | .fin C ns xs, v => ∃ p c dx vs, v = .ref p ∧ Fx G p ∧ T.cm C = some c ∧ H p = some (.ins c dx (ns.zip vs)) ∧ ns.length = xs.length ∧ RVs T G H xs vs
  | .exn C ns xs, v => ∃ p c d vs, v = .ref p ∧ Fx G p ∧ T.cm C = some c ∧ H p = some (exHO p c d) ∧ ns.length = xs.length ∧ (match d with
      | none => ns = []
      | some x => Fx G x ∧ H x = some (.xd (ns.zip vs))) ∧ RVs T G H xs vs
def RVs (T : Tx) (G : GS) (H : Hp) : List A → List V → Prop
  | [], vs => vs = []
  | x :: xs, vs => ∃ v r, vs = v :: r ∧ RV T G H x v ∧ RVs T G H xs r
end
section
variable {T : Tx} {G G' : GS} {H H' : Hp}
theorem RVs.len : ∀ {xs : List A} {vs : List V}, RVs T G H xs vs → vs.length = xs.length
  | [], vs, h => by simp only [RVs] at h; subst h; rfl
  | x :: xs, vs, h => by
    simp only [RVs] at h
    obtain ⟨v, r, rfl, _, h2⟩ := h
    simp [RVs.len h2]
theorem RVs.get : ∀ {xs : List A} {vs : List V} {i : Nat} {a : A}, RVs T G H xs vs → xs[i]? = some a → ∃ v, vs[i]? = some v ∧ RV T G H a v
  | [], _, _, _, _, e => by simp at e
  | x :: xs, vs, 0, a, h, e => by
    simp only [RVs] at h
    obtain ⟨v, r, rfl, h1, h2⟩ := h
    simp at e; subst e; exact ⟨v, rfl, h1⟩
  | x :: xs, vs, i + 1, a, h, e => by
    simp only [RVs] at h
    obtain ⟨v, r, rfl, h1, h2⟩ := h
    obtain ⟨w, e1, e2⟩ := RVs.get (i := i) h2 (by simpa using e)
    exact ⟨w, by simpa using e1, e2⟩
theorem RVs.get' : ∀ {xs : List A} {vs : List V} {i : Nat} {v : V}, RVs T G H xs vs → vs[i]? = some v → ∃ a, xs[i]? = some a ∧ RV T G H a v
  | [], _, _, _, h, e => by simp only [RVs] at h; subst h; simp at e
  | x :: xs, vs, 0, v', h, e => by
    simp only [RVs] at h
    obtain ⟨v, r, rfl, h1, h2⟩ := h
    simp at e; subst e; exact ⟨x, rfl, h1⟩
  | x :: xs, vs, i + 1, v', h, e => by
    simp only [RVs] at h
    obtain ⟨v, r, rfl, h1, h2⟩ := h
    obtain ⟨w, e1, e2⟩ := RVs.get' (i := i) h2 (by simpa using e)
    exact ⟨w, by simpa using e1, e2⟩
theorem RVs.app : ∀ {xs ys : List A} {vs ws : List V}, RVs T G H xs vs → RVs T G H ys ws → RVs T G H (xs ++ ys) (vs ++ ws)
  | [], ys, vs, ws, h, h' => by simp only [RVs] at h; subst h; exact h'
  | x :: xs, ys, vs, ws, h, h' => by
    simp only [RVs] at h
    obtain ⟨v, r, rfl, h1, h2⟩ := h
    exact ⟨v, r ++ ws, rfl, h1, RVs.app h2 h'⟩
theorem RVs.nil : RVs T G H [] [] := by simp only [RVs]
theorem RVs.one {x : A} {v : V} (h : RV T G H x v) : RVs T G H [x] [v] := ⟨v, [], rfl, h, rfl⟩
theorem RVs.cons {x : A} {v : V} {xs : List A} {vs : List V} (h : RV T G H x v) (h' : RVs T G H xs vs) : RVs T G H (x :: xs) (v :: vs) := ⟨v, vs, rfl, h, h'⟩
theorem RVs.take : ∀ {xs : List A} {vs : List V} (n : Nat), RVs T G H xs vs → RVs T G H (xs.take n) (vs.take n)
  | xs, vs, 0, _ => by simp only [List.take_zero]; rfl
  | [], vs, n + 1, h => by simp only [RVs] at h; subst h; rfl
  | x :: xs, vs, n + 1, h => by
    simp only [RVs] at h
    obtain ⟨v, r, rfl, h1, h2⟩ := h
    exact .cons h1 (RVs.take n h2)
theorem RVs.drop : ∀ {xs : List A} {vs : List V} (n : Nat), RVs T G H xs vs → RVs T G H (xs.drop n) (vs.drop n)
  | xs, vs, 0, h => h
  | [], vs, n + 1, h => by simp only [RVs] at h; subst h; rfl
  | x :: xs, vs, n + 1, h => by
    simp only [RVs] at h
    obtain ⟨v, r, rfl, h1, h2⟩ := h
    exact RVs.drop n h2
theorem RVs.set : ∀ {xs : List A} {vs : List V} (i : Nat) {a : A} {v : V}, RVs T G H xs vs → RV T G H a v → RVs T G H (xs.set i a) (vs.set i v)
  | [], vs, i, a, v, h, _ => by simp only [RVs] at h; subst h; rfl
  | x :: xs, vs, 0, a, v, h, h' => by
    simp only [RVs] at h
    obtain ⟨w, r, rfl, h1, h2⟩ := h
    exact .cons h' h2
  | x :: xs, vs, i + 1, a, v, h, h' => by
    simp only [RVs] at h
    obtain ⟨w, r, rfl, h1, h2⟩ := h
    exact .cons h1 (RVs.set i h2 h')
theorem RVs.reverse : ∀ {xs : List A} {vs : List V}, RVs T G H xs vs → RVs T G H xs.reverse vs.reverse
  | [], vs, h => by simp only [RVs] at h; subst h; rfl
  | x :: xs, vs, h => by
    simp only [RVs] at h
    obtain ⟨v, r, rfl, h1, h2⟩ := h
    rw [List.reverse_cons, List.reverse_cons]
    exact RVs.app (RVs.reverse h2) (.one h1)
theorem RVs.eraseIdx : ∀ {xs : List A} {vs : List V} (i : Nat), RVs T G H xs vs → RVs T G H (xs.eraseIdx i) (vs.eraseIdx i)
  | [], vs, i, h => by simp only [RVs] at h; subst h; rfl
  | x :: xs, vs, 0, h => by
    simp only [RVs] at h
    obtain ⟨v, r, rfl, h1, h2⟩ := h
    exact h2
  | x :: xs, vs, i + 1, h => by
    simp only [RVs] at h
    obtain ⟨v, r, rfl, h1, h2⟩ := h
    exact .cons h1 (RVs.eraseIdx i h2)
theorem RVs.rep : ∀ {xs : List A} {vs : List V} (n : Nat), RVs T G H xs vs → RVs T G H (List.replicate n xs).flatten (List.replicate n vs).flatten
  | xs, vs, 0, _ => rfl
  | xs, vs, n + 1, h => by
    rw [List.replicate_succ, List.replicate_succ, List.flatten_cons, List.flatten_cons]
    exact RVs.app h (RVs.rep n h)
mutual
theorem RV.mono' (k : Ks G H G' H') : ∀ {a : A} {v : V}, RV T G H a v → RV T G' H' a v
  | .non, _, h | .bl _, _, h | .int _, _, h | .str _, _, h | .ref _, _, h => by simp only [RV] at h ⊢; exact h
  | .tup xs, v, h => by
    simp only [RV] at h ⊢
    obtain ⟨p, vs, e, h1, h2⟩ := h
    exact ⟨p, vs, e, h1.mono' k, RVs.mono' k h2⟩
  | .scr xs, v, h => by
    simp only [RV] at h ⊢
    obtain ⟨p, vs, e, h1, h2⟩ := h
    exact ⟨p, vs, e, h1.mono' k, RVs.mono' k h2⟩
  | .fro xs, v, h => by
    simp only [RV] at h ⊢
    obtain ⟨p, vs, e, g, h1, h2⟩ := h
    exact ⟨p, vs, e, (k _ _ g h1).1, (k _ _ g h1).2, RVs.mono' k h2⟩
  | .fdc ks xs, v, h => by
    simp only [RV] at h ⊢
    obtain ⟨p, vs, e, g, h2, h1⟩ := h
    rcases h1 with ⟨qs, r, e1, e2⟩ | ⟨qs, r, e1, e2⟩
    · exact ⟨p, vs, e, (k _ _ g r).1, RVs.mono' k h2, .inl ⟨qs, (k _ _ g r).2, e1, e2⟩⟩
    · exact ⟨p, vs, e, (k _ _ g r).1, RVs.mono' k h2, .inr ⟨qs, (k _ _ g r).2, e1, e2⟩⟩
  | .fin C ns xs, v, h => by
    simp only [RV] at h ⊢
    obtain ⟨p, c, dx, vs, e, g, m, h1, l, h2⟩ := h
    exact ⟨p, c, dx, vs, e, (k _ _ g h1).1, m, (k _ _ g h1).2, l, RVs.mono' k h2⟩
  | .exn C ns xs, v, h => by
    simp only [RV] at h ⊢
    obtain ⟨p, c, d, vs, e, g, m, h1, l, hd, h2⟩ := h
    refine ⟨p, c, d, vs, e, (k _ _ g h1).1, m, (k _ _ g h1).2, l, ?_, RVs.mono' k h2⟩
    cases d with
    | none => exact hd
    | some x => exact k _ _ hd.1 hd.2
theorem RVs.mono' (k : Ks G H G' H') : ∀ {xs : List A} {vs : List V}, RVs T G H xs vs → RVs T G' H' xs vs
  | [], vs, h => h
  | x :: xs, vs, h => by
    simp only [RVs] at h ⊢
    obtain ⟨v, r, e, h1, h2⟩ := h
    exact ⟨v, r, e, RV.mono' k h1, RVs.mono' k h2⟩
end
theorem RV.mono {a : A} {v : V} (h : RV T G H a v) (k : Kp G H G' H') : RV T G' H' a v := RV.mono' k.ks h
theorem RVs.mono {a : List A} {v : List V} (h : RVs T G H a v) (k : Kp G H G' H') : RVs T G' H' a v := RVs.mono' k.ks h
end
section
variable (T : Tx)
def RK (G : GS) (H : Hp) (kvs : List (A × A)) (qs : List (Key × V)) : Prop := Paired (fun (p : A × A) (q : Key × V) => p.1 = keyA q.1 ∧ RV T G H p.2 q.2) kvs qs
def RKT (G : GS) (H : Hp) (kvs : List (A × A)) (qs : List (List Key × V)) : Prop := Paired (fun (p : A × A) (q : List Key × V) => p.1 = .tup (q.1.map keyA) ∧ RV T G H p.2 q.2) kvs qs
def RF (G : GS) (H : Hp) (fs : List (Str × A)) (gs : List (Str × V)) : Prop := Paired (fun (p : Str × A) (q : Str × V) => p.1 = q.1 ∧ RV T G H p.2 q.2) fs gs
/-- the object at a stands for o -/
def RO (G : GS) (H : Hp) (a : Addr) : O → Prop
  | .lst xs => ∃ vs, H a = some (.lst vs) ∧ RVs T G H xs vs
  | .dct kvs => (∃ qs, H a = some (.dK qs) ∧ RK T G H kvs qs) ∨ ∃ qs, H a = some (.dT qs) ∧ RKT T G H kvs qs
  | .ins C fs => ∃ c dx gs, T.cm C = some c ∧ H a = some (.ins c dx gs) ∧ RF T G H fs gs
structure RG (H : Hp) (G : GS) : Prop where
  ro : ∀ a o, G a = some o → RO T G H a o
  st : ∀ b, G.S b → H b ≠ none
end
section
variable {T : Tx} {H H' : Hp} {G G' : GS}
instance : CoeFun (RG T H G) fun _ => ∀ a o, G a = some o → RO T G H a o := ⟨RG.ro⟩
theorem RO.nimm {a : Addr} {o : O} (h : RO T G H a o) {u : HO} (i : imm u) : H a ≠ some u := by
  intro z
  cases o with
  | lst xs => obtain ⟨vs, e, _⟩ := h; rw [e] at z; cases z; exact i
  | dct kvs => rcases h with ⟨vs, e, _⟩ | ⟨vs, e, _⟩ <;> (rw [e] at z; cases z; exact i)
  | ins C fs => obtain ⟨_, _, _, _, e, _⟩ := h; rw [e] at z; cases z; exact i
theorem RO.there {a : Addr} {o : O} (h : RO T G H a o) : H a ≠ none := by
  intro z
  cases o with
  | lst xs => obtain ⟨vs, e, _⟩ := h; rw [e] at z; cases z
  | dct kvs => rcases h with ⟨vs, e, _⟩ | ⟨vs, e, _⟩ <;> (rw [e] at z; cases z)
  | ins C fs => obtain ⟨_, _, _, _, e, _⟩ := h; rw [e] at z; cases z
theorem RG.free (h : RG T H G) {p : Addr} (e : H p = none) : G p = none := by
  cases q : G p with
  | none => rfl
  | some o => exact absurd e (h p o q).there
theorem RK.mono (k : Ks G H G' H') {kvs : List (A × A)} {qs : List (Key × V)} (h : RK T G H kvs qs) : RK T G' H' kvs qs := Paired.mapP h fun _ _ z => ⟨z.1, RV.mono' k z.2⟩
theorem RKT.mono (k : Ks G H G' H') {kvs : List (A × A)} {qs : List (List Key × V)} (h : RKT T G H kvs qs) : RKT T G' H' kvs qs := Paired.mapP h fun _ _ z => ⟨z.1, RV.mono' k z.2⟩
theorem RF.mono (k : Ks G H G' H') {kvs : List (Str × A)} {qs : List (Str × V)} (h : RF T G H kvs qs) : RF T G' H' kvs qs := Paired.mapP h fun _ _ z => ⟨z.1, RV.mono' k z.2⟩
theorem RO.mono (k : Ks G H G' H') {a : Addr} {o : O} (e : H' a = H a) (h : RO T G H a o) : RO T G' H' a o := by
  cases o with
  | lst xs => obtain ⟨vs, q, r⟩ := h; exact ⟨vs, e.trans q, RVs.mono' k r⟩
  | dct kvs =>
    rcases h with ⟨vs, q, r⟩ | ⟨vs, q, r⟩
    · exact .inl ⟨vs, e.trans q, r.mono k⟩
    · exact .inr ⟨vs, e.trans q, r.mono k⟩
  | ins C fs => obtain ⟨c, dx, gs, m, q, r⟩ := h; exact ⟨c, dx, gs, m, e.trans q, r.mono k⟩
theorem Kp.new {p : Addr} {h : HO} {o : O} (e : H p = none) : Kp G H (G.up p o) (upd H p h) := by
  refine ⟨fun b u x y => ?_, fun _ h => h, fun _ h => .inl h⟩
  have hb : b ≠ p := fun z => by subst z; rw [e] at y; cases y
  exact ⟨(up_ne hb).trans x, (upd_ne hb).trans y⟩
theorem Kp.newT {p : Addr} {h : HO} (e : H p = none) : Kp G H (G.fx p) (upd H p h) := by
  refine ⟨fun b u x y => ?_, fun _ h => .inr h, fun b h => ?_⟩
  · have hb : b ≠ p := fun z => by subst z; rw [e] at y; cases y
    exact ⟨x, (upd_ne hb).trans y⟩
  · rcases h with rfl | h
    · exact .inr (.inr (.inl e))
    · exact .inl h
theorem Kp.wr {p : Addr} {h : HO} {o : O} (e : G p ≠ none) : Kp G H (G.up p o) (upd H p h) := by
  refine ⟨fun b u x y => ?_, fun _ h => h, fun _ h => .inl h⟩
  have hb : b ≠ p := fun z => by subst z; exact e x
  exact ⟨(up_ne hb).trans x, (upd_ne hb).trans y⟩
/-- from here on nobody changes what stands at p -/
theorem Kp.rm {p : Addr} (e : G p ≠ none) : Kp G H (G.rm p) H := by
  refine ⟨fun b u x y => ⟨?_, y⟩, fun _ h => .inr h, fun b h => ?_⟩
  · show Q.rm p G.G b = none
    by_cases h : b = p
    · subst h; exact rm_self
    · rw [rm_ne h]; exact x
  · rcases h with rfl | h
    · exact .inr (.inl e)
    · exact .inl h
theorem upd_there {p b : Addr} {h : HO} (e : H b ≠ none) : upd H p h b ≠ none := by
  by_cases hb : b = p
  · subst hb; rw [upd_same]; simp
  · rw [upd_ne hb]; exact e
theorem RG.rm (r : RG T H G) {p : Addr} (e : G p ≠ none) : RG T H (G.rm p) := by
  refine ⟨fun b u q => ?_, fun b h => ?_⟩
  · have q : Q.rm p G.G b = some u := q
    have h : b ≠ p := fun z => by subst z; rw [rm_self] at q; cases q
    rw [rm_ne h] at q
    exact (r b u q).mono (Kp.rm e).ks rfl
  · rcases h with rfl | h
    · cases q : G b with
      | none => exact absurd q e
      | some o => exact (r b o q).there
    · exact r.st b h
/-- an object laid or written at p -/
theorem RG.up (r : RG T H G) {p : Addr} {h : HO} {o : O} (k : Kp G H (G.up p o) (upd H p h)) (new : RO T (G.up p o) (upd H p h) p o) : RG T (upd H p h) (G.up p o) := by
  refine ⟨fun b u e => ?_, fun b h => upd_there (r.st b h)⟩
  have e : Q.up G.G p o b = some u := e
  by_cases hb : b = p
  · subst hb; rw [up_same] at e; cases e; exact new
  · rw [up_ne hb] at e
    exact (r b u e).mono k.ks (upd_ne hb)
/-- something that is no object of G's is laid -/
theorem RG.newT (r : RG T H G) {p : Addr} {h : HO} (e : H p = none) : RG T (upd H p h) (G.fx p) := by
  refine ⟨fun b u q => ?_, fun b h => ?_⟩
  · have q : G.G b = some u := q
    have hb : b ≠ p := fun z => by subst z; exact (r _ u q).there e
    exact (r b u q).mono (Kp.newT e).ks (upd_ne hb)
  · rcases h with rfl | h
    · rw [upd_same]; simp
    · exact upd_there (r.st b h)
theorem RG.new (r : RG T H G) {p : Addr} {h : HO} {o : O} (e : H p = none) (n : RO T (G.up p o) (upd H p h) p o) : RG T (upd H p h) (G.up p o) := r.up (Kp.new e) n
theorem RG.fxT (r : RG T H G) {p : Addr} (e : H p = none) : Fx (G.fx p) p := ⟨.inl rfl, r.free e⟩
end
/-- the frame's places -/
def RS (T : Tx) (G : GS) (H : Hp) (ς : En) (σ : L2.St) : Prop := ς.length = σ.length ∧ ∀ (i : Nat) (a : A), ς[i]? = some (some a) → ∃ v, σ[i]? = some (some v) ∧ RV T G H a v
section
variable {T : Tx} {H H' : Hp} {G G' : GS}
theorem RS.mono {ς : En} {σ : L2.St} (h : RS T G H ς σ) (k : Kp G H G' H') : RS T G' H' ς σ :=
  ⟨h.1, fun i a e => let ⟨v, e1, r⟩ := h.2 i a e; ⟨v, e1, r.mono k⟩⟩
theorem RS.set {ς : En} {σ : L2.St} (h : RS T G H ς σ) (i : Nat) {a : A} {v : V} (r : RV T G H a v) : RS T G H (ς.set i (some a)) (σ.set i (some v)) := by
  refine ⟨by simpa using h.1, fun j b e => ?_⟩
  by_cases hj : i = j
  · subst hj
    by_cases hl : i < ς.length
    · rw [List.getElem?_set_self hl] at e
      cases e
      exact ⟨v, List.getElem?_set_self (by rw [← h.1]; exact hl), r⟩
    · rw [List.getElem?_eq_none (by simpa using hl)] at e; cases e
  · rw [List.getElem?_set_ne hj] at e
    obtain ⟨w, e1, r1⟩ := h.2 j b e
    exact ⟨w, by rw [List.getElem?_set_ne hj]; exact e1, r1⟩
/-- a place is read otherwise -/
theorem RS.seen {ς : En} {σ : L2.St} (h : RS T G H ς σ) (i : Nat) {a b : A} (e : ς[i]? = some (some a)) (r : ∀ v, RV T G H a v → RV T G H b v) : RS T G H (ς.set i (some b)) σ := by
  obtain ⟨v, e1, r1⟩ := h.2 i a e
  have z := h.set i (r v r1)
  have e2 : σ.set i (some v) = σ := by
    apply List.ext_getElem?
    intro j
    by_cases hj : i = j
    · subst hj; rw [List.getElem?_set_self (List.getElem?_eq_some_iff.mp e1).1, e1]
    · rw [List.getElem?_set_ne hj]
  rwa [e2] at z
/-- an object that nobody changes from here on, as a tree -/
def frz : O → A
  | .lst xs => .fro xs
  | .dct kvs => .fdc (kvs.map (·.1)) (kvs.map (·.2))
  | .ins C fs => .fin C (fs.map (·.1)) (fs.map (·.2))
theorem rk_split {kvs : List (A × A)} {qs : List (Key × V)} (h : RK T G H kvs qs) : kvs.map (·.1) = qs.map (fun q => keyA q.1) ∧ RVs T G H (kvs.map (·.2)) (qs.map (·.2)) := by
  unfold RK at h
  induction h with
  | nil => exact ⟨rfl, .nil⟩
  | cons r _ ih => exact ⟨by simp only [List.map_cons, r.1, ih.1], .cons r.2 ih.2⟩
theorem rkt_split {kvs : List (A × A)} {qs : List (List Key × V)} (h : RKT T G H kvs qs) : kvs.map (·.1) = qs.map (fun q => A.tup (q.1.map keyA)) ∧ RVs T G H (kvs.map (·.2)) (qs.map (·.2)) := by
  unfold RKT at h
  induction h with
  | nil => exact ⟨rfl, .nil⟩
  | cons r _ ih => exact ⟨by simp only [List.map_cons, r.1, ih.1], .cons r.2 ih.2⟩
theorem rf_split {kvs : List (Str × A)} {qs : List (Str × V)} (h : RF T G H kvs qs) : kvs.map (·.1) = qs.map (·.1) ∧ RVs T G H (kvs.map (·.2)) (qs.map (·.2)) := by
  unfold RF at h
  induction h with
  | nil => exact ⟨rfl, .nil⟩
  | cons r _ ih => exact ⟨by simp only [List.map_cons, r.1, ih.1], .cons r.2 ih.2⟩
theorem zip_maps {α β : Type} : ∀ l : List (α × β), (l.map (·.1)).zip (l.map (·.2)) = l
  | [] => rfl
  | x :: l => by simp [zip_maps l]
theorem rv_frz {p : Addr} {o : O} (g : Fx G p) (h : RO T G H p o) : RV T G H (frz o) (.ref p) := by
  cases o with
  | lst xs => obtain ⟨vs, e, r⟩ := h; simp only [frz, RV]; exact ⟨p, vs, rfl, g, e, r⟩
  | dct kvs =>
    simp only [frz, RV]
    rcases h with ⟨qs, e, r⟩ | ⟨qs, e, r⟩
    · obtain ⟨a, b⟩ := rk_split r
      exact ⟨p, _, rfl, g, b, .inl ⟨qs, e, a, rfl⟩⟩
    · obtain ⟨a, b⟩ := rkt_split r
      exact ⟨p, _, rfl, g, b, .inr ⟨qs, e, a, rfl⟩⟩
  | ins C fs =>
    obtain ⟨c, dx, gs, m, e, r⟩ := h
    obtain ⟨a, b⟩ := rf_split r
    simp only [frz, RV]
    refine ⟨p, c, dx, gs.map (·.2), rfl, g, m, ?_, by simp, b⟩
    rw [a, zip_maps]; exact e
/-- freezing: the value and the heap -/
theorem RG.frz (r : RG T H G) {p : Addr} {o : O} (e : G p = some o) : RV T (G.rm p) H (Q.frz o) (.ref p) := rv_frz ⟨.inl rfl, rm_self⟩ ((r p o e).mono (Kp.rm (by rw [e]; simp)).ks rfl)
end
end Q
/-! Q2: lifted readings; expressions. -/
namespace Q
open PySem PySem.Spec PyProof.Rows L2
/-- an exception that leaves: its class, its fields -/
def RX (T : Tx) (G : GS) (H : Hp) (e : Ex) (c : Value) (d : Option Addr) : Prop := ∃ a, T.cm e.cls = some a ∧ c = .ref a ∧ e.ns.length = e.vs.length ∧ match d with
  | none => e.ns = []
  | some x => Fx G x ∧ ∃ ws, H x = some (.xd (e.ns.zip ws)) ∧ RVs T G H e.vs ws
theorem RX.mono {T : Tx} {G G' : GS} {H H' : Hp} {e : Ex} {c : Value} {d : Option Addr} (h : RX T G H e c d) (k : Kp G H G' H') : RX T G' H' e c d := by
  obtain ⟨a, m, e1, l, h⟩ := h
  refine ⟨a, m, e1, l, ?_⟩
  cases d with
  | none => exact h
  | some x =>
    obtain ⟨g, ws, h1, h2⟩ := h
    exact ⟨(k.ks _ _ g h1).1, ws, (k.ks _ _ g h1).2, h2.mono k⟩
def LQ (T : Tx) (G : GS) (H : Hp) (Qa : KA) (Q : VK) : Prop := ∀ a (G' : GS) v H', Qa a G' → RV T G' H' a v → RG T H' G' → Kp G H G' H' → Q v H'
def LX (T : Tx) (G : GS) (H : Hp) (Xa : KX) (W : XK) : Prop := ∀ e (G' : GS) c d H', Xa e G' → RX T G' H' e c d → RG T H' G' → Kp G H G' H' → W c d H'
theorem LQ.step {T : Tx} {G G1 : GS} {H H1 : Hp} {Qa : KA} {Q : VK} (q : LQ T G H Qa Q) (k : Kp G H G1 H1) : LQ T G1 H1 Qa Q := fun a G' v H' h rv rg k' => q a G' v H' h rv rg (k.trans k')
theorem LX.step {T : Tx} {G G1 : GS} {H H1 : Hp} {Xa : KX} {W : XK} (q : LX T G H Xa W) (k : Kp G H G1 H1) : LX T G1 H1 Xa W := fun e G' c d H' h rv rg k' => q e G' c d H' h rv rg (k.trans k')
/-- an expression's reading, lifted -/
def lE (T : Tx) (W : L2.WX) (t : EA) : TE := fun σ H Q => ∃ ς, ∃ G : GS, ∃ Qa Xa, RS T G H ς σ ∧ RG T H G ∧ t ς G Qa Xa ∧ LQ T G H Qa Q ∧ LX T G H Xa (WE W σ)
def lB (T : Tx) (W : L2.WX) (t : BA) : TT := fun σ H Q => ∃ ς, ∃ G : GS, ∃ Qa Xa, RS T G H ς σ ∧ RG T H G ∧ t ς G Qa Xa ∧ (∀ b (G' : GS) H', Qa b G' → RG T H' G' → Kp G H G' H' → Q b H') ∧ LX T G H Xa (WE W σ)
def lL (T : Tx) (W : L2.WX) (t : LA) : TA := fun σ H Q => ∃ ς, ∃ G : GS, ∃ Qa Xa, RS T G H ς σ ∧ RG T H G ∧ t ς G Qa Xa ∧ (∀ as (G' : GS) vs H', Qa as G' → RVs T G' H' as vs → RG T H' G' → Kp G H G' H' → Q vs H') ∧ LX T G H Xa (WE W σ)
/-- operations of values -/
abbrev P1 := A → Gp → KA → Prop
abbrev P2 := A → A → Gp → KA → Prop
abbrev PN := List A → Gp → KA → Prop
def l2 (T : Tx) (f : P2) : R2 := fun x y H Q => ∃ a b, ∃ G : GS, ∃ Qa, RV T G H a x ∧ RV T G H b y ∧ RG T H G ∧ f a b G Qa ∧ LQ T G H Qa Q
def lN (T : Tx) (f : PN) : List V → Hp → VK → Prop := fun xs H Q => ∃ as, ∃ G : GS, ∃ Qa, RVs T G H as xs ∧ RG T H G ∧ f as G Qa ∧ LQ T G H Qa Q
def lM (T : Tx) (f : A → PN) : V → List V → Hp → VK → Prop := fun x xs H Q => ∃ a as, ∃ G : GS, ∃ Qa, RV T G H a x ∧ RVs T G H as xs ∧ RG T H G ∧ f a as G Qa ∧ LQ T G H Qa Q
theorem PE.imp {X : Cx} {e : Expr} {t t' : TE} (p : PE X e t) (h : ∀ σ H Q, t' σ H Q → t σ H Q) : PE X e t' := ⟨fun pins s σ H Q I q => p.run pins s σ H Q I (h σ H Q q)⟩
theorem PT.imp {X : Cx} {e : Expr} {t t' : TT} (p : PT X e t) (h : ∀ σ H Q, t' σ H Q → t σ H Q) : PT X e t' := ⟨fun pins s σ H Q I q => p.run pins s σ H Q I (h σ H Q q)⟩
theorem PA.imp {X : Cx} {e : List Expr} {t t' : TA} (p : PA X e t) (h : ∀ σ H Q, t' σ H Q → t σ H Q) : PA X e t' := ⟨fun pos pins s σ H Q I q => p.run pos pins s σ H Q I (h σ H Q q)⟩
theorem PS.imp {X : Cx} {e : Stmt} {t t' : TS} (p : PS X e t) (h : ∀ D σ H, t' D σ H → t D σ H) : PS X e t' := ⟨fun pins s σ H D I q => p.run pins s σ H D I (h D σ H q)⟩
theorem PSs.imp {X : Cx} {e : List Stmt} {t t' : TS} (p : PSs X e t) (h : ∀ D σ H, t' D σ H → t D σ H) : PSs X e t' := ⟨fun pins s σ H D I q => p.run pins s σ H D I (h D σ H q)⟩

/-! ### combinators -/
def eVar (i : Nat) : EA := fun ς G Q _ => match ς[i]? with
  | some (some a) => Q a G
  | _ => False
def eC (a : A) : EA := fun _ G Q _ => Q a G
def eBin (f : P2) (ta tb : EA) : EA := fun ς G Q X => ta ς G (fun x G1 => tb ς G1 (fun y G2 => f x y G2 Q) X) X
def eChain (f g : P2) (ta tb tc : EA) : EA := fun ς G Q X => ta ς G (fun x G1 => tb ς G1 (fun y G2 => f x y G2 fun z G3 => match z with
  | .bl true => tc ς G3 (fun w G4 => g y w G4 Q) X
  | .bl false => Q (.bl false) G3
  | _ => False) X) X
def eNeg (ta : EA) : EA := fun ς G Q X => ta ς G (fun x G1 => match x with
  | .int i => Q (.int (-i)) G1
  | _ => False) X
/-- a value's truth -/
def truA : A → Gp → (Bool → Gp → Prop) → Prop
  | .non, G, Q => Q false G
  | .bl b, G, Q => Q b G
  | .int i, G, Q => Q (i != 0) G
  | .str x, G, Q => x.length ≤ sizeLine ∧ Q (x.length != 0) G
  | .tup xs, G, Q => Q (!xs.isEmpty) G
  | .scr _, _, _ => False
  | .fro xs, G, Q => Q (!xs.isEmpty) G
  | .fdc _ _, _, _ => False
  | .fin _ _ _, _, _ => False
  | .exn _ _ _, _, _ => False
  | .ref a, G, Q => match G a with
    | some (.lst xs) => Q (!xs.isEmpty) G
    | _ => False
def eNot (ta : EA) : EA := fun ς G Q X => ta ς G (fun x G1 => truA x G1 fun b G2 => Q (.bl (!b)) G2) X
def eAnd (ta tb : EA) : EA := fun ς G Q X => ta ς G (fun x G1 => truA x G1 fun b G2 => if b = true then tb ς G2 Q X else Q x G2) X
def eOr (ta tb : EA) : EA := fun ς G Q X => ta ς G (fun x G1 => truA x G1 fun b G2 => if b = true then Q x G2 else tb ς G2 Q X) X
def eIf (t : BA) (ta tb : EA) : EA := fun ς G Q X => t ς G (fun b G1 => if b = true then ta ς G1 Q X else tb ς G1 Q X) X
def lNil : LA := fun _ G Q _ => Q [] G
def lCons (t : EA) (u : LA) : LA := fun ς G Q X => t ς G (fun a G1 => u ς G1 (fun as G2 => Q (a :: as) G2) X) X
def eTup (t : LA) : EA := fun ς G Q X => t ς G (fun as G1 => as.length ≤ sizeLine ∧ Q (.tup as) G1) X
/-- a new object: m: it may change later; else nobody changes it -/
def new (m : Bool) (o : O) (G : Gp) (Q : KA) : Prop := match m with
  | true => ∀ p, G p = none → Q (.ref p) (up G p o)
  | false => Q (frz o) G
def eLst (m : Bool) (t : LA) : EA := fun ς G Q X => t ς G (fun as G1 => as.length ≤ sizeLine ∧ new m (.lst as) G1 Q) X
def eDct0 (m : Bool) : EA := fun _ G Q _ => new m (.dct []) G Q
def eBi (f : PN) (t : LA) : EA := fun ς G Q X => t ς G (fun as G1 => f as G1 Q) X
def eMt (f : A → PN) (to : EA) (t : LA) : EA := fun ς G Q X => to ς G (fun x G1 => t ς G1 (fun as G2 => f x as G2 Q) X) X
abbrev Cal := String → List A → Gp → KA → KX → Prop
def eCall (c : Cal) (f : String) (t : LA) : EA := fun ς G Q X => t ς G (fun as G1 => c f as G1 Q X) X
/-! tests -/
def bV (t : EA) : BA := fun ς G Q X => t ς G (fun x G1 => truA x G1 Q) X
def bNot (t : BA) : BA := fun ς G Q X => t ς G (fun b G1 => Q (!b) G1) X
def bAnd (t u : BA) : BA := fun ς G Q X => t ς G (fun b G1 => if b = true then u ς G1 Q X else Q false G1) X
def bOr (t u : BA) : BA := fun ς G Q X => t ς G (fun b G1 => if b = true then Q true G1 else u ς G1 Q X) X
def bB (t : EA) : BA := fun ς G Q X => t ς G (fun x G1 => match x with
  | .bl b => Q b G1
  | _ => False) X

/-! ### their rules -/
section
variable {X : Cx} {T : Tx} {W : L2.WX} {a b e : Expr} {es : List Expr} {ta tb tc : EA} {t u : LA} {pos : Pos}
theorem p_var {i : Nat} {x : Str} (hN : X.N[i]? = some x) (hv : Vis X.env.scope x) (hd : (x == ("__debug__" : Str)) = false) (hcd : (x == ("__classdict__" : Str)) = false) : PE X (.Name x pos) (lE T W (eVar i)) := by
  refine PE.imp (pe_var hN hv hd hcd) fun σ H Q ⟨ς, G, Qa, Xa, rs, rg, h, q, _⟩ => ?_
  unfold eVar at h
  split at h
  · rename_i a e
    obtain ⟨v, e1, r⟩ := rs.2 i a e
    exact ⟨v, e1, q _ _ _ _ h r rg Kp.refl⟩
  · exact h.elim
theorem p_const {e : Expr} {a : A} {v : V} (h : PE X e (tC v)) (r : ∀ G H, RV T G H a v) : PE X e (lE T W (eC a)) :=
  PE.imp h fun σ H Q ⟨ς, G, Qa, Xa, rs, rg, h, q, _⟩ => q _ _ _ _ h (r G H) rg Kp.refl
theorem p_bin {op : Operator} {f : P2} (ho : OpR X (binaryOp op) (l2 T f)) (ha : PE X a (lE T W ta)) (hb : PE X b (lE T W tb)) : PE X (.BinOp a op b pos) (lE T W (eBin f ta tb)) := by
  refine PE.imp (pe_op ho ha hb) fun σ H Q ⟨ς, G, Qa, Xa, rs, rg, h, q, hx⟩ => ⟨ς, G, _, Xa, rs, rg, h, fun x G1 v H1 h1 rv rg1 k1 => ?_, hx⟩
  exact ⟨ς, G1, _, Xa, rs.mono k1, rg1, h1, fun y G2 w H2 h2 rw rg2 k2 => ⟨x, y, G2, Qa, rv.mono k2, rw, rg2, h2, q.step (k1.trans k2)⟩, hx.step k1⟩
theorem p_cmp {op : CmpOp} {f : P2} (ho : OpR X (compareOp op) (l2 T f)) (ha : PE X a (lE T W ta)) (hb : PE X b (lE T W tb)) (hm : behindInMarks op b = false) : PE X (.Compare a [op] [b] pos) (lE T W (eBin f ta tb)) := by
  refine PE.imp (pe_cmpR ho ha hb hm) fun σ H Q ⟨ς, G, Qa, Xa, rs, rg, h, q, hx⟩ => ⟨ς, G, _, Xa, rs, rg, h, fun x G1 v H1 h1 rv rg1 k1 => ?_, hx⟩
  exact ⟨ς, G1, _, Xa, rs.mono k1, rg1, h1, fun y G2 w H2 h2 rw rg2 k2 => ⟨x, y, G2, Qa, rv.mono k2, rw, rg2, h2, q.step (k1.trans k2)⟩, hx.step k1⟩
theorem RV.bl {T : Tx} {G : GS} {H : Hp} {a : A} {b : Bool} (h : RV T G H a (.bl b)) : a = .bl b := by
  cases a <;> simp only [RV] at h
  all_goals first | (cases h; rfl) | (exfalso; obtain ⟨_, _, z, _⟩ := h; cases z; done) | (exfalso; obtain ⟨_, _, _, _, z, _⟩ := h; cases z; done) | cases h
theorem q_cmp {op : CmpOp} {f : P2} (ho : OpR X (compareOp op) (l2 T f)) (ha : PE X a (lE T W ta)) (hb : PE X b (lE T W tb)) (hm : behindInMarks op b = false) : PT X (.Compare a [op] [b] pos) (lB T W (bB (eBin f ta tb))) := by
  refine PT.imp (pt_cmpR ho ha hb hm) fun σ H Q ⟨ς, G, Qa, Xa, rs, rg, h, q, hx⟩ => ⟨ς, G, _, Xa, rs, rg, h, fun x G1 v H1 h1 rv rg1 k1 => ?_, hx⟩
  refine ⟨ς, G1, _, Xa, rs.mono k1, rg1, h1, fun y G2 w H2 h2 rw rg2 k2 => ⟨x, y, G2, _, rv.mono k2, rw, rg2, h2, fun z G3 v3 H3 h3 r3 rg3 k3 => ?_⟩, hx.step k1⟩
  cases z with
  | bl bz => ?_
  | _ => exact False.elim h3
  simp only [RV] at r3
  exact ⟨_, r3, q _ _ _ h3 rg3 ((k1.trans k2).trans k3)⟩
theorem p_chain {op op' : CmpOp} {f g : P2} {c : Expr} (ho : OpR X (compareOp op) (l2 T f)) (ho' : OpR X (compareOp op') (l2 T g)) (ha : PE X a (lE T W ta)) (hb : PE X b (lE T W tb)) (hc : PE X c (lE T W tc))
    (hm : lastMarks [op, op'] [b, c] = false) : PE X (.Compare a [op, op'] [b, c] pos) (lE T W (eChain f g ta tb tc)) := by
  refine PE.imp (pe_chain ho ho' ha hb hc hm) fun σ H Q ⟨ς, G, Qa, Xa, rs, rg, h, q, hx⟩ => ⟨ς, G, _, Xa, rs, rg, h, fun x G1 v H1 h1 rv rg1 k1 => ?_, hx⟩
  refine ⟨ς, G1, _, Xa, rs.mono k1, rg1, h1, fun y G2 w H2 h2 rw rg2 k2 => ⟨x, y, G2, _, rv.mono k2, rw, rg2, h2, fun z G3 v3 H3 h3 r3 rg3 k3 => ?_⟩, hx.step k1⟩
  have k23 := k2.trans k3
  have k13 := k1.trans k23
  cases z with
  | bl bz => ?_
  | _ => exact False.elim h3
  simp only [RV] at r3
  subst r3
  refine ⟨bz, rfl, ?_⟩
  cases bz
  · exact q _ _ _ _ h3 (by simp only [RV]) rg3 k13
  · exact ⟨ς, G3, _, Xa, rs.mono k13, rg3, h3, fun w' G4 v4 H4 h4 r4 rg4 k4 => ⟨y, w', G4, Qa, rw.mono (k3.trans k4), r4, rg4, h4, q.step (k13.trans k4)⟩, hx.step k13⟩
theorem q_chain {op op' : CmpOp} {f g : P2} {c : Expr} (ho : OpR X (compareOp op) (l2 T f)) (ho' : OpR X (compareOp op') (l2 T g)) (ha : PE X a (lE T W ta)) (hb : PE X b (lE T W tb)) (hc : PE X c (lE T W tc))
    (hm : lastMarks [op, op'] [b, c] = false) : PT X (.Compare a [op, op'] [b, c] pos) (lB T W (bB (eChain f g ta tb tc))) := by
  refine PT.imp (pt_chain ho ho' ha hb hc hm) fun σ H Q ⟨ς, G, Qa, Xa, rs, rg, h, q, hx⟩ => ⟨ς, G, _, Xa, rs, rg, h, fun x G1 v H1 h1 rv rg1 k1 => ?_, hx⟩
  refine ⟨ς, G1, _, Xa, rs.mono k1, rg1, h1, fun y G2 w H2 h2 rw rg2 k2 => ⟨x, y, G2, _, rv.mono k2, rw, rg2, h2, fun z G3 v3 H3 h3 r3 rg3 k3 => ?_⟩, hx.step k1⟩
  have k23 := k2.trans k3
  have k13 := k1.trans k23
  cases z with
  | bl bz => ?_
  | _ => exact False.elim h3
  simp only [RV] at r3
  subst r3
  refine ⟨bz, rfl, ?_⟩
  cases bz
  · exact ⟨false, rfl, q _ _ _ h3 rg3 k13⟩
  · refine ⟨ς, G3, _, Xa, rs.mono k13, rg3, h3, fun w' G4 v4 H4 h4 r4 rg4 k4 => ⟨y, w', G4, _, rw.mono (k3.trans k4), r4, rg4, h4, fun z' G5 v5 H5 h5 r5 rg5 k5 => ?_⟩, hx.step k13⟩
    cases z' with
    | bl b5 => ?_
    | _ => exact False.elim h5
    simp only [RV] at r5
    exact ⟨b5, r5, q _ _ _ h5 rg5 ((k13.trans k4).trans k5)⟩
end
end Q
/-! Q3: truth, lists, calls. -/
namespace Q
open PySem PySem.Spec PyProof.Rows L2
section
variable {X : Cx} {T : Tx} {W : L2.WX} {a b e : Expr} {es rest : List Expr} {ta tb tc : EA} {t u : LA} {pos : Pos}
theorem tru_rep {G : GS} {H : Hp} {x : A} {v : V} {Q : Bool → Gp → Prop} (rg : RG T H G) (r : RV T G H x v) (h : truA x G Q) : ∃ k, TruV T.K v H k ∧ Q k G := by
  cases x with
  | non => simp only [RV] at r; subst r; exact ⟨false, rfl, h⟩
  | bl c => simp only [RV] at r; subst r; exact ⟨c, rfl, h⟩
  | int i => simp only [RV] at r; subst r; exact ⟨_, rfl, h⟩
  | str y =>
    simp only [RV] at r; subst r
    refine ⟨_, ⟨h.1, rfl⟩, ?_⟩
    have e : ((y.length : Int) != 0) = (y.length != 0) := by
      cases hy : y.length with
      | zero => rfl
      | succ n => rfl
    rw [e]; exact h.2
  | tup xs =>
    simp only [RV] at r
    obtain ⟨p, vs, rfl, s, rv⟩ := r
    refine ⟨_, .inr (.inl ⟨vs, s.sq, rfl⟩), ?_⟩
    have hl := rv.len
    have e : (!vs.isEmpty) = !xs.isEmpty := by cases vs <;> cases xs <;> simp_all
    rw [e]; exact h
  | fro xs =>
    simp only [RV] at r
    obtain ⟨p, vs, rfl, _, s, rv⟩ := r
    refine ⟨_, .inl ⟨vs, .of s, rfl⟩, ?_⟩
    have hl := rv.len
    have e : (!vs.isEmpty) = !xs.isEmpty := by cases vs <;> cases xs <;> simp_all
    rw [e]; exact h
  | scr _ => exact h.elim
  | fdc _ _ => exact h.elim
  | fin _ _ _ => exact h.elim
  | exn _ _ _ => exact h.elim
  | ref p =>
    simp only [RV] at r; subst r
    simp only [truA] at h
    cases hg : G p with
    | none => rw [hg] at h; exact h.elim
    | some o =>
      rw [hg] at h
      have ro := rg p o hg
      cases o with
      | lst xs =>
        obtain ⟨vs, e1, rv⟩ := ro
        have hl := rv.len
        have e : (!vs.isEmpty) = !xs.isEmpty := by cases vs <;> cases xs <;> simp_all
        exact ⟨_, .inl ⟨vs, .of e1, rfl⟩, by rw [e]; exact h⟩
      | dct _ => exact h.elim
      | ins _ _ => exact h.elim
theorem p_neg (ha : PE X a (lE T W ta)) : PE X (.UnaryOp .USub a pos) (lE T W (eNeg ta)) := by
  refine PE.imp (pe_un un_neg ha) fun σ H Q ⟨ς, G, Qa, Xa, rs, rg, h, q, hx⟩ => ⟨ς, G, _, Xa, rs, rg, h, fun x G1 v H1 h1 rv rg1 k1 => ?_, hx⟩
  cases x with
  | int i => ?_
  | _ => exact False.elim h1
  simp only [RV] at rv
  exact ⟨i, rv, q _ _ _ _ h1 (by simp only [RV]) rg1 k1⟩
theorem p_not (hT : T.K = X.K) (ha : PE X a (lE T W ta)) : PE X (.UnaryOp .Not a pos) (lE T W (eNot ta)) := by
  refine PE.imp (pe_notT ha) fun σ H Q ⟨ς, G, Qa, Xa, rs, rg, h, q, hx⟩ => ⟨ς, G, _, Xa, rs, rg, h, fun x G1 v H1 h1 rv rg1 k1 => ?_, hx⟩
  obtain ⟨k, tv, h2⟩ := tru_rep rg1 rv h1
  exact ⟨k, hT ▸ tv, q _ _ _ _ h2 (by simp only [RV]) rg1 k1⟩
theorem p_one {op : BoolOp} {t : TE} (h : PE X a t) : PE X (.BoolOp op [a] pos) t := pe_one h
theorem p_and (hT : T.K = X.K) (ha : PE X a (lE T W ta)) (hb : PE X (.BoolOp .And (b :: rest) pos) (lE T W tb)) : PE X (.BoolOp .And (a :: b :: rest) pos) (lE T W (eAnd ta tb)) := by
  refine PE.imp (pe_andT ha hb) fun σ H Q ⟨ς, G, Qa, Xa, rs, rg, h, q, hx⟩ => ⟨ς, G, _, Xa, rs, rg, h, fun x G1 v H1 h1 rv rg1 k1 => ?_, hx⟩
  obtain ⟨k, tv, h2⟩ := tru_rep rg1 rv h1
  refine ⟨k, hT ▸ tv, ?_⟩
  cases k
  · rw [if_neg Bool.false_ne_true] at h2 ⊢
    exact q _ _ _ _ h2 rv rg1 k1
  · rw [if_pos rfl] at h2 ⊢
    exact ⟨ς, G1, Qa, Xa, rs.mono k1, rg1, h2, q.step k1, hx.step k1⟩
theorem p_or (hT : T.K = X.K) (ha : PE X a (lE T W ta)) (hb : PE X (.BoolOp .Or (b :: rest) pos) (lE T W tb)) : PE X (.BoolOp .Or (a :: b :: rest) pos) (lE T W (eOr ta tb)) := by
  refine PE.imp (pe_orT ha hb) fun σ H Q ⟨ς, G, Qa, Xa, rs, rg, h, q, hx⟩ => ⟨ς, G, _, Xa, rs, rg, h, fun x G1 v H1 h1 rv rg1 k1 => ?_, hx⟩
  obtain ⟨k, tv, h2⟩ := tru_rep rg1 rv h1
  refine ⟨k, hT ▸ tv, ?_⟩
  cases k
  · rw [if_neg Bool.false_ne_true] at h2 ⊢
    exact ⟨ς, G1, Qa, Xa, rs.mono k1, rg1, h2, q.step k1, hx.step k1⟩
  · rw [if_pos rfl] at h2 ⊢
    exact q _ _ _ _ h2 rv rg1 k1
theorem p_if {c : Expr} {tt : BA} (hc : PT X c (lB T W tt)) (ha : PE X a (lE T W ta)) (hb : PE X b (lE T W tb)) : PE X (.IfExp c a b pos) (lE T W (eIf tt ta tb)) := by
  refine PE.imp (pe_ifExp hc ha hb) fun σ H Q ⟨ς, G, Qa, Xa, rs, rg, h, q, hx⟩ => ⟨ς, G, _, Xa, rs, rg, h, fun k G1 H1 h1 rg1 k1 => ?_, hx⟩
  cases k
  · rw [if_neg Bool.false_ne_true] at h1 ⊢
    exact ⟨ς, G1, Qa, Xa, rs.mono k1, rg1, h1, q.step k1, hx.step k1⟩
  · rw [if_pos rfl] at h1 ⊢
    exact ⟨ς, G1, Qa, Xa, rs.mono k1, rg1, h1, q.step k1, hx.step k1⟩
/-! tests -/
theorem q_val (hT : T.K = X.K) (ha : PE X a (lE T W ta)) (he : ∀ whole, isTrue a X.env whole = (do let v ← whole; standAt a.pos; holding [v] (truthy v))) : PT X a (lB T W (bV ta)) := by
  refine PT.imp (pt_truth ha he) fun σ H Q ⟨ς, G, Qa, Xa, rs, rg, h, q, hx⟩ => ⟨ς, G, _, Xa, rs, rg, h, fun x G1 v H1 h1 rv rg1 k1 => ?_, hx⟩
  obtain ⟨k, tv, h2⟩ := tru_rep rg1 rv h1
  exact ⟨k, hT ▸ tv, q _ _ _ h2 rg1 k1⟩
theorem q_not {tt : BA} (ha : PT X a (lB T W tt)) : PT X (.UnaryOp .Not a pos) (lB T W (bNot tt)) :=
  PT.imp (pt_not ha) fun σ H Q ⟨ς, G, Qa, Xa, rs, rg, h, q, hx⟩ => ⟨ς, G, _, Xa, rs, rg, h, fun k G1 H1 h1 rg1 k1 => q _ _ _ h1 rg1 k1, hx⟩
theorem PW.imp {X : Cx} {e : Expr} {t t' : TT} (p : PW X e t) (h : ∀ σ H Q, t' σ H Q → t σ H Q) : PW X e t' := ⟨fun wh pins s σ H Q I q => p.run wh pins s σ H Q I (h σ H Q q)⟩
theorem q_and1 {tt : BA} (ha : PT X a (lB T W tt)) : PW X (.BoolOp .And [a] pos) (lB T W tt) := pw_and1 ha
theorem q_or1 {tt : BA} (ha : PT X a (lB T W tt)) : PW X (.BoolOp .Or [a] pos) (lB T W tt) := pw_or1 ha
theorem q_and {tt uu : BA} (ha : PT X a (lB T W tt)) (hb : PW X (.BoolOp .And (b :: rest) pos) (lB T W uu)) : PW X (.BoolOp .And (a :: b :: rest) pos) (lB T W (bAnd tt uu)) := by
  refine PW.imp (pw_and ha hb) fun σ H Q ⟨ς, G, Qa, Xa, rs, rg, h, q, hx⟩ => ⟨ς, G, _, Xa, rs, rg, h, fun k G1 H1 h1 rg1 k1 => ?_, hx⟩
  cases k
  · rw [if_neg Bool.false_ne_true] at h1 ⊢
    exact q _ _ _ h1 rg1 k1
  · rw [if_pos rfl] at h1 ⊢
    exact ⟨ς, G1, Qa, Xa, rs.mono k1, rg1, h1, fun b' G' H' z rg' k' => q b' G' H' z rg' (k1.trans k'), hx.step k1⟩
theorem q_or {tt uu : BA} (ha : PT X a (lB T W tt)) (hb : PW X (.BoolOp .Or (b :: rest) pos) (lB T W uu)) : PW X (.BoolOp .Or (a :: b :: rest) pos) (lB T W (bOr tt uu)) := by
  refine PW.imp (pw_or ha hb) fun σ H Q ⟨ς, G, Qa, Xa, rs, rg, h, q, hx⟩ => ⟨ς, G, _, Xa, rs, rg, h, fun k G1 H1 h1 rg1 k1 => ?_, hx⟩
  cases k
  · rw [if_neg Bool.false_ne_true] at h1 ⊢
    exact ⟨ς, G1, Qa, Xa, rs.mono k1, rg1, h1, fun b' G' H' z rg' k' => q b' G' H' z rg' (k1.trans k'), hx.step k1⟩
  · rw [if_pos rfl] at h1 ⊢
    exact q _ _ _ h1 rg1 k1
/-! lists of expressions -/
theorem l_nil : PA X [] (lL T W lNil) := PA.imp pa_nil fun σ H Q ⟨ς, G, Qa, Xa, rs, rg, h, q, hx⟩ => q _ _ _ _ h rfl rg Kp.refl
theorem l_cons (ha : PE X e (lE T W ta)) (hr : PA X es (lL T W t)) (hs : starEach (e :: es) X.env = (false, eval e X.env) :: starEach es X.env) : PA X (e :: es) (lL T W (lCons ta t)) := by
  refine PA.imp (pa_cons ha hr hs) fun σ H Q ⟨ς, G, Qa, Xa, rs, rg, h, q, hx⟩ => ⟨ς, G, _, Xa, rs, rg, h, fun x G1 v H1 h1 rv rg1 k1 => ?_, hx⟩
  exact ⟨ς, G1, _, Xa, rs.mono k1, rg1, h1, fun as G2 vs H2 h2 rw rg2 k2 => q _ _ _ _ h2 (.cons (rv.mono k2) rw) rg2 (k1.trans k2), hx.step k1⟩
theorem p_tup {x1 : Nat} (h : PA X es (lL T W t)) : PE X (.Tuple es x1 pos) (lE T W (eTup t)) := by
  refine PE.imp (pe_tup h) fun σ H Q ⟨ς, G, Qa, Xa, rs, rg, h, q, hx⟩ => ⟨ς, G, _, Xa, rs, rg, h, fun as G1 vs H1 h1 rv rg1 k1 => ?_, hx⟩
  refine ⟨by rw [rv.len]; exact h1.1, fun p hp => ?_⟩
  exact q _ (G1.fx p) _ _ h1.2 (by simp only [RV]; exact ⟨p, vs, rfl, .inl ⟨rg1.fxT hp, upd_same⟩, rv.mono (Kp.newT hp)⟩) (rg1.newT hp) (k1.trans (Kp.newT hp))
theorem new_obj {m : Bool} {p : Addr} {T : Tx} {G1 : GS} {H1 : Hp} {o : O} {h : HO} {Qa : KA} {Q : VK} (rg1 : RG T H1 G1) (n : ∀ G' : GS, Kp G1 H1 G' (upd H1 p h) → RO T G' (upd H1 p h) p o) (hn : new m o G1 Qa) (q : LQ T G1 H1 Qa Q) (hp : H1 p = none) : Q (.ref p) (upd H1 p h) := by
  cases m with
  | true => exact q _ (G1.up p o) _ _ (hn p (rg1.free hp)) (by simp only [RV]) (rg1.new hp (n _ (Kp.new hp))) (Kp.new hp)
  | false => exact q _ (G1.fx p) _ _ hn (rv_frz (rg1.fxT hp) (n _ (Kp.newT hp))) (rg1.newT hp) (Kp.newT hp)
theorem new_lst {m : Bool} {T : Tx} {G1 : GS} {H1 : Hp} {as : List A} {vs : List V} {Qa : KA} {Q : VK} (rg1 : RG T H1 G1) (rv : RVs T G1 H1 as vs) (h : new m (.lst as) G1 Qa) (q : LQ T G1 H1 Qa Q) {p : Addr} (hp : H1 p = none) : Q (.ref p) (upd H1 p (.lst vs)) :=
  new_obj (o := .lst as) rg1 (fun G' k => ⟨vs, upd_same, rv.mono k⟩) h q hp
theorem p_lst {m : Bool} (h : PA X es (lL T W t)) : PE X (.List es pos) (lE T W (eLst m t)) := by
  refine PE.imp (pe_lst h) fun σ H Q ⟨ς, G, Qa, Xa, rs, rg, h, q, hx⟩ => ⟨ς, G, _, Xa, rs, rg, h, fun as G1 vs H1 h1 rv rg1 k1 => ?_, hx⟩
  exact ⟨by rw [rv.len]; exact h1.1, fun p hp => new_lst rg1 rv h1.2 (q.step k1) hp⟩
theorem p_dct0 {m : Bool} : PE X (.Dict [] [] pos) (lE T W (eDct0 m)) := by
  refine PE.imp pe_dnewK fun σ H Q ⟨ς, G, Qa, Xa, rs, rg, h, q, hx⟩ => fun p hp => ?_
  exact new_obj (o := .dct []) rg (fun G' k => .inl ⟨[], upd_same, .nil⟩) h q hp
theorem p_bi {f : PN} {x : Str} {p : Pos} {id : String} (hc : CallR X (.builtin id) (lN T f)) (hg : Gl X x) (hm : X.mg x = none) (hv : bootBuiltins x = some (.builtin id)) (ha : PA X (e :: es) (lL T W t)) (hn : x ≠ "__name__") (hdb : (x == ("__debug__" : Str)) = false)
    (he : starEach (e :: es) X.env = (false, eval e X.env) :: starEach es X.env) (hpl : (backTo pos (starEach es X.env)).any (·.1) = false) : PE X (.Call (.Name x p) (e :: es) [] pos) (lE T W (eBi f t)) := by
  refine PE.imp (pe_callB hc hg hm hv ha hn hdb he hpl) fun σ H Q ⟨ς, G, Qa, Xa, rs, rg, h, q, hx⟩ => ⟨ς, G, _, Xa, rs, rg, h, fun as G1 vs H1 h1 rv rg1 k1 => ?_, hx⟩
  exact ⟨as, G1, Qa, rv, rg1, h1, q.step k1⟩
theorem p_bt {f : PN} {x : Str} {p : Pos} {id : String} (hc : CallR X (.type id) (lN T f)) (hg : Gl X x) (hm : X.mg x = none) (hv : bootBuiltins x = some (.type id)) (ha : PA X (e :: es) (lL T W t)) (hn : x ≠ "__name__") (hdb : (x == ("__debug__" : Str)) = false)
    (he : starEach (e :: es) X.env = (false, eval e X.env) :: starEach es X.env) (hpl : (backTo pos (starEach es X.env)).any (·.1) = false) : PE X (.Call (.Name x p) (e :: es) [] pos) (lE T W (eBi f t)) := by
  refine PE.imp (pe_callTy hc hg hm hv ha hn hdb he hpl) fun σ H Q ⟨ς, G, Qa, Xa, rs, rg, h, q, hx⟩ => ⟨ς, G, _, Xa, rs, rg, h, fun as G1 vs H1 h1 rv rg1 k1 => ?_, hx⟩
  exact ⟨as, G1, Qa, rv, rg1, h1, q.step k1⟩
end
end Q
/-! Qr: the text of data, where only the addresses of dicts must not be the module table's. -/
namespace Q
open PySem PySem.Spec PyProof.Rows L2
/-- the dicts that a reading goes over are not the module table -/
def NoSys (h : Heap) (as : List Addr) : Prop := ∀ a ∈ as, (∃ o es ep, h.get? a = some o ∧ o.data = .dict es ep) → a ≠ sysModules
section
variable {h : Heap} {as bs : List Addr} {a : Addr}
theorem NoSys.nil : NoSys h [] := fun _ z => nomatch z
theorem NoSys.app (x : NoSys h as) (y : NoSys h bs) : NoSys h (as ++ bs) := fun a m => by
  rcases List.mem_append.mp m with m | m
  · exact x a m
  · exact y a m
theorem NoSys.left (x : NoSys h (as ++ bs)) : NoSys h as := fun a m => x a (List.mem_append_left _ m)
theorem NoSys.right (x : NoSys h (as ++ bs)) : NoSys h bs := fun a m => x a (List.mem_append_right _ m)
theorem NoSys.tail (x : NoSys h (a :: as)) : NoSys h as := fun b m => x b (List.mem_cons_of_mem _ m)
theorem NoSys.seq {o : Obj} {vs : Array Value} {n : Nat} (ho : h.get? a = some o) (hd : o.data = .seq vs n) (x : NoSys h as) : NoSys h (a :: as) := fun b m => by
  rcases List.mem_cons.mp m with rfl | m
  · rintro ⟨o', es, ep, e, d⟩
    rw [ho] at e; cases e
    rw [hd] at d; cases d
  · exact x b m
theorem NoSys.dct (ne : a ≠ sysModules) (x : NoSys h as) : NoSys h (a :: as) := fun b m => by
  rcases List.mem_cons.mp m with rfl | m
  · exact fun _ => ne
  · exact x b m
end
section
variable {P : Program} {w : World} {h₀ : Heap}
mutual
theorem rk_one : ∀ {v : Value} {d : PyData} {as : List Addr}, Reads h₀ v d as → d.showable = true → NoSys h₀ as → d.shown.length ≤ sizeLine →
    ∃ bs, ReadAtMost h₀ d.depth bs ∧ ReprK P w bs h₀ d.depth v d.shown
  | _, _, _, .none, _, _, _ =>
    ⟨[], (fun _ z => nomatch z), by simp only [PyData.shown]
                                    exact .of_is ReprIs.none _ _ _⟩
  | _, _, _, .bool b, _, _, _ =>
    ⟨[], (fun _ z => nomatch z), by simp only [PyData.shown]
                                    exact .of_is (ReprIs.bool b) _ _ _⟩
  | _, _, _, .int i t, sh, _, _ =>
    ⟨[], (fun _ z => nomatch z), by simp only [PyData.shown]
                                    exact .of_is (ReprIs.int t (by simpa [PyData.showable] using sh)) _ _ _⟩
  | _, _, _, .str x t, _, _, sz =>
    ⟨[], (fun _ z => nomatch z), by simp only [PyData.shown]
                                    exact .of_is (ReprIs.str x t (by simpa only [PyData.shown] using sz)) _ _ _⟩
  | _, _, _, .list (a := a) (vs := vs) (xs := xs) e1 e2 e3 e4, sh, ns, sz => by
    have sz' : (listText (PyData.shownAll xs)).length ≤ sizeLine := by
      simpa only [PyData.shown] using sz
    obtain ⟨bs, hb, hk⟩ := rk_all e4 (by simpa [PyData.showable] using sh) ns.tail
      (fun t ht => Nat.le_trans (listText_mem_le ht) sz')
    have r : Reads h₀ (.ref a) (.list xs) _ :=
      .list e1 e2 e3 e4
    have na : a ∉ bs :=
      not_mem_of_deeper r (by simp only [PyData.depth]; omega) hb
    refine ⟨a :: bs,
      ReadAtMost.cons r (by simp only [PyData.depth]; omega) hb, ?_⟩
    simp only [PyData.depth, PyData.shown]
    obtain ⟨l⟩ := vs
    cases l with
    | nil =>
      have e5 : ReadsAll h₀ [] xs _ := e4
      cases e5
      simp only [PyData.shownAll, listText_nil]
      exact ReprK.listEmpty e1 e2 e3
    | cons x l =>
      exact ReprK.list e1 e2 e3 na (by simpa using hk.length_eq)
        (fun i y e => hk.item i y (by simpa using e))
  | _, _, _, .tuple (a := a) (xs := xs) e1 e2 e3 e4, sh, ns, sz => by
    have sz' : (tupleText (PyData.shownAll xs)).length ≤ sizeLine := by
      simpa only [PyData.shown] using sz
    obtain ⟨bs, hb, hk⟩ := rk_all e4 (by simpa [PyData.showable] using sh) ns
      (fun t ht => Nat.le_trans (tupleText_mem_le ht) sz')
    have r : Reads h₀ (.ref a) (.tuple xs) _ :=
      .tuple e1 e2 e3 e4
    have na : a ∉ bs :=
      not_mem_of_deeper r (by simp only [PyData.depth]; omega) hb
    refine ⟨a :: bs,
      ReadAtMost.cons r (by simp only [PyData.depth]; omega) hb, ?_⟩
    simp only [PyData.depth, PyData.shown]
    exact ReprK.tuple e1 e2 e3 na hk
  | _, _, _, .dict (a := a) (es := es) (kvs := kvs) (as := p1) (bs := p2) e1 e2 e3 e4 e5, sh, ns, sz => by
    have sz' : (dictText (PyData.shownKv kvs)).length ≤ sizeLine := by
      simpa only [PyData.shown] using sz
    obtain ⟨s1, s2⟩ := PyData.showableKv_split kvs
      (by simpa [PyData.showable] using sh)
    have ns' : NoSys h₀ (p1 ++ p2) := by simpa using ns.tail
    obtain ⟨b1, hb1, k1⟩ := rk_all e4 s1 ns'.left fun t ht =>
      let ⟨p, hp, hl⟩ := PyData.shownKv_key_le kvs t ht
      Nat.le_trans hl (Nat.le_trans (dictText_mem_le hp) sz')
    obtain ⟨b2, hb2, k2⟩ := rk_all e5 s2 ns'.right fun t ht =>
      let ⟨p, hp, hl⟩ := PyData.shownKv_val_le kvs t ht
      Nat.le_trans hl (Nat.le_trans (dictText_mem_le hp) sz')
    have r : Reads h₀ (.ref a) (.dict kvs) _ :=
      .dict e1 e2 e3 e4 e5
    have hb : ReadAtMost h₀ (PyData.depthKv kvs) (b1 ++ b2) :=
      (hb1.mono (PyData.depthAll_keys_le kvs)).append
        (hb2.mono (PyData.depthAll_vals_le kvs))
    have na : a ∉ b1 ++ b2 :=
      not_mem_of_deeper r (by simp only [PyData.depth]; omega) hb
    have hs : (a == sysModules) = false :=
      beq_eq_false_iff_ne.mpr (ns a (by simp) ⟨_, _, _, e1, e3⟩)
    refine ⟨a :: (b1 ++ b2),
      ReadAtMost.cons r (by simp only [PyData.depth]; omega) hb, ?_⟩
    simp only [PyData.depth, PyData.shown, PyData.shownKv_eq]
    refine ReprK.dict e1 e2 e3 hs na (ReprEntriesK.of_two es.toList _ _ ?_ ?_)
    · exact k1.more_le (fun b z => List.mem_append_left _ z)
        (PyData.depthAll_keys_le kvs)
    · exact k2.more_le (fun b z => List.mem_append_right _ z)
        (PyData.depthAll_vals_le kvs)
theorem rk_all : ∀ {vs : List Value} {ds : List PyData} {as : List Addr}, ReadsAll h₀ vs ds as → PyData.showableAll ds = true → NoSys h₀ as → (∀ t ∈ PyData.shownAll ds, t.length ≤ sizeLine) →
    ∃ bs, ReadAtMost h₀ (PyData.depthAll ds) bs ∧ ReprAllK P w bs h₀ (PyData.depthAll ds) vs (PyData.shownAll ds)
  | _, _, _, .nil, _, _, _ =>
    ⟨[], (fun _ z => nomatch z), by simp only [PyData.shownAll]
                                    exact .nil⟩
  | _, _, _, .cons (d := d) (ds := ds) r rs, sh, ns, sz => by
    have sh' : d.showable = true ∧ PyData.showableAll ds = true := by
      simpa [PyData.showableAll] using sh
    obtain ⟨b1, hb1, k1⟩ := rk_one r sh'.1 ns.left
      (sz _ (by simp only [PyData.shownAll]; exact List.mem_cons_self ..))
    obtain ⟨b2, hb2, k2⟩ := rk_all rs sh'.2 ns.right fun t ht =>
      sz t (by simp only [PyData.shownAll]; exact List.mem_cons_of_mem _ ht)
    refine ⟨b1 ++ b2, ?_, ?_⟩
    · intro b hm
      simp only [PyData.depthAll]
      rcases List.mem_append.mp hm with hm | hm
      · obtain ⟨d', as', r', q⟩ := hb1 b hm
        exact ⟨d', as', r', Nat.le_trans q (Nat.le_max_left _ _)⟩
      · obtain ⟨d', as', r', q⟩ := hb2 b hm
        exact ⟨d', as', r', Nat.le_trans q (Nat.le_max_right _ _)⟩
    · simp only [PyData.depthAll, PyData.shownAll]
      refine .cons ?_ ?_
      · exact (k1.more fun b z => List.mem_append_left _ z).level_le
          (Nat.le_max_left _ _)
      · exact k2.more_le (fun b z => List.mem_append_right _ z)
          (Nat.le_max_right _ _)
end
/-- repr of what stands at an address -/
theorem repr_ref {a : Addr} {d : PyData} {as : List Addr} {A : Around} {E : Value → Shared → Prop} {s : Shared} {Q : Value → Shared → Prop} (r : Reads s.heap (.ref a) d as) (sh : d.showable = true) (ns : NoSys s.heap as) (hg : A.guards = some [])
    (hu : A.units + (d.depth + 1) < cLine) (sz : d.shown.length ≤ sizeLine)
    (hQ : ∀ h' u tk, (∀ b o, s.heap.get? b = some o → h'.get? b = some o) → Q (.str d.shown u) { s with heap := h', toks := tk }) :
    wpAny (model P w) A (call (.builtin "repr") [.ref a]) Q E s := by
  have kp : ∀ b o, s.heap.get? b = some o → s.heap.get? b = some o := fun _ _ e => e
  have go : ∀ {T idr : String}, s.TypeIs (.ref a) T → SlotG T "__repr__" idr →
      wpAny (model P w) A.in1 (call (.builtin idr) [.ref a]) (fun v s1 => ∃ x u, v = .str x u ∧ Q (.str x u) s1) E s →
      wpAny (model P w) A (call (.builtin "repr") [.ref a]) Q E s := fun t sl c =>
    call_repr_slot (by omega) t sl (wpAny_mono c (fun v s1 ⟨x, u, e, q⟩ => ⟨x, u, e, by subst e; exact q⟩) fun _ _ z => z)
  have hu1 : A.in1.units + d.depth < cLine := by
    show A.units + 1 + d.depth < cLine
    omega
  have fin : ∀ h' u tk, (∀ b o, s.heap.get? b = some o → h'.get? b = some o) →
      (∃ x u', Value.str d.shown u = .str x u' ∧ Q (.str x u') { s with heap := h', toks := tk }) :=
    fun h' u tk hk => ⟨_, _, rfl, hQ h' u tk hk⟩
  cases r with
  | list e1 e2 e3 e4 =>
    rename_i o vs n xs bs0
    have sz' : (listText (PyData.shownAll xs)).length ≤ sizeLine := by
      simpa only [PyData.shown] using sz
    obtain ⟨bs, hb, hk⟩ := rk_all (P := P) (w := w) e4 (by simpa [PyData.showable] using sh) ns.tail
      (fun t ht => Nat.le_trans (listText_mem_le ht) sz')
    have na : a ∉ bs :=
      not_mem_of_deeper (.list e1 e2 e3 e4) (by simp only [PyData.depth]; omega) hb
    refine go ⟨o, e1, e2⟩ F.slot_list_repr.toG ?_
    simp only [PyData.depth] at hu1
    simp only [PyData.shown] at fin
    obtain ⟨l⟩ := vs
    cases l with
    | nil =>
      have e5 : ReadsAll s.heap [] xs _ := e4
      cases e5
      simp only [PyData.shownAll, listText_nil] at fin
      exact call_list_repr_empty ⟨o, e1, e2⟩ e1 e3 (fin s.heap _ _ fun _ _ e => e)
    | cons x l =>
      exact call_list_reprK e1 e2 e3 na (by simpa using hk.length_eq)
        (fun i y e => hk.item i y (by simpa using e)) hg (fun b _ => Clear.nil b) hu1 kp fin sz'
  | tuple e1 e2 e3 e4 =>
    rename_i o vs n xs
    have sz' : (tupleText (PyData.shownAll xs)).length ≤ sizeLine := by
      simpa only [PyData.shown] using sz
    obtain ⟨bs, hb, hk⟩ := rk_all (P := P) (w := w) e4 (by simpa [PyData.showable] using sh) ns
      (fun t ht => Nat.le_trans (tupleText_mem_le ht) sz')
    have na : a ∉ bs :=
      not_mem_of_deeper (.tuple e1 e2 e3 e4) (by simp only [PyData.depth]; omega) hb
    refine go ⟨o, e1, e2⟩ F.slot_tuple_repr ?_
    simp only [PyData.depth] at hu1
    simp only [PyData.shown] at fin
    exact call_tuple_reprK e1 e2 e3 na hk hg (fun b _ => Clear.nil b) hu1 kp fin sz'
  | dict e1 e2 e3 e4 e5 =>
    rename_i o es n kvs p1 p2
    have sz' : (dictText (PyData.shownKv kvs)).length ≤ sizeLine := by
      simpa only [PyData.shown] using sz
    obtain ⟨s1, s2⟩ := PyData.showableKv_split kvs
      (by simpa [PyData.showable] using sh)
    have ns' : NoSys s.heap (p1 ++ p2) := by simpa using ns.tail
    obtain ⟨b1, hb1, k1⟩ := rk_all (P := P) (w := w) e4 s1 ns'.left fun t ht =>
      let ⟨p, hp, hl⟩ := PyData.shownKv_key_le kvs t ht
      Nat.le_trans hl (Nat.le_trans (dictText_mem_le hp) sz')
    obtain ⟨b2, hb2, k2⟩ := rk_all (P := P) (w := w) e5 s2 ns'.right fun t ht =>
      let ⟨p, hp, hl⟩ := PyData.shownKv_val_le kvs t ht
      Nat.le_trans hl (Nat.le_trans (dictText_mem_le hp) sz')
    have hb : ReadAtMost s.heap (PyData.depthKv kvs) (b1 ++ b2) :=
      (hb1.mono (PyData.depthAll_keys_le kvs)).append
        (hb2.mono (PyData.depthAll_vals_le kvs))
    have na : a ∉ b1 ++ b2 :=
      not_mem_of_deeper (.dict e1 e2 e3 e4 e5) (by simp only [PyData.depth]; omega) hb
    have hs : (a == sysModules) = false :=
      beq_eq_false_iff_ne.mpr (ns a (by simp) ⟨_, _, _, e1, e3⟩)
    refine go ⟨o, e1, e2⟩ F.slot_dict_repr ?_
    simp only [PyData.depth] at hu1
    simp only [PyData.shown, PyData.shownKv_eq] at fin
    refine call_dict_reprK e1 e2 e3 hs na (ReprEntriesK.of_two es.toList _ _ ?_ ?_) hg (fun b _ => Clear.nil b) hu1 kp fin
      (by rw [← PyData.shownKv_eq]; exact sz')
    · exact k1.more_le (fun b z => List.mem_append_left _ z)
        (PyData.depthAll_keys_le kvs)
    · exact k2.more_le (fun b z => List.mem_append_right _ z)
        (PyData.depthAll_vals_le kvs)
end
end Q
/-! Q4: operations on values. -/
namespace Q
open PySem PySem.Spec PyProof.Rows L2
/-- what the written part is known to hold -/
structure Tx.Ok (T : Tx) (X : Cx) : Prop where
  k : T.K = X.K
/-! ### data -/
def optL {α β : Type} (f : α → Option β) : List α → Option (List β)
  | [] => some []
  | x :: xs => match f x, optL f xs with
    | some a, some b => some (a :: b)
    | _, _ => none
theorem optL_cons {α β : Type} {f : α → Option β} {x : α} {xs : List α} {r : List β} (h : optL f (x :: xs) = some r) : ∃ a b, f x = some a ∧ optL f xs = some b ∧ r = a :: b := by
  simp only [optL] at h
  cases h1 : f x with
  | none => rw [h1] at h; cases h
  | some a =>
    cases h2 : optL f xs with
    | none => rw [h1, h2] at h; cases h
    | some b => rw [h1, h2] at h; cases h; exact ⟨a, b, rfl, rfl, rfl⟩
mutual
/-- the data that a value stands for -/
inductive Dt (G : Gp) : A → PyData → Prop where
  | non : Dt G .non .none
  | bl {b : Bool} : Dt G (.bl b) (.bool b)
  | int {i : Int} : Dt G (.int i) (.int i)
  | str {x : Str} : Dt G (.str x) (.str x)
  | tup {xs : List A} {ds : List PyData} : Dts G xs ds → Dt G (.tup xs) (.tuple ds)
  | fro {xs : List A} {ds : List PyData} : Dts G xs ds → Dt G (.fro xs) (.list ds)
  | fdc {ks vs : List A} {cs ds : List PyData} : Dts G ks cs → Dts G vs ds → ks.length = vs.length → Dt G (.fdc ks vs) (.dict (cs.zip ds))
  | lst {p : Addr} {xs : List A} {ds : List PyData} : G p = some (.lst xs) → Dts G xs ds → Dt G (.ref p) (.list ds)
  | dct {p : Addr} {kvs : List (A × A)} {cs ds : List PyData} : G p = some (.dct kvs) → Dts G (kvs.map (·.1)) cs → Dts G (kvs.map (·.2)) ds → Dt G (.ref p) (.dict (cs.zip ds))
inductive Dts (G : Gp) : List A → List PyData → Prop where
  | nil : Dts G [] []
  | cons {x : A} {d : PyData} {xs : List A} {ds : List PyData} : Dt G x d → Dts G xs ds → Dts G (x :: xs) (d :: ds)
end
theorem Dts.len {G : Gp} : ∀ {xs : List A} {ds : List PyData}, Dts G xs ds → ds.length = xs.length
  | _, _, .nil => rfl
  | _, _, .cons _ h => by simp [Dts.len h]
mutual
/-- the data of a tree that has no address -/
def pyd : A → Option PyData
  | .non => some .none
  | .bl b => some (.bool b)
  | .int i => some (.int i)
  | .str x => some (.str x)
  | .tup xs => (pyds xs).map .tuple
  | .fro xs => (pyds xs).map .list
  | .fdc ks vs => match pyds ks, pyds vs with
    | some cs, some ds => if ks.length = vs.length then some (.dict (cs.zip ds)) else none
    | _, _ => none
  | .scr _ => none
  | .fin _ _ _ => none
  | .exn _ _ _ => none
  | .ref _ => none
def pyds : List A → Option (List PyData)
  | [] => some []
  | x :: xs => match pyd x, pyds xs with
    | some d, some ds => some (d :: ds)
    | _, _ => none
end
theorem pyds_cons {x : A} {xs : List A} {r : List PyData} (h : pyds (x :: xs) = some r) : ∃ d ds, pyd x = some d ∧ pyds xs = some ds ∧ r = d :: ds := by
  simp only [pyds] at h
  cases h1 : pyd x with
  | none => rw [h1] at h; cases h
  | some a =>
    cases h2 : pyds xs with
    | none => rw [h1, h2] at h; cases h
    | some b => rw [h1, h2] at h; cases h; exact ⟨a, b, rfl, rfl, rfl⟩
mutual
theorem Dt.of {G : Gp} : ∀ {a : A} {d : PyData}, pyd a = some d → Dt G a d
  | .non, d, h => by simp only [pyd, Option.some.injEq] at h; subst h; exact .non
  | .bl b, d, h => by simp only [pyd, Option.some.injEq] at h; subst h; exact .bl
  | .int i, d, h => by simp only [pyd, Option.some.injEq] at h; subst h; exact .int
  | .str x, d, h => by simp only [pyd, Option.some.injEq] at h; subst h; exact .str
  | .tup xs, d, h => by
    simp only [pyd, Option.map_eq_some_iff] at h
    obtain ⟨ds, h, rfl⟩ := h
    exact .tup (Dts.of h)
  | .fro xs, d, h => by
    simp only [pyd, Option.map_eq_some_iff] at h
    obtain ⟨ds, h, rfl⟩ := h
    exact .fro (Dts.of h)
  | .fdc ks vs, d, h => by
    simp only [pyd] at h
    cases h1 : pyds ks with
    | none => rw [h1] at h; cases h
    | some cs =>
      cases h2 : pyds vs with
      | none => rw [h1, h2] at h; cases h
      | some ds =>
        rw [h1, h2] at h
        simp only at h
        split at h
        · rename_i e
          cases h
          exact .fdc (Dts.of h1) (Dts.of h2) e
        · cases h
  | .scr _, _, h => by simp [pyd] at h
  | .fin _ _ _, _, h => by simp [pyd] at h
  | .exn _ _ _, _, h => by simp [pyd] at h
  | .ref _, _, h => by simp [pyd] at h
theorem Dts.of {G : Gp} : ∀ {xs : List A} {ds : List PyData}, pyds xs = some ds → Dts G xs ds
  | [], ds, h => by simp only [pyds, Option.some.injEq] at h; subst h; exact .nil
  | x :: xs, ds, h => by
    obtain ⟨d, r, h1, h2, rfl⟩ := pyds_cons h
    exact .cons (Dt.of h1) (Dts.of h2)
end
section
variable {X : Cx} {T : Tx} {pins : List (Addr × Obj)} {σ : L2.St} {H : Hp} {s : Shared} {G : GS}
theorem relKey {k : Key} {a : A} {v : Value} (e : a = keyA k) (h : keyIs k v = true) : RV T G H a (kV k) ∧ RelV (kV k) v := by
  subst e
  rcases keyIs_shape h with ⟨i, t, rfl, rfl⟩ | ⟨x, t, rfl, rfl⟩
  · exact ⟨by simp only [keyA, RV, kV], ⟨t, rfl⟩⟩
  · exact ⟨by simp only [keyA, RV, kV], ⟨t, rfl⟩⟩
theorem rvKeys : ∀ ks : List Key, RVs T G H (ks.map keyA) (ks.map kV)
  | [] => rfl
  | .inl i :: ks => .cons (by simp only [keyA, RV, kV]) (rvKeys ks)
  | .inr x :: ks => .cons (by simp only [keyA, RV, kV]) (rvKeys ks)
theorem vals_of_pairs {P : Program} {w : World} : ∀ {es : List DictEntry} {vs : List (Key × Value)}, Pairs (mixKind P w) es vs → es.map (·.val) = vs.map (·.2)
  | _, _, .nil => rfl
  | _, _, .cons _ e r => by simp [e, vals_of_pairs r]
theorem vals_of_kv {κ : Type} : ∀ {qs : List (κ × V)} {vs : List (κ × Value)}, KV qs vs → Vals (qs.map (·.2)) (vs.map (·.2))
  | _, _, .nil => .nil
  | _, _, .cons k r => .cons k.2 (vals_of_kv r)
/-- the keys of a dict of ints and texts, seen as values of theirs -/
theorem keys_of_pairs {P : Program} {w : World} {T : Tx} {G : GS} {H : Hp} : ∀ {qs : List (Key × V)} {vs : List (Key × Value)} {es : List DictEntry}, KV qs vs → Pairs (mixKind P w) es vs → RVs T G H (qs.map fun q => keyA q.1) (qs.map fun q => kV q.1) ∧ Vals (qs.map fun q => kV q.1) (es.map (·.key))
  | _, _, _, .nil, .nil => ⟨.nil, .nil⟩
  | _, _, _, .cons k1 k2, .cons p1 pv p2 => by
    have e2 := k1.1
    have e : keyIs _ _ = true := p1
    rw [← e2] at e
    obtain ⟨x1, x2⟩ := relKey (T := T) (G := G) (H := H) rfl e
    obtain ⟨y1, y2⟩ := keys_of_pairs (T := T) (G := G) (H := H) k2 p2
    exact ⟨.cons x1 y1, .cons x2 y2⟩
/-- the entries of a dict with tuple keys -/
theorem dT_read {P : Program} {w : World} {T : Tx} {G : GS} {H : Hp} (free : ∀ p u, imm u → H p = some u → Fx G p) :
    ∀ (qs : List (List Key × V)) (xs : List (List Key × Addr × Value)),
      Paired (fun (p : List Key × V) (q : List Key × Addr × Value) => p.1 = q.1 ∧ H q.2.1 = some (.tup (p.1.map kV)) ∧ RelV p.2 q.2.2) qs xs →
      RVs T G H (qs.map fun q => A.tup (q.1.map keyA)) (xs.map fun q => V.ref q.2.1) ∧ Vals (xs.map fun q => V.ref q.2.1) ((xs.map (entryOfKey (tupleKind (mixKind P w)))).map (·.key)) ∧
      Vals (qs.map (·.2)) ((xs.map (entryOfKey (tupleKind (mixKind P w)))).map (·.val))
  | _, _, .nil => ⟨.nil, .nil, .nil⟩
  | _, _, .cons k1 k2 => by
    obtain ⟨a1, a2, a4⟩ := dT_read (P := P) (w := w) free _ _ k2
    refine ⟨.cons ?_ a1, .cons rfl a2, .cons k1.2.2 a4⟩
    simp only [RV]
    exact ⟨_, _, rfl, .inl ⟨free _ (.tup _) trivial k1.2.1, k1.2.1⟩, rvKeys _⟩
theorem zip_fst {α β : Type} : ∀ {xs : List α} {ys : List β}, xs.length = ys.length → (xs.zip ys).map (·.1) = xs ∧ (xs.zip ys).map (·.2) = ys
  | [], [], _ => ⟨rfl, rfl⟩
  | x :: xs, y :: ys, h => by
    obtain ⟨a, b⟩ := zip_fst (xs := xs) (ys := ys) (by simpa using h)
    simp [a, b]
  | [], _ :: _, h => by simp at h
  | _ :: _, [], h => by simp at h
/-- all that is never written, taken for what nobody changes -/
def GS.all (G : GS) (H : Hp) : GS := ⟨G.G, fun p => G.S p ∨ ∃ u, imm u ∧ H p = some u⟩
theorem ks_all : Ks G H (G.all H) H := fun b u f h => ⟨⟨.inl f.1, f.2⟩, h⟩
theorem RG.all (rg : RG T H G) : RG T H (G.all H) := by
  refine ⟨fun b u e => (rg b u e).mono ks_all rfl, fun b h => ?_⟩
  rcases h with h | ⟨u, _, e⟩
  · exact rg.st b h
  · rw [e]; simp
theorem RG.free_imm (rg : RG T H G) : ∀ p u, imm u → H p = some u → G p = none := fun p u i r => by
  cases e : G p with
  | none => rfl
  | some o => exact absurd r ((rg p o e).nimm i)
theorem rd_dK (I : Inv X pins σ H s) {p : Addr} {qs : List (Key × V)} (r : Rd H p (.dK qs)) : ∃ es ob ep, s.heap.get? p = some ob ∧ ob.ExactDict ∧ ob.data = .dict es ep ∧ p ≠ sysModules ∧ RVs T G H (qs.map fun q => keyA q.1) (qs.map fun q => kV q.1) ∧ Vals (qs.map fun q => kV q.1) (es.toList.map (·.key)) ∧ Vals (qs.map (·.2)) (es.toList.map (·.val)) := by
  obtain ⟨_, ne, vs, kv, ob, es, ep, ho, hx, hd, _, hp, _⟩ := r.ok I.hok
  obtain ⟨a, b⟩ := keys_of_pairs (T := T) (G := G) (H := H) kv hp
  refine ⟨es, ob, ep, ho, hx, hd, by simpa using ne, a, b, ?_⟩
  rw [vals_of_pairs hp]
  exact vals_of_kv kv
theorem rd_dT (I : Inv X pins σ H s) (free : ∀ p u, imm u → H p = some u → Fx G p) {p : Addr} {qs : List (List Key × V)} (r : Rd H p (.dT qs)) : ∃ es ob ep ks, s.heap.get? p = some ob ∧ ob.ExactDict ∧ ob.data = .dict es ep ∧ p ≠ sysModules ∧ RVs T G H (qs.map fun q => A.tup (q.1.map keyA)) ks ∧ Vals ks (es.toList.map (·.key)) ∧ Vals (qs.map (·.2)) (es.toList.map (·.val)) := by
  obtain ⟨_, ne, xs, kv, ob, es, ep, ho, hx, hd, he, _⟩ := r.ok I.hok
  obtain ⟨a1, a2, a4⟩ := dT_read (T := T) (P := X.prog) (w := X.w) free qs xs kv
  exact ⟨es, ob, ep, _, ho, hx, hd, by simpa using ne, a1, by rw [he]; exact a2, by rw [he]; exact a4⟩
def Rdd (T : Tx) (s : Shared) (G : GS) (H : Hp) (a : A) (d : PyData) : Prop := ∀ {v : V} {u : Value}, RV T G H a v → RelV v u → ∃ as, Reads s.heap u d as ∧ NoSys s.heap as
def Rdds (T : Tx) (s : Shared) (G : GS) (H : Hp) (xs : List A) (ds : List PyData) : Prop := ∀ {vs : List V} {us : List Value}, RVs T G H xs vs → Vals vs us → ∃ as, ReadsAll s.heap us ds as ∧ NoSys s.heap as
theorem dat_reads' (ok : T.Ok X) (I : Inv X pins σ H s) (rg : RG T H G) (free : ∀ p u, imm u → H p = some u → Fx G p) : ∀ {a : A} {d : PyData}, Dt G a d → Rdd T s G H a d := by
  intro a d h
  refine Dt.rec (motive_1 := fun a d _ => Rdd T s G H a d) (motive_2 := fun xs ds _ => Rdds T s G H xs ds) ?_ ?_ ?_ ?_ ?_ ?_ ?_ ?_ ?_ ?_ ?_ h
  · intro v u r ru; simp only [RV] at r; subst r; cases ru; exact ⟨_, .none, .nil⟩
  · intro b v u r ru; simp only [RV] at r; subst r; cases ru; exact ⟨_, .bool _, .nil⟩
  · intro i v u r ru; simp only [RV] at r; subst r; obtain ⟨t, rfl⟩ := ru; exact ⟨_, .int _ t, .nil⟩
  · intro x v u r ru; simp only [RV] at r; subst r; obtain ⟨t, rfl⟩ := ru; exact ⟨_, .str _ t, .nil⟩
  · intro xs ds _ ih v u r ru
    simp only [RV] at r
    obtain ⟨p, vs, rfl, sq, rv⟩ := r
    cases ru
    have sq := sq.sq
    rw [ok.k] at sq
    obtain ⟨its, q, ⟨o, ho, hc, m, hd⟩, _⟩ := I.tuple sq
    obtain ⟨as, ra, na⟩ := ih rv q
    exact ⟨as, .tuple ho hc hd ra, na⟩
  · intro xs ds _ ih v u r ru
    simp only [RV] at r
    obtain ⟨p, vs, rfl, _, sq, rv⟩ := r
    cases ru
    obtain ⟨its, q, ⟨o, m, ho, hc, _, hd⟩, _⟩ := I.list (.of sq)
    obtain ⟨as, ra, na⟩ := ih rv q
    exact ⟨_, .list ho hc hd ra, .seq ho hd na⟩
  · intro ks xs cs ds hk hv hl ih1 ih2 v u r ru
    simp only [RV] at r
    obtain ⟨p, vs, rfl, g, rv, r⟩ := r
    cases ru
    obtain ⟨z1, z2⟩ := zip_fst (hk.len.trans (hl.trans hv.len.symm))
    rcases r with ⟨qs, r, rfl, rfl⟩ | ⟨qs, r, rfl, rfl⟩
    · obtain ⟨es, ob, ep, ho, hx, hd, ne, a1, a2, a3⟩ := rd_dK (T := T) (G := G) I (.inl r)
      obtain ⟨as, ra, na⟩ := ih1 a1 a2
      obtain ⟨bs, rb, nb⟩ := ih2 rv a3
      exact ⟨_, .dict ho hx.1 hd (by rw [z1]; exact ra) (by rw [z2]; exact rb), .dct ne (na.app nb)⟩
    · obtain ⟨es, ob, ep, ks, ho, hx, hd, ne, a1, a2, a3⟩ := rd_dT I free (.inl r)
      obtain ⟨as, ra, na⟩ := ih1 a1 a2
      obtain ⟨bs, rb, nb⟩ := ih2 rv a3
      exact ⟨_, .dict ho hx.1 hd (by rw [z1]; exact ra) (by rw [z2]; exact rb), .dct ne (na.app nb)⟩
  · intro p xs ds e _ ih v u r ru
    simp only [RV] at r; subst r
    cases ru
    obtain ⟨vs, e, rv⟩ := rg _ _ e
    obtain ⟨its, q, ⟨o, m, ho, hc, _, hd⟩, _⟩ := I.list (.of e)
    obtain ⟨as, ra, na⟩ := ih rv q
    exact ⟨_, .list ho hc hd ra, .seq ho hd na⟩
  · intro p kvs cs ds e hk hv ih1 ih2 v u r ru
    simp only [RV] at r; subst r
    cases ru
    obtain ⟨z1, z2⟩ := zip_fst (hk.len.trans (((List.length_map _).trans (List.length_map _).symm).trans hv.len.symm))
    rcases rg _ _ e with ⟨qs, r, rk⟩ | ⟨qs, r, rk⟩
    · obtain ⟨b1, b2⟩ := rk_split rk
      obtain ⟨es, ob, ep, ho, hx, hd, ne, a1, a2, a3⟩ := rd_dK (T := T) (G := G) I (.inl r)
      obtain ⟨as, ra, na⟩ := ih1 (by rw [b1]; exact a1) a2
      obtain ⟨bs, rb, nb⟩ := ih2 b2 a3
      exact ⟨_, .dict ho hx.1 hd (by rw [z1]; exact ra) (by rw [z2]; exact rb), .dct ne (na.app nb)⟩
    · obtain ⟨b1, b2⟩ := rkt_split rk
      obtain ⟨es, ob, ep, ks, ho, hx, hd, ne, a1, a2, a3⟩ := rd_dT I free (.inl r)
      obtain ⟨as, ra, na⟩ := ih1 (by rw [b1]; exact a1) a2
      obtain ⟨bs, rb, nb⟩ := ih2 b2 a3
      exact ⟨_, .dict ho hx.1 hd (by rw [z1]; exact ra) (by rw [z2]; exact rb), .dct ne (na.app nb)⟩
  · intro vs us r ru
    simp only [RVs] at r; subst r
    cases ru
    exact ⟨[], .nil, .nil⟩
  · intro x d xs ds _ _ ih1 ih2 vs us r ru
    simp only [RVs] at r
    obtain ⟨v, vs', rfl, r1, r2⟩ := r
    cases ru with
    | cons q1 q2 =>
      obtain ⟨as, ra, na⟩ := ih1 r1 q1
      obtain ⟨bs, rb, nb⟩ := ih2 r2 q2
      exact ⟨as ++ bs, .cons ra rb, na.app nb⟩
theorem dat_reads (ok : T.Ok X) (I : Inv X pins σ H s) (rg : RG T H G) {a : A} {v : V} {u : Value} {d : PyData} (h : Dt G a d) (r : RV T G H a v) (ru : RelV v u) : ∃ as, Reads s.heap u d as ∧ NoSys s.heap as :=
  dat_reads' (G := G.all H) ok I rg.all (fun p u i e => ⟨.inr ⟨u, i, e⟩, rg.free_imm p u i e⟩) h (RV.mono' ks_all r) ru
end
end Q
/-! Q5: arithmetic, texts, lists, equality, repr, subscripts. -/
namespace Q
open PySem PySem.Spec PyProof.Rows L2
/-- the items of a list that is not the script -/
def lstOf (G : Gp) : A → Option (List A)
  | .ref p => match G p with
    | some (.lst xs) => some xs
    | _ => none
  | .fro xs => some xs
  | _ => none
def addA (m : Bool) : P2 := fun a b G Q => match a, b with
  | .int i, .int j => Q (.int (i + j)) G
  | .str x, .str y => x.length + y.length ≤ sizeLine ∧ Q (.str (x ++ y)) G
  | .tup xs, .tup ys => xs.length + ys.length ≤ sizeLine ∧ Q (.tup (xs ++ ys)) G
  | a, b => ∃ xs ys, lstOf G a = some xs ∧ lstOf G b = some ys ∧ xs.length + ys.length ≤ sizeLine ∧ new m (.lst (xs ++ ys)) G Q
def intA (C : Int → Int → Prop) (g : Int → Int → A) : P2 := fun a b G Q => match a, b with
  | .int i, .int j => C i j ∧ Q (g i j) G
  | _, _ => False
def subA : P2 := intA (fun _ _ => True) fun i j => .int (i - j)
def modA : P2 := intA (fun _ j => 0 < j) fun i j => .int (i % j)
def fdivA : P2 := intA CDivW fun i j => .int (i / j)
def powA : P2 := intA CPow fun i j => .int (i ^ j.toNat)
def mulA (m : Bool) : P2 := fun a b G Q => match a, b with
  | .int i, .int j => CMulW i j ∧ Q (.int (i * j)) G
  | .str x, .int j => MulOk x j ∧ Q (.str (Txt.mul x j)) G
  | a, .int j => ∃ xs, lstOf G a = some xs ∧ -(2 ^ 63) ≤ j ∧ j < 2 ^ 63 ∧ xs.length * j.toNat ≤ sizeLine ∧ new m (.lst (List.replicate j.toNat xs).flatten) G Q
  | _, _ => False
section
variable {X : Cx} {T : Tx}
theorem rv_int {T : Tx} {G : GS} {H : Hp} {i : Int} {v : V} (h : RV T G H (.int i) v) : v = .int i := by simpa only [RV] using h
theorem rv_str {T : Tx} {G : GS} {H : Hp} {i : Str} {v : V} (h : RV T G H (.str i) v) : v = .str i := by simpa only [RV] using h
theorem rv_ref {T : Tx} {G : GS} {H : Hp} {i : Addr} {v : V} (h : RV T G H (.ref i) v) : v = .ref i := by simpa only [RV] using h
theorem rv_tup {T : Tx} {G : GS} {H : Hp} {i : List A} {v : V} (h : RV T G H (.tup i) v) : ∃ p vs, v = .ref p ∧ TupAt T G H p vs ∧ RVs T G H i vs := by simpa only [RV] using h
theorem lstOf_rep {T : Tx} {H : Hp} {G : GS} {a : A} {v : V} {xs : List A} (rg : RG T H G) (h : lstOf G a = some xs) (r : RV T G H a v) : ∃ p vs, v = .ref p ∧ H p = some (.lst vs) ∧ RVs T G H xs vs := by
  cases a with
  | ref p =>
    simp only [lstOf] at h
    split at h
    · rename_i zs e1
      cases h
      obtain ⟨vs, h1, r1⟩ := rg p _ e1
      exact ⟨p, vs, rv_ref r, h1, r1⟩
    · cases h
  | fro ys =>
    simp only [lstOf, Option.some.injEq] at h; subst h
    simp only [RV] at r
    obtain ⟨p, vs, rfl, _, sq, rv⟩ := r
    exact ⟨p, vs, rfl, sq, rv⟩
  | _ => simp [lstOf] at h
theorem rv_i {T : Tx} {G : GS} {H : Hp} (i : Int) : RV T G H (.int i) (.int i) := by simp only [RV]
theorem rv_s {T : Tx} {G : GS} {H : Hp} (i : Str) : RV T G H (.str i) (.str i) := by simp only [RV]
theorem rv_b {T : Tx} {G : GS} {H : Hp} (i : Bool) : RV T G H (.bl i) (.bl i) := by simp only [RV]
theorem rv_r {T : Tx} {G : GS} {H : Hp} (i : Addr) : RV T G H (.ref i) (.ref i) := by simp only [RV]
theorem rv_n {T : Tx} {G : GS} {H : Hp} : RV T G H .non .non := by simp only [RV]
theorem rv_t {T : Tx} {G : GS} {H : Hp} {p : Addr} {xs : List A} {vs : List V} (h : TupAt T G H p vs) (r : RVs T G H xs vs) : RV T G H (.tup xs) (.ref p) := by simp only [RV]; exact ⟨p, vs, rfl, h, r⟩
/-- a new tuple of a tree -/
theorem new_tup {G1 : GS} {H1 : Hp} {as : List A} {vs : List V} {Qa : KA} {Q : VK} (rg1 : RG T H1 G1) (rv : RVs T G1 H1 as vs) (h : Qa (.tup as) G1) (q : LQ T G1 H1 Qa Q) {p : Addr} (hp : H1 p = none) : Q (.ref p) (upd H1 p (.tup vs)) :=
  q _ (G1.fx p) _ _ h (rv_t (.inl ⟨rg1.fxT hp, upd_same⟩) (rv.mono (Kp.newT hp))) (rg1.newT hp) (Kp.newT hp)
theorem o_int {f : Value → Value → Sem Value} {C : Int → Int → Prop} {g : Int → Int → V} {ga : Int → Int → A} (h : OpR X f (rI C g)) (hg : ∀ i j (G : GS) H, RV T G H (ga i j) (g i j)) : OpR X f (l2 T (intA C ga)) := by
  intro pins s σ H x y v u Q I rx ry ⟨a, b, G, Qa, ra, rb, rg, hf, q⟩
  cases a <;> cases b <;> first | exact False.elim hf | skip
  rename_i i j
  exact h pins s σ H x y v u Q I rx ry ⟨i, j, rv_int ra, rv_int rb, hf.1, q _ _ _ _ hf.2 (hg i j G H) rg Kp.refl⟩
theorem o_sub : OpR X (binaryOp .Sub) (l2 T subA) := o_int (C := fun _ _ => True) (g := fun i j => .int (i - j)) (fun pins s σ H x y v u Q I rx ry h => op_sub pins s σ H x y v u Q I rx ry (let ⟨i, j, e1, e2, _, q⟩ := h; ⟨i, j, e1, e2, q⟩)) fun i j G H => rv_i _
theorem o_mod : OpR X (binaryOp .Mod) (l2 T modA) := o_int op_mod fun i j G H => rv_i _
theorem o_fdiv : OpR X (binaryOp .FloorDiv) (l2 T fdivA) := o_int op_fdivW fun i j G H => rv_i _
theorem o_pow : OpR X (binaryOp .Pow) (l2 T powA) := o_int op_pow fun i j G H => rv_i _
theorem o_add {m : Bool} (hT : T.K = X.K) : OpR X (binaryOp .Add) (l2 T (addA m)) := by
  intro pins s σ H x y v u Q I rx ry ⟨a, b, G, Qa, ra, rb, rg, hf, q⟩
  have lst : (∃ xs ys, lstOf G a = some xs ∧ lstOf G b = some ys ∧ xs.length + ys.length ≤ sizeLine ∧ new m (.lst (xs ++ ys)) G Qa) → wpAny (model X.prog X.w) X.A (binaryOp .Add v u) (EP X pins σ Q) X.xe s := by
    rintro ⟨xs, ys, e1, e2, hz, hf⟩
    obtain ⟨p1, vs, rfl, h1, r1⟩ := lstOf_rep rg e1 ra
    obtain ⟨p2, ws, rfl, h2, r2⟩ := lstOf_rep rg e2 rb
    exact op_cat pins s σ H _ _ v u Q I rx ry ⟨p1, p2, vs, ws, rfl, rfl, h1, h2, by rw [r1.len, r2.len]; exact hz, fun p hp => new_lst rg (r1.app r2) hf q hp⟩
  unfold addA at hf
  split at hf
  · rename_i i j
    exact op_add pins s σ H x y v u Q I rx ry ⟨i, j, rv_int ra, rv_int rb, q _ _ _ _ hf (rv_i _) rg Kp.refl⟩
  · rename_i i j
    exact op_add_str pins s σ H x y v u Q I rx ry ⟨i, j, rv_str ra, rv_str rb, hf.1, q _ _ _ _ hf.2 (rv_s _) rg Kp.refl⟩
  · rename_i xs ys
    obtain ⟨p1, vs, rfl, s1, r1⟩ := rv_tup ra
    obtain ⟨p2, ws, rfl, s2, r2⟩ := rv_tup rb
    have l1 := r1.len
    have l2 := r2.len
    refine op_catA pins s σ H _ _ v u Q I rx ry ⟨p1, p2, vs, ws, rfl, rfl, hT ▸ s1.sq, hT ▸ s2.sq, by rw [l1, l2]; exact hf.1, fun e => ?_, fun e e2 => ?_, fun e e2 p hp => ?_⟩
    · subst e
      have z : xs = [] := by cases xs <;> simp_all
      subst z
      exact q _ _ _ _ hf.2 rb rg Kp.refl
    · subst e2
      have z : ys = [] := by cases ys <;> simp_all
      subst z
      have hf2 : Qa (.tup (xs ++ [])) G := hf.2
      rw [List.append_nil] at hf2
      exact q _ _ _ _ hf2 ra rg Kp.refl
    · exact new_tup rg (r1.app r2) hf.2 q hp
  · exact lst hf
theorem o_mul {m : Bool} : OpR X (binaryOp .Mult) (l2 T (mulA m)) := by
  intro pins s σ H x y v u Q I rx ry ⟨a, b, G, Qa, ra, rb, rg, hf, q⟩
  unfold mulA at hf
  split at hf
  · rename_i i j
    exact op_mulW pins s σ H x y v u Q I rx ry ⟨i, j, rv_int ra, rv_int rb, hf.1, q _ _ _ _ hf.2 (rv_i _) rg Kp.refl⟩
  · rename_i i j
    obtain rfl := rv_str ra
    obtain rfl := rv_int rb
    obtain ⟨t, rfl⟩ := rx
    obtain ⟨t', rfl⟩ := ry
    exact PySem.SB.mul hf.1 fun t2 k => ⟨.str _, H, I.tok _, ⟨_, rfl⟩, q _ _ _ _ hf.2 (rv_s _) rg Kp.refl⟩
  · rename_i j _ _
    obtain ⟨xs, e1, hf⟩ := hf
    obtain ⟨p1, vs, rfl, h1, r1⟩ := lstOf_rep rg e1 ra
    exact op_rep pins s σ H _ y v u Q I rx ry ⟨p1, j, vs, rfl, rv_int rb, h1, hf.1, hf.2.1, by rw [r1.len]; exact hf.2.2.1, fun p hp => new_lst rg (r1.rep _) hf.2.2.2 q hp⟩
  · exact hf.elim
/-! ### comparisons -/
/-- == and != of data; of two lists that are not of one length; of a tuple and () -/
def eqA (neg : Bool) : P2 := fun a b G Q => (∃ d e, Dt G a d ∧ Dt G b e ∧ SeqAt.shaped d = true ∧ SeqAt.shaped e = true ∧ Q (.bl (if neg then !PyData.eqv d e else PyData.eqv d e)) G) ∨
  (∃ xs ys, lstOf G a = some xs ∧ lstOf G b = some ys ∧ xs.length ≠ ys.length ∧ Q (.bl neg) G) ∨ (∃ xs, a = .tup xs ∧ b = .tup [] ∧ Q (.bl (if neg then !xs.isEmpty else xs.isEmpty)) G) ∨
  ∃ x y, a = .str x ∧ b = .str y ∧ Q (.bl (if neg then x != y else x == y)) G
def ltA : P2 := fun a b G Q => match a, b with
  | .int i, .int j => Q (.bl (decide (i < j))) G
  | _, _ => False
def leA : P2 := fun a b G Q => match a, b with
  | .int i, .int j => Q (.bl (decide (i ≤ j))) G
  | _, _ => False
def gtA : P2 := fun a b G Q => match a, b with
  | .int i, .int j => Q (.bl (decide (j < i))) G
  | _, _ => False
def geA : P2 := fun a b G Q => match a, b with
  | .int i, .int j => Q (.bl (decide (j ≤ i))) G
  | _, _ => False
theorem lstOf_list {pins : List (Addr × Obj)} {σ : L2.St} {H : Hp} {s : Shared} {G : GS} {a : A} {x : V} {u : Value} {xs : List A} (I : Inv X pins σ H s) (rg : RG T H G) (e : lstOf G a = some xs) (r : RV T G H a x) (ru : RelV x u) :
    ∃ p its, u = .ref p ∧ PlainL s.heap p its ∧ its.size = xs.length := by
  obtain ⟨p, vs, rfl, h1, r1⟩ := lstOf_rep rg e r
  cases ru
  obtain ⟨its, q, pl, _⟩ := I.list (.of h1)
  exact ⟨p, _, rfl, pl, by rw [List.size_toArray, ← q.length, r1.len]⟩
theorem o_eq (ok : T.Ok X) (hu : X.A.units + 64 < cLine) : OpR X (compareOp .Eq) (l2 T (eqA false)) := by
  intro pins s σ H x y v u Q I rx ry ⟨a, b, G, Qa, ra, rb, rg, hf, q⟩
  rcases hf with ⟨d, e, h1, h2, s1, s2, hf⟩ | ⟨xs, ys, h1, h2, hn, hf⟩ | ⟨xs, rfl, rfl, hf⟩ | ⟨x', y', rfl, rfl, hf⟩
  · obtain ⟨as, r1, _⟩ := dat_reads ok I rg h1 ra rx
    obtain ⟨bs, r2, _⟩ := dat_reads ok I rg h2 rb ry
    exact SeqAt.compareEq_shaped r1 r2 s1 s2 hu ⟨.bl _, H, I, rfl, q _ _ _ _ hf (rv_b _) rg Kp.refl⟩
  · obtain ⟨p1, i1, rfl, l1, z1⟩ := lstOf_list I rg h1 ra rx
    obtain ⟨p2, i2, rfl, l2, z2⟩ := lstOf_list I rg h2 rb ry
    exact SeqAt.eq_list_lengthsAt l1.isList l2.isList (by simp [z1, z2, hn]) (by omega) ⟨.bl _, H, I, rfl, q _ _ _ _ hf (rv_b _) rg Kp.refl⟩
  · obtain ⟨p1, vs, rfl, s1, r1⟩ := rv_tup ra
    obtain ⟨p2, ws, rfl, s2, r2⟩ := rv_tup rb
    cases rx; cases ry
    obtain ⟨i1, q1, t1, _⟩ := I.tuple (ok.k ▸ s1.sq)
    obtain ⟨i2, q2, t2, _⟩ := I.tuple (ok.k ▸ s2.sq)
    have e1 : i1.length = xs.length := by rw [← q1.length, r1.len]
    have e2 : i2.length = 0 := by rw [← q2.length, r2.len]; rfl
    refine SeqAt.eq_tupleAt (e := fun _ => true) t1 t2 (by omega) (fun j h1 h2 => absurd h2 (by simp [e2])) ⟨.bl xs.isEmpty, H, I, ?_, q _ _ _ _ hf (rv_b _) rg Kp.refl⟩
    cases xs <;> simp_all [L2.RelV]
  · obtain rfl := rv_str ra
    obtain rfl := rv_str rb
    obtain ⟨t, rfl⟩ := rx
    obtain ⟨t', rfl⟩ := ry
    exact PyProof.Rows.eq_str ⟨.bl _, H, I, rfl, q _ _ _ _ hf (rv_b _) rg Kp.refl⟩
theorem o_ne (ok : T.Ok X) (hu : X.A.units + 64 < cLine) : OpR X (compareOp .NotEq) (l2 T (eqA true)) := by
  intro pins s σ H x y v u Q I rx ry ⟨a, b, G, Qa, ra, rb, rg, hf, q⟩
  rcases hf with ⟨d, e, h1, h2, s1, s2, hf⟩ | ⟨xs, ys, h1, h2, hn, hf⟩ | ⟨xs, rfl, rfl, hf⟩ | ⟨x', y', rfl, rfl, hf⟩
  · obtain ⟨as, r1, _⟩ := dat_reads ok I rg h1 ra rx
    obtain ⟨bs, r2, _⟩ := dat_reads ok I rg h2 rb ry
    exact SeqAt.compareNe_shaped r1 r2 s1 s2 hu ⟨.bl _, H, I, rfl, q _ _ _ _ hf (rv_b _) rg Kp.refl⟩
  · obtain ⟨p1, i1, rfl, l1, z1⟩ := lstOf_list I rg h1 ra rx
    obtain ⟨p2, i2, rfl, l2, z2⟩ := lstOf_list I rg h2 rb ry
    exact SeqAt.RcNeAt.lists_lengths l1.isList l2.isList (by simp [z1, z2, hn]) (by omega) _ _ _ _ ⟨.bl _, H, I, rfl, q _ _ _ _ hf (rv_b _) rg Kp.refl⟩
  · obtain ⟨p1, vs, rfl, s1, r1⟩ := rv_tup ra
    obtain ⟨p2, ws, rfl, s2, r2⟩ := rv_tup rb
    cases rx; cases ry
    obtain ⟨i1, q1, t1, _⟩ := I.tuple (ok.k ▸ s1.sq)
    obtain ⟨i2, q2, t2, _⟩ := I.tuple (ok.k ▸ s2.sq)
    have e1 : i1.length = xs.length := by rw [← q1.length, r1.len]
    have e2 : i2.length = 0 := by rw [← q2.length, r2.len]; rfl
    refine SeqAt.RcNeAt.tuples (e := fun _ => true) t1 t2 (by omega) (fun j h1 h2 => absurd h2 (by simp [e2])) _ _ _ _ ⟨.bl (!xs.isEmpty), H, I, ?_, q _ _ _ _ hf (rv_b _) rg Kp.refl⟩
    cases xs <;> simp_all [L2.RelV]
  · obtain rfl := rv_str ra
    obtain rfl := rv_str rb
    obtain ⟨t, rfl⟩ := rx
    obtain ⟨t', rfl⟩ := ry
    exact PyProof.Rows.ne_str ⟨.bl _, H, I, rfl, q _ _ _ _ hf (rv_b _) rg Kp.refl⟩
theorem o_lt : OpR X (compareOp .Lt) (l2 T ltA) := by
  intro pins s σ H x y v u Q I rx ry ⟨a, b, G, Qa, ra, rb, rg, hf, q⟩
  cases a <;> cases b <;> first | exact False.elim hf | skip
  exact op_lt pins s σ H x y v u Q I rx ry ⟨_, _, rv_int ra, rv_int rb, q _ _ _ _ hf (rv_b _) rg Kp.refl⟩
theorem o_le : OpR X (compareOp .LtE) (l2 T leA) := by
  intro pins s σ H x y v u Q I rx ry ⟨a, b, G, Qa, ra, rb, rg, hf, q⟩
  cases a <;> cases b <;> first | exact False.elim hf | skip
  exact op_le pins s σ H x y v u Q I rx ry ⟨_, _, rv_int ra, rv_int rb, q _ _ _ _ hf (rv_b _) rg Kp.refl⟩
theorem o_gt : OpR X (compareOp .Gt) (l2 T gtA) := by
  intro pins s σ H x y v u Q I rx ry ⟨a, b, G, Qa, ra, rb, rg, hf, q⟩
  cases a <;> cases b <;> first | exact False.elim hf | skip
  exact op_gt pins s σ H x y v u Q I rx ry ⟨_, _, rv_int ra, rv_int rb, q _ _ _ _ hf (rv_b _) rg Kp.refl⟩
theorem o_ge : OpR X (compareOp .GtE) (l2 T geA) := by
  intro pins s σ H x y v u Q I rx ry ⟨a, b, G, Qa, ra, rb, rg, hf, q⟩
  cases a <;> cases b <;> first | exact False.elim hf | skip
  exact op_ge pins s σ H x y v u Q I rx ry ⟨_, _, rv_int ra, rv_int rb, q _ _ _ _ hf (rv_b _) rg Kp.refl⟩
/-- x in a list, a tuple, a text -/
def inA (neg : Bool) : P2 := fun a b G Q => (∃ x y, a = .str x ∧ b = .str y ∧ Q (.bl (if neg then !(!(Builtin.Str.occurrences y x 0 y.length 1).isEmpty) else !(Builtin.Str.occurrences y x 0 y.length 1).isEmpty)) G) ∨
  ∃ d ds, Dt G a d ∧ (Dt G b (.list ds) ∨ Dt G b (.tuple ds)) ∧ SeqAt.shaped d = true ∧ PyData.canLayAll0 ds = true ∧ Q (.bl (if neg then !ds.any fun z => PyData.eqv z d else ds.any fun z => PyData.eqv z d)) G
theorem o_in (ok : T.Ok X) (hu : X.A.units + 65 < cLine) : OpR X (compareOp .In) (l2 T (inA false)) := by
  intro pins s σ H x y v u Q I rx ry ⟨a, b, G, Qa, ra, rb, rg, hf, q⟩
  rcases hf with ⟨i, j, rfl, rfl, hf⟩ | ⟨d, ds, h1, h2, s1, s2, hf⟩
  · exact op_in_str pins s σ H x y v u Q I rx ry ⟨i, j, rv_str ra, rv_str rb, q _ _ _ _ hf (rv_b _) rg Kp.refl⟩
  · obtain ⟨as, r1, _⟩ := dat_reads ok I rg h1 ra rx
    rcases h2 with h2 | h2
    · obtain ⟨bs, r2, _⟩ := dat_reads ok I rg h2 rb ry
      exact SeqAt.in_list_reads r2 r1 s2 (SeqAt.canLay_of_shaped s1) (room_in_shaped s1 hu) ⟨.bl _, H, I, rfl, q _ _ _ _ hf (rv_b _) rg Kp.refl⟩
    · obtain ⟨bs, r2, _⟩ := dat_reads ok I rg h2 rb ry
      exact SeqAt.in_tuple_reads r2 r1 s2 (SeqAt.canLay_of_shaped s1) (room_in_shaped s1 hu) ⟨.bl _, H, I, rfl, q _ _ _ _ hf (rv_b _) rg Kp.refl⟩
theorem o_notin (ok : T.Ok X) (hu : X.A.units + 65 < cLine) : OpR X (compareOp .NotIn) (l2 T (inA true)) := by
  intro pins s σ H x y v u Q I rx ry ⟨a, b, G, Qa, ra, rb, rg, hf, q⟩
  rcases hf with ⟨i, j, rfl, rfl, hf⟩ | ⟨d, ds, h1, h2, s1, s2, hf⟩
  · exact L2.op_notin_str pins s σ H x y v u Q I rx ry ⟨i, j, rv_str ra, rv_str rb, q _ _ _ _ hf (rv_b _) rg Kp.refl⟩
  · obtain ⟨as, r1, _⟩ := dat_reads ok I rg h1 ra rx
    rcases h2 with h2 | h2
    · obtain ⟨bs, r2, _⟩ := dat_reads ok I rg h2 rb ry
      exact SeqAt.notIn_list_reads r2 r1 s2 (SeqAt.canLay_of_shaped s1) (room_in_shaped s1 hu) ⟨.bl _, H, I, rfl, q _ _ _ _ hf (rv_b _) rg Kp.refl⟩
    · obtain ⟨bs, r2, _⟩ := dat_reads ok I rg h2 rb ry
      exact SeqAt.notIn_tuple_reads r2 r1 s2 (SeqAt.canLay_of_shaped s1) (room_in_shaped s1 hu) ⟨.bl _, H, I, rfl, q _ _ _ _ hf (rv_b _) rg Kp.refl⟩
end
end Q
/-! Q6: built-ins, methods, subscripts. -/
namespace Q
open PySem PySem.Spec PyProof.Rows L2
section
variable {X : Cx} {T : Tx} {W : L2.WX} {a b e o : Expr} {es : List Expr} {ta tb to : EA} {t : LA} {pos : Pos}
theorem rvs1 {T : Tx} {G : GS} {H : Hp} {a : A} {vs : List V} (h : RVs T G H [a] vs) : ∃ v, vs = [v] ∧ RV T G H a v := by
  simp only [RVs] at h
  obtain ⟨v, r, rfl, h1, rfl⟩ := h
  exact ⟨v, rfl, h1⟩
theorem rvs2 {T : Tx} {G : GS} {H : Hp} {a b : A} {vs : List V} (h : RVs T G H [a, b] vs) : ∃ v w, vs = [v, w] ∧ RV T G H a v ∧ RV T G H b w := by
  simp only [RVs] at h
  obtain ⟨v, r, rfl, h1, w, r', rfl, h2, rfl⟩ := h
  exact ⟨v, w, rfl, h1, h2⟩
theorem rvs0 {T : Tx} {G : GS} {H : Hp} {vs : List V} (h : RVs T G H [] vs) : vs = [] := by simpa only [RVs] using h
/-- repr -/
def reprA : PN := fun as G Q => ∃ a d, as = [a] ∧ Dt G a d ∧ d.showable = true ∧ d.shown.length ≤ sizeLine ∧ d.depth ≤ 60 ∧ Q (.str d.shown) G
theorem c_repr (ok : T.Ok X) (hg : X.A.guards = some []) (hu : X.A.units + 64 < cLine) : CallR X (.builtin "repr") (lN T reprA) := by
  intro pins s σ H xs us Q I r h
  obtain ⟨as, G, Qa, rv, rg, ⟨a, d, rfl, h1, h2, h3, h4, hf⟩, q⟩ := h
  obtain ⟨v, rfl, ra⟩ := rvs1 rv
  obtain ⟨u, rfl, ru⟩ := vals1 r
  obtain ⟨bs, rd, na⟩ := dat_reads ok I rg h1 ra ru
  have fin : ∀ h' u' tk, (∀ b o, s.heap.get? b = some o → h'.get? b = some o) → EP X pins σ Q (.str d.shown u') { s with heap := h', toks := tk } := fun h' u' tk hk =>
    ⟨.str d.shown, H, I.kept hk, ⟨_, rfl⟩, q _ _ _ _ hf (rv_s _) rg Kp.refl⟩
  cases rd with
  | none => exact PySem.P.repr_of_none (fin s.heap _ _ fun _ _ e => e)
  | bool b => exact PySem.P.repr_of_bool (by cases b <;> exact fin s.heap _ _ fun _ _ e => e)
  | int i t => exact PySem.P.repr_of_int (by simpa [PyData.showable] using h2) (fin s.heap _ _ fun _ _ e => e)
  | str x t => exact PySem.P.repr_of_str (fin s.heap _ _ fun _ _ e => e) h3
  | list e1 e2 e3 e4 => exact repr_ref (.list e1 e2 e3 e4) h2 na hg (by omega) h3 fin
  | tuple e1 e2 e3 e4 => exact repr_ref (.tuple e1 e2 e3 e4) h2 na hg (by omega) h3 fin
  | dict e1 e2 e3 e4 e5 => exact repr_ref (.dict e1 e2 e3 e4 e5) h2 na hg (by omega) h3 fin
/-- the items of a list or a tuple -/
def seqOf (G : Gp) : A → Option (List A)
  | .tup xs => some xs
  | a => lstOf G a
theorem seqOf_rep {H : Hp} {G : GS} {a : A} {v : V} {xs : List A} (rg : RG T H G) (h : seqOf G a = some xs) (r : RV T G H a v) : ∃ p vs, v = .ref p ∧ (SqL T.K H p vs ∨ (TupAt T G H p vs ∧ a = .tup xs)) ∧ RVs T G H xs vs := by
  unfold seqOf at h
  split at h
  · rename_i ys
    cases h
    obtain ⟨p, vs, rfl, sq, rv⟩ := rv_tup r
    exact ⟨p, vs, rfl, .inr ⟨sq, rfl⟩, rv⟩
  · obtain ⟨p, vs, rfl, h1, r1⟩ := lstOf_rep rg h r
    exact ⟨p, vs, rfl, .inl (.of h1), r1⟩
def lenA : PN := fun as G Q => match as with
  | [.str x] => x.length ≤ sizeLine ∧ Q (.int x.length) G
  | [a] => ∃ xs, seqOf G a = some xs ∧ Q (.int xs.length) G
  | _ => False
theorem c_len (hT : T.K = X.K) : CallR X (.builtin "len") (lN T lenA) := by
  intro pins s σ H xs us Q I r ⟨as, G, Qa, rv, rg, hf, q⟩
  unfold lenA at hf
  split at hf
  · obtain ⟨v, rfl, ra⟩ := rvs1 rv
    obtain rfl := rv_str ra
    exact call_len pins s σ H _ us Q I r ⟨_, _, rfl, ⟨hf.1, rfl⟩, q _ _ _ _ hf.2 (rv_i _) rg Kp.refl⟩
  · obtain ⟨v, rfl, ra⟩ := rvs1 rv
    obtain ⟨ys, h1, hf⟩ := hf
    obtain ⟨p, vs, rfl, sq, rv'⟩ := seqOf_rep rg h1 ra
    refine call_len pins s σ H _ us Q I r ⟨_, _, rfl, ?_, q _ _ _ _ hf (rv_i _) rg Kp.refl⟩
    rcases sq with sq | sq
    · exact .inl ⟨vs, hT ▸ sq, rv'.len.symm⟩
    · exact .inr ⟨vs, hT ▸ sq.1.sq, rv'.len.symm⟩
  · exact hf.elim
def listA (m : Bool) : PN := fun as G Q => ∃ a xs, as = [a] ∧ seqOf G a = some xs ∧ new m (.lst xs) G Q
theorem c_list {m : Bool} (hT : T.K = X.K) : CallR X (.type "list") (lN T (listA m)) := by
  intro pins s σ H xs us Q I r h
  obtain ⟨as, G, Qa, rv, rg, ⟨a, ys, rfl, h1, hf⟩, q⟩ := h
  obtain ⟨v, rfl, ra⟩ := rvs1 rv
  obtain ⟨p, vs, rfl, sq, rv'⟩ := seqOf_rep rg h1 ra
  exact call_list_of pins s σ H _ us Q I r ⟨p, vs, rfl, hT ▸ sq.imp id (fun z => z.1.sq), fun l hl => new_lst rg rv' hf q hl⟩
def tupleA : PN := fun as G Q => ∃ a xs, as = [a] ∧ seqOf G a = some xs ∧ Q (.tup xs) G
theorem c_tuple (hT : T.K = X.K) : CallR X (.type "tuple") (lN T tupleA) := by
  intro pins s σ H xs us Q I r h
  obtain ⟨as, G, Qa, rv, rg, ⟨a, ys, rfl, h1, hf⟩, q⟩ := h
  obtain ⟨v, rfl, ra⟩ := rvs1 rv
  obtain ⟨p, vs, rfl, sq, rv'⟩ := seqOf_rep rg h1 ra
  refine call_tuple_of pins s σ H _ us Q I r ⟨p, vs, rfl, ?_⟩
  rcases sq with sq | sq
  · exact .inl ⟨hT ▸ sq, fun l hl => new_tup rg rv' hf q hl⟩
  · exact .inr ⟨hT ▸ sq.1.sq, q _ _ _ _ hf (rv_t sq.1 rv') rg Kp.refl⟩
def absA : PN := fun as G Q => ∃ i, as = [.int i] ∧ Q (.int (if i < 0 then -i else i)) G
theorem c_abs : CallR X (.builtin "abs") (lN T absA) := by
  intro pins s σ H xs us Q I r h
  obtain ⟨as, G, Qa, rv, rg, ⟨i, rfl, hf⟩, q⟩ := h
  obtain ⟨v, rfl, ra⟩ := rvs1 rv
  obtain rfl := rv_int ra
  exact call_abs pins s σ H _ us Q I r ⟨i, rfl, q _ _ _ _ hf (rv_i _) rg Kp.refl⟩
def intOfA : PN := fun as G Q => match as with
  | [.int i] => Q (.int i) G
  | [.bl b] => Q (.int (if b then 1 else 0)) G
  | _ => False
theorem c_int : CallR X (.type "int") (lN T intOfA) := by
  intro pins s σ H xs us Q I r ⟨as, G, Qa, rv, rg, hf, q⟩
  unfold intOfA at hf
  split at hf
  · obtain ⟨v, rfl, ra⟩ := rvs1 rv
    obtain rfl := rv_int ra
    exact call_int1 pins s σ H _ us Q I r (.inl ⟨_, rfl, q _ _ _ _ hf (rv_i _) rg Kp.refl⟩)
  · obtain ⟨v, rfl, ra⟩ := rvs1 rv
    obtain rfl : v = .bl _ := by simpa only [RV] using ra
    exact call_int1 pins s σ H _ us Q I r (.inr ⟨_, rfl, q _ _ _ _ hf (rv_i _) rg Kp.refl⟩)
  · exact hf.elim
/-- all, any of a list of truths -/
def allA (f : List Bool → Bool) : PN := fun as G Q => ∃ a bs, as = [a] ∧ lstOf G a = some (bs.map A.bl) ∧ Q (.bl (f bs)) G
theorem rvs_bls {T : Tx} {G : GS} {H : Hp} : ∀ {bs : List Bool} {vs : List V}, RVs T G H (bs.map A.bl) vs → vs = bs.map V.bl
  | [], vs, h => rvs0 h
  | b :: bs, vs, h => by
    rw [List.map_cons] at h
    simp only [RVs] at h
    obtain ⟨v, r, rfl, h1, h2⟩ := h
    simp only [RV] at h1
    rw [h1, rvs_bls h2]; rfl
theorem c_all (hT : T.K = X.K) (hc : X.calm = true) : CallR X (.builtin "all") (lN T (allA (·.all id))) := by
  intro pins s σ H xs us Q I r h
  obtain ⟨as, G, Qa, rv, rg, ⟨a, bs, rfl, h1, hf⟩, q⟩ := h
  obtain ⟨v, rfl, ra⟩ := rvs1 rv
  obtain ⟨p, vs, rfl, sq, rv'⟩ := lstOf_rep rg h1 ra
  obtain rfl := rvs_bls rv'
  exact cr_all hc pins s σ H _ us Q I r ⟨p, bs, rfl, .of sq, q _ _ _ _ hf (rv_b _) rg Kp.refl⟩
theorem c_any (hT : T.K = X.K) (hc : X.calm = true) : CallR X (.builtin "any") (lN T (allA (·.any id))) := by
  intro pins s σ H xs us Q I r h
  obtain ⟨as, G, Qa, rv, rg, ⟨a, bs, rfl, h1, hf⟩, q⟩ := h
  obtain ⟨v, rfl, ra⟩ := rvs1 rv
  obtain ⟨p, vs, rfl, sq, rv'⟩ := lstOf_rep rg h1 ra
  obtain rfl := rvs_bls rv'
  exact cr_any hc pins s σ H _ us Q I r ⟨p, bs, rfl, .of sq, q _ _ _ _ hf (rv_b _) rg Kp.refl⟩
/-! ### subscripts -/
def ixA : P2 := fun a b G Q => match b with
  | .int i => match a with
    | .str z => z.length ≤ sizeLine ∧ ∃ c, atI z.cps.toList i = some c ∧ Q (.str ⟨#[c]⟩) G
    | a => ∃ xs x, seqOf G a = some xs ∧ atI xs i = some x ∧ Q x G
  | _ => False
theorem atI_rep {T : Tx} {G : GS} {H : Hp} {xs : List A} {vs : List V} {i : Int} {x : A} (r : RVs T G H xs vs) (h : atI xs i = some x) : ∃ v, atI vs i = some v ∧ RV T G H x v := by
  unfold atI at *
  rw [r.len]
  cases e : ixN xs.length i with
  | none => rw [e] at h; cases h
  | some j =>
    rw [e] at h
    obtain ⟨v, e1, r1⟩ := r.get (i := j) h
    exact ⟨v, e1, r1⟩
theorem p_ix (hT : T.K = X.K) (ha : PE X a (lE T W ta)) (hb : PE X b (lE T W tb)) (hs : PlainIx b) : PE X (.Subscript a b pos) (lE T W (eBin ixA ta tb)) := by
  refine PE.imp (pe_ix ix_seq ha hb hs) fun σ H Q ⟨ς, G, Qa, Xa, rs, rg, h, q, hx⟩ => ⟨ς, G, _, Xa, rs, rg, h, fun x G1 v H1 h1 rv rg1 k1 => ?_, hx⟩
  refine ⟨ς, G1, _, Xa, rs.mono k1, rg1, h1, fun y G2 w H2 h2 rw' rg2 k2 => ?_, hx.step k1⟩
  show rIx X.K v w H2 Q
  have rv2 := rv.mono k2
  have q2 := q.step (k1.trans k2)
  cases y with
  | int i => ?_
  | _ => exact False.elim h2
  obtain rfl := rv_int rw'
  have sq_case : (∃ xs x', seqOf G2 x = some xs ∧ atI xs i = some x' ∧ Qa x' G2) → rIx X.K v (.int i) H2 Q := fun ⟨xs, x', e1, e2, h2⟩ => by
    obtain ⟨p, vs, rfl, sq, rvs⟩ := seqOf_rep rg2 e1 rv2
    obtain ⟨v', e3, r3⟩ := atI_rep rvs e2
    rcases sq with sq | sq
    · exact .inl ⟨p, vs, i, v', rfl, rfl, hT ▸ sq, e3, q2 _ _ _ _ h2 r3 rg2 Kp.refl⟩
    · exact .inr (.inl ⟨p, vs, i, v', rfl, rfl, hT ▸ sq.1.sq, e3, q2 _ _ _ _ h2 r3 rg2 Kp.refl⟩)
  cases x with
  | str z =>
    obtain ⟨hz, c, e, h2⟩ := h2
    exact .inr (.inr ⟨z, i, c, rv_str rv2, rfl, hz, e, q2 _ _ _ _ h2 (rv_s _) rg2 Kp.refl⟩)
  | _ => exact sq_case h2
/-! slices -/
abbrev OA := En → Gp → (Option Int → Gp → Prop) → KX → Prop
def oNo : OA := fun _ G Q _ => Q none G
def oSome (t : EA) : OA := fun ς G Q X => t ς G (fun x G1 => match x with
  | .int i => Q (some i) G1
  | _ => False) X
def lO (T : Tx) (W : L2.WX) (t : OA) : TO := fun σ H Q => ∃ ς, ∃ G : GS, ∃ Qa Xa, RS T G H ς σ ∧ RG T H G ∧ t ς G Qa Xa ∧ (∀ i (G' : GS) H', Qa i G' → RG T H' G' → Kp G H G' H' → Q i H') ∧ LX T G H Xa (WE W σ)
theorem PO.imp {X : Cx} {e : Option Expr} {t t' : TO} (p : PO X e t) (h : ∀ σ H Q, t' σ H Q → t σ H Q) : PO X e t' := ⟨fun pins s σ H Q I q => p.run pins s σ H Q I (h σ H Q q)⟩
theorem o_no : PO X none (lO T W oNo) := PO.imp po_none fun σ H Q ⟨ς, G, Qa, Xa, rs, rg, h, q, hx⟩ => q _ _ _ h rg Kp.refl
theorem o_some (ha : PE X a (lE T W ta)) : PO X (some a) (lO T W (oSome ta)) := by
  refine PO.imp (po_some ha) fun σ H Q ⟨ς, G, Qa, Xa, rs, rg, h, q, hx⟩ => ⟨ς, G, _, Xa, rs, rg, h, fun x G1 v H1 h1 rv rg1 k1 => ?_, hx⟩
  cases x with
  | int i => exact ⟨i, rv_int rv, q _ _ _ h1 rg1 k1⟩
  | _ => exact False.elim h1
def cutA {α : Type} (xs : List α) (lo hi : Option Int) : List α := (xs.drop (HT.sIx xs.length 0 lo)).take (HT.sIx xs.length xs.length hi - HT.sIx xs.length 0 lo)
def slA (m : Bool) (a : A) (lo hi : Option Int) (G : Gp) (Q : KA) : Prop := match a with
  | .str z => z.length ≤ sizeLine ∧ Q (.str (L2.cutS z lo hi)) G
  | .tup xs => Q (.tup (cutA xs lo hi)) G
  | .scr xs => new m (.lst (cutA xs lo hi)) G Q
  | a => ∃ xs, lstOf G a = some xs ∧ new m (.lst (cutA xs lo hi)) G Q
def eSl (m : Bool) (ta : EA) (lo hi : OA) : EA := fun ς G Q X => ta ς G (fun x G1 => lo ς G1 (fun i G2 => hi ς G2 (fun j G3 => slA m x i j G3 Q) X) X) X
theorem cut_rep {T : Tx} {G : GS} {H : Hp} {xs : List A} {vs : List V} {i j : Option Int} (r : RVs T G H xs vs) : RVs T G H (cutA xs i j) (cutV vs i j) := by
  unfold cutA cutV
  rw [r.len]
  exact (r.drop _).take _
end
end Q
/-! Q7: slices, methods, isinstance. -/
namespace Q
open PySem PySem.Spec PyProof.Rows L2
section
variable {X : Cx} {T : Tx} {W : L2.WX} {a b e o : Expr} {es : List Expr} {ta tb to : EA} {t : LA} {pos p2 : Pos}
theorem s_any {m : Bool} (hT : T.K = X.K) : SlR X (fun x lo hi H Q => ∃ a, ∃ G : GS, ∃ Qa, RV T G H a x ∧ RG T H G ∧ slA m a lo hi G Qa ∧ LQ T G H Qa Q) := by
  intro pins s σ H x v vl vu lo hi sl Q I rx hs pl pu h
  obtain ⟨a, G, Qa, ra, rg, h, q⟩ := h
  have lst : (∃ xs, lstOf G a = some xs ∧ new m (.lst (cutA xs lo hi)) G Qa) → rSlL X.K x lo hi H Q := fun ⟨xs, e, n⟩ => by
    obtain ⟨p, vs, rfl, sq, rv⟩ := lstOf_rep rg e ra
    exact ⟨p, vs, rfl, .of sq, fun p hp => new_lst rg (cut_rep rv) n q hp⟩
  cases a with
  | str z => exact sl_str pins s σ H x v vl vu lo hi sl Q I rx hs pl pu ⟨z, rv_str ra, h.1, q _ _ _ _ h.2 (rv_s _) rg Kp.refl⟩
  | tup xs =>
    obtain ⟨p, vs, rfl, sq, rv⟩ := rv_tup ra
    have hl := rv.len
    refine sl_tupA pins s σ H _ v vl vu lo hi sl Q I rx hs pl pu ⟨p, vs, rfl, hT ▸ sq.sq, fun ⟨h1, h2⟩ => ?_, fun _ p hp => new_tup rg (cut_rep rv) h q hp⟩
    have e : cutA xs lo hi = xs := by
      unfold cutA
      rw [hl] at h1 h2
      rw [h1, h2]; simp
    have h' : Qa (.tup (cutA xs lo hi)) G := h
    rw [e] at h'
    exact q _ _ _ _ h' ra rg Kp.refl
  | scr xs =>
    simp only [RV] at ra
    obtain ⟨p, vs, rfl, sq, rv⟩ := ra
    exact sl_list pins s σ H _ v vl vu lo hi sl Q I rx hs pl pu ⟨p, vs, rfl, hT ▸ sq.sq, fun p hp => new_lst rg (cut_rep rv) h q hp⟩
  | _ => exact sl_list pins s σ H x v vl vu lo hi sl Q I rx hs pl pu (lst h)
theorem p_sl {m : Bool} {tl th : OA} {lo hi : Option Expr} (hT : T.K = X.K) (ha : PE X a (lE T W ta)) (hl : PO X lo (lO T W tl)) (hh : PO X hi (lO T W th)) : PE X (.Subscript a (.Slice lo hi none p2) pos) (lE T W (eSl m ta tl th)) := by
  refine PE.imp (pe_slice (s_any (m := m) hT) ha hl hh) fun σ H Q ⟨ς, G, Qa, Xa, rs, rg, h, q, hx⟩ => ⟨ς, G, _, Xa, rs, rg, h, fun x G1 v H1 h1 rv rg1 k1 => ?_, hx⟩
  refine ⟨ς, G1, _, Xa, rs.mono k1, rg1, h1, fun i G2 H2 h2 rg2 k2 => ?_, hx.step k1⟩
  have k12 := k1.trans k2
  refine ⟨ς, G2, _, Xa, rs.mono k12, rg2, h2, fun j G3 H3 h3 rg3 k3 => ?_, hx.step k12⟩
  exact ⟨x, G3, Qa, rv.mono (k2.trans k3), rg3, h3, q.step (k12.trans k3)⟩
def eRev (m : Bool) (ta : EA) : EA := fun ς G Q X => ta ς G (fun x G1 => ∃ xs, lstOf G1 x = some xs ∧ new m (.lst xs.reverse) G1 Q) X
theorem p_rev {m : Bool} {k : Nat} {p1 p2 p3 : Pos} (hT : T.K = X.K) (ha : PE X a (lE T W ta)) : PE X (.Subscript a (.Slice none none (some (.UnaryOp .USub (.Constant (.int 1) k p1) p2)) p3) pos) (lE T W (eRev m ta)) := by
  refine PE.imp (pe_revL ha) fun σ H Q ⟨ς, G, Qa, Xa, rs, rg, h, q, hx⟩ => ⟨ς, G, _, Xa, rs, rg, h, fun x G1 v H1 h1 rv rg1 k1 => ?_, hx⟩
  obtain ⟨xs, e, n⟩ := h1
  obtain ⟨p, vs, rfl, sq, rv⟩ := lstOf_rep rg1 e rv
  exact ⟨p, vs, rfl, .of sq, fun p hp => new_lst rg1 rv.reverse n (q.step k1) hp⟩
/-! ### methods of built-in types -/
def tyA (n : String) (G : Gp) : A → Prop
  | .str _ => n = "str"
  | .fro _ => n = "list"
  | .fdc _ _ => n = "dict"
  | .ref p => (n = "list" ∧ ∃ xs, G p = some (.lst xs)) ∨ (n = "dict" ∧ ∃ kvs, G p = some (.dct kvs))
  | _ => False
theorem tyA_rep {n : String} {G : GS} {H : Hp} {a : A} {v : V} (hT : T.K = X.K) (rg : RG T H G) (r : RV T G H a v) (h : tyA n G a) : tyV X.K n v H := by
  cases a with
  | str z => obtain rfl := rv_str r; exact h
  | fro xs =>
    simp only [RV] at r
    obtain ⟨p, vs, rfl, _, sq, _⟩ := r
    exact .inl ⟨h, vs, .of sq⟩
  | fdc ks xs =>
    simp only [RV] at r
    obtain ⟨p, vs, rfl, _, _, sq⟩ := r
    rcases sq with ⟨qs, e, _⟩ | ⟨qs, e, _⟩
    · exact .inr (.inr (.inl ⟨h, .inl ⟨qs, e⟩⟩))
    · exact .inr (.inr (.inl ⟨h, .inr ⟨qs, e⟩⟩))
  | ref p =>
    obtain rfl := rv_ref r
    rcases h with ⟨e, xs, h⟩ | ⟨e, kvs, h⟩
    · obtain ⟨vs, h1, _⟩ := rg p _ h
      exact .inl ⟨e, vs, .of h1⟩
    · rcases rg p _ h with ⟨qs, h1, _⟩ | ⟨qs, h1, _⟩
      · exact .inr (.inr (.inl ⟨e, .inl ⟨qs, h1⟩⟩))
      · exact .inr (.inr (.inl ⟨e, .inr ⟨qs, h1⟩⟩))
  | _ => exact False.elim h
def eM (n : String) (f : A → PN) (to : EA) (t : LA) : EA := fun ς G Q X => to ς G (fun x G1 => tyA n G1 x ∧ t ς G1 (fun as G2 => f x as G2 Q) X) X
theorem p_m {n id : String} {name : Str} {apos : Pos} {f : A → PN} (hT : T.K = X.K) (pa : PlainAttrs n) (slot : Slot n name id) (hty : typeOf (.builtin id) = pure (.type "method_descriptor")) (hm : MtR X id (lM T f)) (ho : PE X o (lE T W to)) (ha : PA X (e :: es) (lL T W t))
    (hbase : attributeBase o name X.env (eval o X.env) = eval o X.env)
    (hfew : ((backTo pos (starEach (e :: es) X.env)).all (fun x => !x.1) && (backToKw pos (keywordEach [] X.env)).all (fun x => x.1.isSome) && decide ((e :: es).length + ([] : List Keyword).length + (if ([] : List Keyword).isEmpty then 0 else 1) < 30)) = true)
    (hline : (apos.endLine == pos.line) = true) (hs : starEach (e :: es) X.env = (false, eval e X.env) :: starEach es X.env) (hplain : (backTo pos (starEach es X.env)).any (·.1) = false) :
    PE X (.Call (.Attribute o name apos) (e :: es) [] pos) (lE T W (eM n f to t)) := by
  refine PE.imp (pe_bm pa slot hty hm ho ha hbase hfew hline hs hplain) fun σ H Q ⟨ς, G, Qa, Xa, rs, rg, h, q, hx⟩ => ⟨ς, G, _, Xa, rs, rg, h, fun x G1 v H1 h1 rv rg1 k1 => ?_, hx⟩
  exact ⟨tyA_rep hT rg1 rv h1.1, ς, G1, _, Xa, rs.mono k1, rg1, h1.2, fun as G2 vs H2 h2 rvs rg2 k2 => ⟨x, as, G2, Qa, rv.mono k2, rvs, rg2, h2, q.step (k1.trans k2)⟩, hx.step k1⟩
theorem p_m0 {n id : String} {name : Str} {apos : Pos} {f : A → PN} (hT : T.K = X.K) (pa : PlainAttrs n) (slot : Slot n name id) (hty : typeOf (.builtin id) = pure (.type "method_descriptor")) (hm : MtR X id (lM T f)) (ho : PE X o (lE T W to))
    (hbase : attributeBase o name X.env (eval o X.env) = eval o X.env) (hline : (apos.endLine == pos.line) = true) : PE X (.Call (.Attribute o name apos) [] [] pos) (lE T W (eM n f to lNil)) := by
  refine PE.imp (pe_bm0 pa slot hty hm ho hbase hline) fun σ H Q ⟨ς, G, Qa, Xa, rs, rg, h, q, hx⟩ => ⟨ς, G, _, Xa, rs, rg, h, fun x G1 v H1 h1 rv rg1 k1 => ?_, hx⟩
  exact ⟨tyA_rep hT rg1 rv h1.1, x, [], G1, Qa, rv, rfl, rg1, h1.2, q.step k1⟩
/-! what they do -/
def wr (p : Addr) (o : O) (G : Gp) (Q : KA) : Prop := Q .non (up G p o)
theorem wr_lst {G1 : GS} {H1 : Hp} {p : Addr} {xs as : List A} {vs ws : List V} {Qa : KA} {Q : VK} (rg1 : RG T H1 G1) (hp : G1 p = some (.lst xs)) (hv : H1 p = some (.lst ws)) (rv : RVs T G1 H1 as vs) (h : wr p (.lst as) G1 Qa) (q : LQ T G1 H1 Qa Q) : Q .non (upd H1 p (.lst vs)) := by
  have k : Kp G1 H1 (G1.up p (.lst as)) (upd H1 p (.lst vs)) := Kp.wr (by rw [hp]; simp)
  exact q _ (G1.up p (.lst as)) _ _ h rv_n (rg1.up k ⟨vs, upd_same, rv.mono k⟩) k
def appendA : A → PN := fun a as G Q => ∃ p xs y, a = .ref p ∧ as = [y] ∧ G p = some (.lst xs) ∧ xs.length < sizeLine ∧ wr p (.lst (xs ++ [y])) G Q
theorem m_append : MtR X "list.append" (lM T appendA) := by
  intro pins s σ H x xs v us Q I rx rs h
  obtain ⟨a, as, G, Qa, ra, rv, rg, ⟨p, ys, y, rfl, rfl, e, hz, h⟩, q⟩ := h
  obtain ⟨v1, rfl, r1⟩ := rvs1 rv
  obtain ⟨vs, h1, r2⟩ := rg p _ e
  exact mt_append pins s σ H x _ v us Q I rx rs ⟨p, vs, v1, rv_ref ra, rfl, h1, by rw [r2.len]; exact hz, wr_lst rg e h1 (r2.app (.one r1)) h q⟩
def insertA : A → PN := fun a as G Q => ∃ p xs i y, a = .ref p ∧ as = [.int i, y] ∧ G p = some (.lst xs) ∧ xs.length < sizeLine ∧ 0 ≤ i ∧ i < 2 ^ 63 ∧ wr p (.lst (xs.take i.toNat ++ [y] ++ xs.drop i.toNat)) G Q
theorem m_insert : MtR X "list.insert" (lM T insertA) := by
  intro pins s σ H x xs v us Q I rx rs h
  obtain ⟨a, as, G, Qa, ra, rv, rg, ⟨p, ys, i, y, rfl, rfl, e, hz, i0, i1, h⟩, q⟩ := h
  obtain ⟨v1, v2, rfl, r1, r1'⟩ := rvs2 rv
  obtain rfl := rv_int r1
  obtain ⟨vs, h1, r2⟩ := rg p _ e
  exact mt_insert pins s σ H x _ v us Q I rx rs ⟨p, vs, i, v2, rv_ref ra, rfl, h1, by rw [r2.len]; exact hz, i0, i1, wr_lst rg e h1 (((r2.take _).app (.one r1')).app (r2.drop _)) h q⟩
def reverseA : A → PN := fun a as G Q => ∃ p xs, a = .ref p ∧ as = [] ∧ G p = some (.lst xs) ∧ wr p (.lst xs.reverse) G Q
theorem m_reverse : MtR X "list.reverse" (lM T reverseA) := by
  intro pins s σ H x xs v us Q I rx rs h
  obtain ⟨a, as, G, Qa, ra, rv, rg, ⟨p, ys, rfl, rfl, e, h⟩, q⟩ := h
  obtain rfl := rvs0 rv
  obtain ⟨vs, h1, r2⟩ := rg p _ e
  exact mt_reverse pins s σ H x _ v us Q I rx rs ⟨p, vs, rv_ref ra, rfl, h1, wr_lst rg e h1 r2.reverse h q⟩
def clearA : A → PN := fun a as G Q => ∃ p xs, a = .ref p ∧ as = [] ∧ G p = some (.lst xs) ∧ wr p (.lst []) G Q
theorem m_clear : MtR X "list.clear" (lM T clearA) := by
  intro pins s σ H x xs v us Q I rx rs h
  obtain ⟨a, as, G, Qa, ra, rv, rg, ⟨p, ys, rfl, rfl, e, h⟩, q⟩ := h
  obtain rfl := rvs0 rv
  obtain ⟨vs, h1, r2⟩ := rg p _ e
  exact mt_clear pins s σ H x _ v us Q I rx rs ⟨p, vs, rv_ref ra, rfl, h1, wr_lst (vs := []) rg e h1 (by simp only [RVs]) h q⟩
def extendA : A → PN := fun a as G Q => ∃ p b xs ys, a = .ref p ∧ as = [b] ∧ G p = some (.lst xs) ∧ lstOf G b = some ys ∧ xs.length + ys.length ≤ sizeLine ∧ wr p (.lst (xs ++ ys)) G Q
theorem m_extend : MtR X "list.extend" (lM T extendA) := by
  intro pins s σ H x xs v us Q I rx rs h
  obtain ⟨a, as, G, Qa, ra, rv, rg, ⟨p, b, zs, ys, rfl, rfl, e, e2, hz, h⟩, q⟩ := h
  obtain ⟨v1, rfl, r1⟩ := rvs1 rv
  obtain ⟨vs, h1, r2⟩ := rg p _ e
  obtain ⟨p2, ws, rfl, h3, r4⟩ := lstOf_rep rg e2 r1
  exact mt_extend pins s σ H x _ v us Q I rx rs ⟨p, p2, vs, ws, rv_ref ra, rfl, h1, h3, by rw [r2.len, r4.len]; exact hz, wr_lst rg e h1 (r2.app r4) h q⟩
/-- a text's truth tests -/
def strB (f : Str → Bool) : A → PN := fun a as G Q => ∃ z, a = .str z ∧ as = [] ∧ Q (.bl (f z)) G
theorem m_strB {id : String} {f : Str → Bool} (h : MtR X id (fun x xs H Q => ∃ a, x = .str a ∧ xs = [] ∧ True ∧ Q (.bl (f a)) H)) : MtR X id (lM T (strB f)) := by
  intro pins s σ H x xs v us Q I rx rs hh
  obtain ⟨a, as, G, Qa, ra, rv, rg, ⟨z, rfl, rfl, hf⟩, q⟩ := hh
  obtain rfl := rvs0 rv
  exact h pins s σ H x _ v us Q I rx rs ⟨z, rv_str ra, rfl, trivial, q _ _ _ _ hf (rv_b _) rg Kp.refl⟩
def upperA : A → PN := fun a as G Q => ∃ z, a = .str z ∧ as = [] ∧ z.length ≤ 5592405 ∧ Q (.str (Txt.upper z)) G
theorem m_upper : MtR X "str.upper" (lM T upperA) := by
  intro pins s σ H x xs v us Q I rx rs hh
  obtain ⟨a, as, G, Qa, ra, rv, rg, ⟨z, rfl, rfl, hz, hf⟩, q⟩ := hh
  obtain rfl := rvs0 rv
  exact mt_upper pins s σ H x _ v us Q I rx rs ⟨z, rv_str ra, rfl, hz, q _ _ _ _ hf (rv_s _) rg Kp.refl⟩
theorem rvs_strs {T : Tx} {G : GS} {H : Hp} : ∀ zs : List Str, RVs T G H (zs.map A.str) (zs.map V.str)
  | [] => rfl
  | z :: zs => .cons (rv_s z) (rvs_strs zs)
theorem rvs_strs' {T : Tx} {G : GS} {H : Hp} : ∀ {zs : List Str} {vs : List V}, RVs T G H (zs.map A.str) vs → vs = zs.map V.str
  | [], vs, h => rvs0 h
  | z :: zs, vs, h => by
    rw [List.map_cons] at h
    simp only [RVs] at h
    obtain ⟨v, r, rfl, h1, h2⟩ := h
    simp only [RV] at h1
    rw [h1, rvs_strs' h2]; rfl
def splitA (m : Bool) : A → PN := fun a as G Q => ∃ z y, a = .str z ∧ as = [.str y] ∧ (y.length == 0) = false ∧ z.length + 2 ≤ sizeLine ∧ new m (.lst ((Txt.split z y).map A.str)) G Q
theorem m_split {m : Bool} : MtR X "str.split" (lM T (splitA m)) := by
  intro pins s σ H x xs v us Q I rx rs hh
  obtain ⟨a, as, G, Qa, ra, rv, rg, ⟨z, y, rfl, rfl, h0, hz, hf⟩, q⟩ := hh
  obtain ⟨v1, rfl, r1⟩ := rvs1 rv
  obtain rfl := rv_str r1
  exact mt_split pins s σ H x _ v us Q I rx rs ⟨z, y, rv_str ra, rfl, h0, hz, fun p hp => new_lst rg (rvs_strs _) hf q hp⟩
def joinA : A → PN := fun a as G Q => ∃ z b ys, a = .str z ∧ as = [b] ∧ seqOf G b = some (ys.map A.str) ∧ (ys.map (·.length)).sum + ys.length * z.length ≤ 16777216 ∧ Q (.str (Txt.join z ys)) G
theorem m_join (hT : T.K = X.K) : MtR X "str.join" (lM T joinA) := by
  intro pins s σ H x xs v us Q I rx rs hh
  obtain ⟨a, as, G, Qa, ra, rv, rg, ⟨z, b, ys, rfl, rfl, e, hz, hf⟩, q⟩ := hh
  obtain ⟨v1, rfl, r1⟩ := rvs1 rv
  obtain ⟨p, vs, rfl, sq, rvs⟩ := seqOf_rep rg e r1
  obtain rfl := rvs_strs' rvs
  exact mt_join pins s σ H x _ v us Q I rx rs ⟨z, p, ys, rv_str ra, rfl, hT ▸ sq.imp id (fun z => z.1.sq), hz, q _ _ _ _ hf (rv_s _) rg Kp.refl⟩
/-! ### isinstance of built-in types -/
def tyName (G : Gp) : A → Option String
  | .scr _ => none
  | .fin _ _ _ => none
  | .exn _ _ _ => none
  | .non => some "NoneType"
  | .bl _ => some "bool"
  | .int _ => some "int"
  | .str _ => some "str"
  | .tup _ => some "tuple"
  | .fro _ => some "list"
  | .fdc _ _ => some "dict"
  | .ref p => match G p with
    | some (.lst _) => some "list"
    | some (.dct _) => some "dict"
    | _ => none
def isiB (n : String) (ts : List String) : Bool := ts.any fun t => n == t || (n == "bool" && t == "int")
def eIsi (ta : EA) (ts : List String) : EA := fun ς G Q X => ta ς G (fun x G1 => ∃ n, tyName G1 x = some n ∧ Q (.bl (isiB n ts)) G1) X
def okTy (t : String) : Bool := ["int", "bool", "str", "tuple", "list", "dict"].contains t
theorem tyName_mem {G : Gp} {a : A} {n : String} (h : tyName G a = some n) : n ∈ ["NoneType", "bool", "int", "str", "tuple", "list", "dict"] := by
  cases a with
  | ref p => simp only [tyName] at h; split at h <;> first | (cases h; decide) | cases h
  | scr _ => simp [tyName] at h
  | fin _ _ _ => simp [tyName] at h
  | exn _ _ _ => simp [tyName] at h
  | _ => simp only [tyName, Option.some.injEq] at h; subst h; decide
theorem kits : (["NoneType", "bool", "int", "str", "tuple", "list", "dict"].all fun n => ["int", "bool", "str", "tuple", "list", "dict"].all fun t => L2.kitB n t == some (n == t || (n == "bool" && t == "int"))) = true := by decide +kernel
theorem kit_one {K : PySem.W.Frag} {n t : String} (hn : n ∈ ["NoneType", "bool", "int", "str", "tuple", "list", "dict"]) (ht : okTy t = true) : PySem.W.kitOne K (.type n) (.type t) = some (n == t || (n == "bool" && t == "int")) := by
  have h := List.all_eq_true.mp (List.all_eq_true.mp kits n hn) t (by simpa [okTy] using ht)
  exact L2.kit_ty (by simpa using h)
theorem tyName_rep {H : Hp} {G : GS} {a : A} {v : V} {n : String} (hT : T.K = X.K) (rg : RG T H G) (h : tyName G a = some n) (r : RV T G H a v) : TyX X.K H v (.type n) := by
  cases a with
  | non => simp only [tyName, Option.some.injEq] at h; subst h; simp only [RV] at r; subst r; exact .base .non
  | bl b => simp only [tyName, Option.some.injEq] at h; subst h; simp only [RV] at r; subst r; exact .base (.bl _)
  | int b => simp only [tyName, Option.some.injEq] at h; subst h; obtain rfl := rv_int r; exact .base (.int _)
  | str b => simp only [tyName, Option.some.injEq] at h; subst h; obtain rfl := rv_str r; exact .base (.str _)
  | tup xs =>
    simp only [tyName, Option.some.injEq] at h; subst h
    obtain ⟨p, vs, rfl, sq, _⟩ := rv_tup r
    rcases sq.sq with (sq | ⟨o, sq⟩) | ⟨o, its, m, sq, c, _⟩
    · exact .base (.tup sq)
    · exact .fTuple sq
    · exact .kTuple (hT ▸ sq) c
  | fro xs =>
    simp only [tyName, Option.some.injEq] at h; subst h
    simp only [RV] at r
    obtain ⟨p, vs, rfl, _, sq, _⟩ := r
    exact .base (.lst sq)
  | fdc ks xs =>
    simp only [tyName, Option.some.injEq] at h; subst h
    simp only [RV] at r
    obtain ⟨p, vs, rfl, _, _, sq⟩ := r
    rcases sq with ⟨qs, e, _⟩ | ⟨qs, e, _⟩
    · exact .base (.dK e)
    · exact .base (.dT e)
  | scr _ => simp [tyName] at h
  | fin _ _ _ => simp [tyName] at h
  | exn _ _ _ => simp [tyName] at h
  | ref p =>
    obtain rfl := rv_ref r
    simp only [tyName] at h
    split at h
    · rename_i xs e; cases h
      obtain ⟨vs, h1, _⟩ := rg p _ e
      exact .base (.lst h1)
    · rename_i xs e; cases h
      rcases rg p _ e with ⟨qs, h1, _⟩ | ⟨qs, h1, _⟩
      · exact .base (.dK h1)
      · exact .base (.dT h1)
    · cases h
theorem p_isi1 {n : Str} {m : String} {pi pt : Pos} (hT : T.K = X.K) (he : PE X e (lE T W ta)) (hg : Gl X "isinstance") (hm : X.mg "isinstance" = none) (gn : Gl X n) (mn : X.mg n = none) (hv : bootBuiltins n = some (.type m)) (ht : okTy m = true) (hn : n ≠ "__name__") (hdb : (n == ("__debug__" : Str)) = false)
    (hs : starEach [e, .Name n pt] X.env = (false, eval e X.env) :: starEach [.Name n pt] X.env) : PE X (.Call (.Name "isinstance" pi) [e, .Name n pt] [] pos) (lE T W (eIsi ta [m])) := by
  refine PE.imp (pe_callB call_isi hg hm boot_isinstance (pa_cons he (pa_cons (pe_bltn (v := .ty m) gn mn hv rfl hn hdb) pa_nil) hs) (by decide) (by decide) hs rfl) fun σ H Q ⟨ς, G, Qa, Xa, rs, rg, h, q, hx⟩ => ⟨ς, G, _, Xa, rs, rg, h, fun x G1 v H1 h1 rv rg1 k1 => ?_, hx⟩
  obtain ⟨k, e1, h1⟩ := h1
  refine ⟨v, .ty m, .type k, .type m, _, rfl, .ty m, tyName_rep hT rg1 e1 rv, kit_one (tyName_mem e1) ht, ?_⟩
  have z : isiB k [m] = (k == m || (k == "bool" && m == "int")) := by simp [isiB]
  rw [← z]
  exact q _ _ _ _ h1 (rv_b _) rg1 k1
theorem p_isi2 {n n' : Str} {m m' : String} {x1 : Nat} {pi pt pt' pp : Pos} (hT : T.K = X.K) (he : PE X e (lE T W ta)) (hg : Gl X "isinstance") (hm : X.mg "isinstance" = none) (gn : Gl X n) (mn : X.mg n = none) (hv : bootBuiltins n = some (.type m)) (ht : okTy m = true) (hn : n ≠ "__name__") (hdb : (n == ("__debug__" : Str)) = false)
    (gn' : Gl X n') (mn' : X.mg n' = none) (hv' : bootBuiltins n' = some (.type m')) (ht' : okTy m' = true) (hn' : n' ≠ "__name__") (hdb' : (n' == ("__debug__" : Str)) = false)
    (hs : starEach [e, .Tuple [.Name n pt, .Name n' pt'] x1 pp] X.env = (false, eval e X.env) :: starEach [.Tuple [.Name n pt, .Name n' pt'] x1 pp] X.env) :
    PE X (.Call (.Name "isinstance" pi) [e, .Tuple [.Name n pt, .Name n' pt'] x1 pp] [] pos) (lE T W (eIsi ta [m, m'])) := by
  refine PE.imp (pe_callB call_isiT hg hm boot_isinstance (pa_cons he (pa_cons (pe_tup (pa_cons (pe_bltn (v := .ty m) gn mn hv rfl hn hdb) (pa_cons (pe_bltn (v := .ty m') gn' mn' hv' rfl hn' hdb') pa_nil))) pa_nil) hs) (by decide) (by decide) hs rfl) fun σ H Q ⟨ς, G, Qa, Xa, rs, rg, h, q, hx⟩ => ⟨ς, G, _, Xa, rs, rg, h, fun x G1 v H1 h1 rv rg1 k1 => ?_, hx⟩
  obtain ⟨k, e1, h1⟩ := h1
  refine ⟨by show 2 ≤ sizeLine; decide, fun p hp => ?_⟩
  refine ⟨v, p, [.ty m, .ty m'], .type k, [.type m, .type m'], _, rfl, upd_same, .cons (.ty m) (.cons (.ty m') .nil), tyName_rep (X := X) hT (rg1.newT hp) e1 (rv.mono (Kp.newT hp)), ?_, q _ (G1.fx p) _ _ h1 (rv_b _) (rg1.newT hp) (k1.trans (Kp.newT hp))⟩
  have z : isiB k [m, m'] = ((k == m || (k == "bool" && m == "int")) || (k == m' || (k == "bool" && m' == "int"))) := by simp [isiB]
  rw [z]
  refine kitAny_cons (kit_one (tyName_mem e1) ht) (fun hb => ?_) (fun hb => by rw [hb]; rfl)
  rw [hb, Bool.false_or]
  refine kitAny_cons (kit_one (tyName_mem e1) ht') (fun hb => by rw [hb]; exact kitAny_nil) (fun hb => hb)
end
end Q
/-! Q8: statements, loops, comprehensions. -/
namespace Q
open PySem PySem.Spec PyProof.Rows L2
structure LF (T : Tx) (G : GS) (H : Hp) (Da : Fl) (D : Ends) (W : L2.WX) : Prop where
  nx : ∀ ς (G' : GS) σ H', Da.nx ς G' → RS T G' H' ς σ → RG T H' G' → Kp G H G' H' → D.nx σ H'
  rt : LQ T G H Da.rt D.rt
  bk : ∀ ς (G' : GS) σ H', Da.bk ς G' → RS T G' H' ς σ → RG T H' G' → Kp G H G' H' → D.bk σ H'
  ct : ∀ ς (G' : GS) σ H', Da.ct ς G' → RS T G' H' ς σ → RG T H' G' → Kp G H G' H' → D.ct σ H'
  ex : ∀ e ς (G' : GS) σ c d H', Da.ex e ς G' → RX T G' H' e c d → RS T G' H' ς σ → RG T H' G' → Kp G H G' H' → W c d σ H'
theorem LF.step {T : Tx} {G G1 : GS} {H H1 : Hp} {Da : Fl} {D : Ends} {W : L2.WX} (q : LF T G H Da D W) (k : Kp G H G1 H1) : LF T G1 H1 Da D W :=
  ⟨fun ς G' σ H' a b c d => q.nx ς G' σ H' a b c (k.trans d), q.rt.step k, fun ς G' σ H' a b c d => q.bk ς G' σ H' a b c (k.trans d), fun ς G' σ H' a b c d => q.ct ς G' σ H' a b c (k.trans d), fun e ς G' σ c d H' a b r x z => q.ex e ς G' σ c d H' a b r x (k.trans z)⟩
/-- the wish about what an expression of the statement raises -/
theorem LF.lx {T : Tx} {G : GS} {H : Hp} {Da : Fl} {D : Ends} {W : L2.WX} {ς : En} {σ : L2.St} (q : LF T G H Da D W) (rg : RG T H G) (rs : RS T G H ς σ) : LX T G H (fun e G' => Da.ex e ς G') (WE W σ) := fun e G' c d H' h rx rg' k => q.ex e ς G' σ c d H' h rx (rs.mono k) rg' k
def lS (T : Tx) (W : L2.WX) (t : SA) : TS := fun D σ H => ∃ ς, ∃ G : GS, ∃ Da, RS T G H ς σ ∧ RG T H G ∧ t Da ς G ∧ LF T G H Da D W
abbrev GA := A → En → Gp → (En → Gp → Prop) → Prop
def lG (T : Tx) (vs : List Nat) (g : GA) : TG := fun v σ H Q => ∃ a ς, ∃ G : GS, ∃ Qa, RV T G H a v ∧ RS T G H ς σ ∧ RG T H G ∧ g a ς G Qa ∧
  ∀ ς' (G' : GS) σ' H', Qa ς' G' → RS T G' H' ς' σ' → RG T H' G' → Kp G H G' H' → wipe σ' vs = wipe σ vs → Q σ' H'
theorem PG.imp {X : Cx} {e : Expr} {t t' : TG} (p : PG X e t) (h : ∀ v σ H Q, t' v σ H Q → t v σ H Q) : PG X e t' := ⟨fun pins s σ H v u Q I r q => p.run pins s σ H v u Q I r (h v σ H Q q)⟩
def gNm (i : Nat) : GA := fun a ς G Q => Q (ς.set i (some a)) G
theorem wipe_mem {i : Nat} {y : Option V} : ∀ {vs : List Nat} {σ : L2.St}, i ∈ vs → wipe (σ.set i y) vs = wipe σ vs
  | v :: vs, σ, h => by
    unfold wipe
    by_cases hv : i ∈ vs
    · rw [wipe_mem hv]
    · have e : v = i := by simpa [hv, eq_comm] using h
      subst e
      have z : ∀ (ws : List Nat) (τ : L2.St), v ∉ ws → wipe (τ.set v y) ws = (wipe τ ws).set v y := by
        intro ws
        induction ws with
        | nil => intro τ _; rfl
        | cons w ws ih =>
          intro τ hw
          have h1 : v ≠ w := fun e => hw (by simp [e])
          have h2 : v ∉ ws := fun e => hw (by simp [e])
          unfold wipe
          rw [ih τ h2, List.set_comm _ _ h1]
      rw [z vs σ hv, List.set_set]
theorem g_nm {X : Cx} {T : Tx} {i : Nat} {x : Str} {pos : Pos} {vs : List Nat} (hN : X.N.Nodup) (hi : X.N[i]? = some x) (hx : Loc X.env.scope x) (hf : X.fn x = true ∨ X.env.scope.names.lookup x = some .local) (hv : i ∈ vs) : PG X (.Name x pos) (lG T vs (gNm i)) :=
  PG.imp (pg_name hN hi hx hf) fun v σ H Q ⟨a, ς, G, Qa, rv, rs, rg, h, q⟩ => q _ _ _ _ h (rs.set i rv) rg Kp.refl (wipe_mem hv)
def gTp (is : List Nat) : GA := fun a ς G Q => match a with
  | .tup xs => xs.length = is.length ∧ Q ((is.zip xs).foldl (fun ς p => ς.set p.1 (some p.2)) ς) G
  | _ => False
/-! ### blocks and small statements -/
section
variable {X : Cx} {T : Tx} {W : L2.WX} {e c : Expr} {st : Stmt} {a b rest : List Stmt} {ta : EA} {tt : BA} {t u : SA} {pos : Pos}
def sNx : SA := fun D ς G => D.nx ς G
/-- R, once some of the frame's objects are taken for ones that nobody changes from here on -/
inductive Fz (R : En → Gp → Prop) : En → Gp → Prop where
  | done {ς : En} {G : Gp} : R ς G → Fz R ς G
  | frz {ς : En} {G : Gp} (i : Nat) (p : Addr) (o : O) : ς[i]? = some (some (.ref p)) → G p = some o → Fz R (ς.set i (some (Q.frz o))) (rm p G) → Fz R ς G
theorem Fz.got {T : Tx} {R : En → Gp → Prop} {σ : L2.St} {H : Hp} {ς : En} {G0 : Gp} (h : Fz R ς G0) : ∀ G : GS, G.G = G0 → RS T G H ς σ → RG T H G → ∃ ς', ∃ G' : GS, R ς' G' ∧ RS T G' H ς' σ ∧ RG T H G' ∧ Kp G H G' H := by
  induction h with
  | done h => rintro G rfl rs rg; exact ⟨_, G, h, rs, rg, Kp.refl⟩
  | @frz ς G0 i p o e1 e2 _ ih =>
    rintro G rfl rs rg
    have r := rg.frz e2
    have ne : G p ≠ none := by rw [show G p = some o from e2]; simp
    have sn : ∀ v, RV T (G.rm p) H (.ref p) v → RV T (G.rm p) H (Q.frz o) v := fun v rv => by
      obtain rfl : v = .ref p := by simpa only [RV] using rv
      exact r
    obtain ⟨ς', G', a, b, c, d⟩ := ih (G.rm p) rfl ((rs.mono (Kp.rm ne)).seen i e1 sn) (rg.rm ne)
    exact ⟨ς', G', a, b, c, (Kp.rm ne).trans d⟩
def sSeq (t u : SA) : SA := fun D ς G => t { D with nx := Fz (u D) } ς G
def sRet (ta : EA) : SA := fun D ς G => ta ς G D.rt (fun e => D.ex e ς)
def sRetN : SA := fun D _ G => D.rt .non G
def sEx (ta : EA) : SA := fun D ς G => ta ς G (fun _ G1 => D.nx ς G1) (fun e => D.ex e ς)
def sIf (tt : BA) (t u : SA) : SA := fun D ς G => tt ς G (fun k G1 => if k = true then t D ς G1 else u D ς G1) (fun e => D.ex e ς)
def sBrk : SA := fun D ς G => D.bk ς G
def sCnt : SA := fun D ς G => D.ct ς G
def sSet (ta : EA) (g : GA) : SA := fun D ς G => ta ς G (fun x G1 => g x ς G1 D.nx) (fun e => D.ex e ς)
theorem b_nil : PSs X [] (lS T W sNx) := PSs.imp pss_nil fun D σ H ⟨ς, G, Da, rs, rg, h, q⟩ => q.nx _ _ _ _ h rs rg Kp.refl
theorem b_cons (h1 : PS X st (lS T W t)) (h2 : PSs X rest (lS T W u)) : PSs X (st :: rest) (lS T W (sSeq t u)) := by
  refine PSs.imp (pss_cons h1 h2) fun D σ H ⟨ς, G, Da, rs, rg, h, q⟩ => ⟨ς, G, _, rs, rg, h, ⟨fun ς' G' σ' H' a b c d => ?_, q.rt, q.bk, q.ct, q.ex⟩⟩
  obtain ⟨ς2, G2, a2, b2, c2, d2⟩ := a.got G' rfl b c
  exact ⟨ς2, G2, Da, b2, c2, a2, q.step (d.trans d2)⟩
theorem s_pass : PS X (.Pass pos) (lS T W sNx) := PS.imp ps_pass fun D σ H ⟨ς, G, Da, rs, rg, h, q⟩ => q.nx _ _ _ _ h rs rg Kp.refl
theorem s_brk : PS X (.Break pos) (lS T W sBrk) := PS.imp ps_break fun D σ H ⟨ς, G, Da, rs, rg, h, q⟩ => q.bk _ _ _ _ h rs rg Kp.refl
theorem s_cnt : PS X (.Continue pos) (lS T W sCnt) := PS.imp ps_continue fun D σ H ⟨ς, G, Da, rs, rg, h, q⟩ => q.ct _ _ _ _ h rs rg Kp.refl
theorem s_ret (he : PE X e (lE T W ta)) : PS X (.Return (some e) pos) (lS T W (sRet ta)) :=
  PS.imp (ps_ret he) fun D σ H ⟨ς, G, Da, rs, rg, h, q⟩ => ⟨ς, G, Da.rt, fun e => Da.ex e ς, rs, rg, h, q.rt, q.lx rg rs⟩
theorem s_retN : PS X (.Return none pos) (lS T W sRetN) := PS.imp ps_retN fun D σ H ⟨ς, G, Da, rs, rg, h, q⟩ => q.rt _ _ _ _ h rv_n rg Kp.refl
theorem s_ex (he : PE X e (lE T W ta)) (hs : swapsWith e none pos.line X.env = pure false) : PS X (.Expr e pos) (lS T W (sEx ta)) :=
  PS.imp (ps_expr he hs) fun D σ H ⟨ς, G, Da, rs, rg, h, q⟩ => ⟨ς, G, _, fun e => Da.ex e ς, rs, rg, h, fun _ G1 _ H1 h1 _ rg1 k1 => q.nx _ _ _ _ h1 (rs.mono k1) rg1 k1, q.lx rg rs⟩
theorem s_doc {x : Str} {j : Option Str} {pos' : Pos} {k : Nat} : PS X (.Expr (.Constant (.str x) k pos) pos') (lS T W sNx) := PS.imp ps_doc fun D σ H ⟨ς, G, Da, rs, rg, h, q⟩ => q.nx _ _ _ _ h rs rg Kp.refl
theorem s_if (hc : PT X c (lB T W tt)) (ha : PSs X a (lS T W t)) (hb : PSs X b (lS T W u)) : PS X (.If c a b pos) (lS T W (sIf tt t u)) := by
  refine PS.imp (ps_if hc ha hb) fun D σ H ⟨ς, G, Da, rs, rg, h, q⟩ => ⟨ς, G, _, fun e => Da.ex e ς, rs, rg, h, fun k G1 H1 h1 rg1 k1 => ?_, q.lx rg rs⟩
  cases k
  · rw [if_neg Bool.false_ne_true] at h1 ⊢
    exact ⟨ς, G1, Da, rs.mono k1, rg1, h1, q.step k1⟩
  · rw [if_pos rfl] at h1 ⊢
    exact ⟨ς, G1, Da, rs.mono k1, rg1, h1, q.step k1⟩
theorem s_set {i : Nat} {x : Str} {pos' : Pos} (hN : X.N.Nodup) (hi : X.N[i]? = some x) (hx : Loc X.env.scope x) (he : PE X e (lE T W ta)) (hs : swapsWith e (some (.Name x pos')) pos.line X.env = pure false) (hf : X.fn x = true ∨ X.env.scope.names.lookup x = some .local) :
    PS X (.Assign [.Name x pos'] e pos) (lS T W (sSet ta (gNm i))) := by
  refine PS.imp (ps_set hN hi hx he hs hf) fun D σ H ⟨ς, G, Da, rs, rg, h, q⟩ => ⟨ς, G, _, fun e => Da.ex e ς, rs, rg, h, fun x G1 v H1 h1 rv rg1 k1 => ?_, q.lx rg rs⟩
  exact q.nx _ _ _ _ h1 ((rs.mono k1).set i rv) rg1 k1
theorem s_asg {tg : Expr} {vs : List Nat} {g : GA} (he : PE X e (lE T W ta)) (hg : PG X tg (lG T vs g)) (hs : swapsWithSole [tg] e pos.line X.env = pure false) (hw : swappedStores [tg] e X.env = pure none) (h1 : (assignEach [tg] X.env).map (·.2) = [assign tg X.env]) :
    PS X (.Assign [tg] e pos) (lS T W (sSet ta g)) := by
  refine PS.imp (ps_asg he hg hs hw h1) fun D σ H ⟨ς, G, Da, rs, rg, h, q⟩ => ⟨ς, G, _, fun e => Da.ex e ς, rs, rg, h, fun x G1 v H1 h1 rv rg1 k1 => ?_, q.lx rg rs⟩
  exact ⟨x, ς, G1, _, rv, rs.mono k1, rg1, h1, fun ς' G' σ' H' a b c d _ => q.nx _ _ _ _ a b c (k1.trans d)⟩
def sPar (i j : Nat) (t : LA) : SA := fun D ς G => t ς G (fun as G1 => match as with
  | [x, y] => D.nx ((ς.set i (some x)).set j (some y)) G1
  | _ => False) (fun e => D.ex e ς)
theorem s_par {i j : Nat} {x y : Str} {a b : Expr} {t : LA} {px py pt : Pos} {kt k2 : Nat} {pt2 : Pos} (hc : X.calm = true) (hN : X.N.Nodup) (hi : X.N[i]? = some x) (hj : X.N[j]? = some y) (hij : i ≠ j)
    (hx : X.env.scope.names.lookup x = some .local) (hy : X.env.scope.names.lookup y = some .local) (ha : PA X [a, b] (lL T W t))
    (hw : swappedStores [.Tuple [.Name x px, .Name y py] kt pt] (.Tuple [a, b] k2 pt2) X.env = pure (some [x, y])) (hs : swapsWithSole [.Tuple [.Name x px, .Name y py] kt pt] (.Tuple [a, b] k2 pt2) pos.line X.env = pure false) :
    PS X (.Assign [.Tuple [.Name x px, .Name y py] kt pt] (.Tuple [a, b] k2 pt2) pos) (lS T W (sPar i j t)) := by
  refine PS.imp (ps_par hc hN hi hj hij hx hy ha hw hs) fun D σ H ⟨ς, G, Da, rs, rg, h, q⟩ => ⟨ς, G, _, fun e => Da.ex e ς, rs, rg, h, fun as G1 vs H1 h1 rv rg1 k1 => ?_, q.lx rg rs⟩
  match as, h1 with
  | [x1, y1], h1 =>
    obtain ⟨v, w, rfl, r1, r2⟩ := rvs2 rv
    exact ⟨v, w, rfl, q.nx _ _ _ _ h1 (((rs.mono k1).set i r1).set j r2) rg1 k1⟩
end
end Q
/-! Q9: what is walked; for; list comprehensions. -/
namespace Q
open PySem PySem.Spec PyProof.Rows L2
/-- J yields the items xs, as long as chk holds -/
structure IterOk (T : Tx) (G1 : GS) (H1 : Hp) (J : It) (xs : List A) (chk : Gp → Prop) : Prop where
  go : ∀ i H (G : GS), Kp G1 H1 G H → RG T H G → chk G → i < xs.length → J.go i H
  yld : ∀ i H (G : GS) x H', Kp G1 H1 G H → RG T H G → chk G → J.yld i H x H' → i < xs.length → ∃ a, xs[i]? = some a ∧ RV T G H' a x ∧ RG T H' G ∧ Kp G H G H'
  stop : ∀ H (G : GS), Kp G1 H1 G H → RG T H G → chk G → J.stop xs.length H
abbrev IA := En → Gp → (List A → (Gp → Prop) → Gp → Prop) → KX → Prop
def lI (T : Tx) (W : L2.WX) (t : IA) : TI := fun σ H R => ∃ ς, ∃ G : GS, ∃ Qa Xa, RS T G H ς σ ∧ RG T H G ∧ t ς G Qa Xa ∧ (∀ xs chk (G' : GS) J H', Qa xs chk G' → IterOk T G' H' J xs chk → RG T H' G' → Kp G H G' H' → R J H') ∧ LX T G H Xa (WE W σ)
def yes : Gp → Prop := fun _ => True
/-- the items of a list, a tuple, a text -/
def itOf (x : A) (G : Gp) (R : List A → (Gp → Prop) → Gp → Prop) : Prop := match x with
  | .tup xs => R xs yes G
  | .fro xs => R xs yes G
  | .str z => R (z.cps.toList.map fun c => .str ⟨#[c]⟩) yes G
  | .ref p => match G p with
    | some (.lst xs) => R xs (fun G' => G' p = some (.lst xs)) G
    | _ => False
  | _ => False
def iSeq (ta : EA) : IA := fun ς G R X => ta ς G (fun x G1 => itOf x G1 R) X
def iR1 (ta : EA) : IA := fun ς G R X => ta ς G (fun x G1 => match x with
  | .int j => -(2 ^ 62) ≤ j ∧ j < 2 ^ 62 ∧ R ((List.range j.toNat).map fun (i : Nat) => A.int (i : Int)) yes G1
  | _ => False) X
def iR2 (ta tb : EA) : IA := fun ς G R X => ta ς G (fun x G1 => tb ς G1 (fun y G2 => match x, y with
  | .int i, .int j => -(2 ^ 62) ≤ i ∧ i < 2 ^ 62 ∧ -(2 ^ 62) ≤ j ∧ j < 2 ^ 62 ∧ R ((List.range (j - i).toNat).map fun (k : Nat) => A.int (i + (k : Int))) yes G2
  | _, _ => False) X) X
section
variable {X : Cx} {T : Tx} {W : L2.WX} {tg e : Expr} {ta tb : EA} {pos : Pos}
theorem PI.imp {X : Cx} {tg e : Expr} {t t' : TI} (p : PI X tg e t) (h : ∀ σ H Q, t' σ H Q → t σ H Q) : PI X tg e t' := ⟨fun pins s σ H R I q => p.run pins s σ H R I (h σ H R q)⟩
theorem iter_list {G1 : GS} {H1 : Hp} {p : Addr} {xs : List A} {chk : Gp → Prop} (h : ∀ H (G : GS), Kp G1 H1 G H → RG T H G → chk G → ∃ vs, H p = some (.lst vs) ∧ RVs T G H xs vs) : IterOk T G1 H1 (Itl X.K p) xs chk where
  go := fun i H G im rg c hi => by
    obtain ⟨vs, sq, rv⟩ := h H G im rg c
    have : i < vs.length := by rw [rv.len]; exact hi
    exact ⟨vs, vs[i], .of sq, by simp [this]⟩
  yld := fun i H G x H' im rg c y hi => by
    obtain ⟨vs, sq, rv⟩ := h H G im rg c
    obtain ⟨rfl, hy⟩ := y
    obtain ⟨a, e, r⟩ := rv.get' (hy vs (.of sq))
    exact ⟨a, e, r, rg, Kp.refl⟩
  stop := fun H G im rg c => by
    obtain ⟨vs, sq, rv⟩ := h H G im rg c
    exact ⟨vs, .of sq, by rw [rv.len]; exact Nat.le_refl _⟩
theorem iter_tup (hT : T.K = X.K) {G1 : GS} {H1 : Hp} {p : Addr} {xs : List A} {vs : List V} (sq : TupAt T G1 H1 p vs) (rv : RVs T G1 H1 xs vs) : IterOk T G1 H1 (Itt X.K p) xs yes where
  go := fun i H G im rg c hi => by
    have : i < vs.length := by rw [rv.len]; exact hi
    exact ⟨vs, vs[i], hT ▸ (sq.mono im).sq, by simp [this]⟩
  yld := fun i H G x H' im rg c y hi => by
    obtain ⟨rfl, hy⟩ := y
    obtain ⟨a, e, r⟩ := (rv.mono im).get' (hy vs (hT ▸ (sq.mono im).sq))
    exact ⟨a, e, r, rg, Kp.refl⟩
  stop := fun H G im rg c => ⟨vs, hT ▸ (sq.mono im).sq, by rw [rv.len]; exact Nat.le_refl _⟩
theorem iter_str {G1 : GS} {H1 : Hp} {z : Str} : IterOk T G1 H1 (Its z) (z.cps.toList.map fun c => .str ⟨#[c]⟩) yes where
  go := fun i H G im rg c hi => by simpa [Its] using hi
  yld := fun i H G x H' im rg c y hi => by
    obtain ⟨rfl, k, hk, rfl⟩ := y
    refine ⟨.str ⟨#[k]⟩, ?_, rv_s _, rg, Kp.refl⟩
    rw [List.getElem?_map]
    have : z.cps.toList[i]? = some k := by simpa using hk
    rw [this]; rfl
  stop := fun H G im rg c => by simp [Its]
theorem iter_rng {G1 : GS} {H1 : Hp} {lo : Int} {n : Nat} : IterOk T G1 H1 (Itr lo n) ((List.range n).map fun (i : Nat) => A.int (lo + (i : Int))) yes where
  go := fun i H G im rg c hi => by simpa [Itr] using hi
  yld := fun i H G x H' im rg c y hi => by
    obtain ⟨rfl, rfl⟩ := y
    refine ⟨.int (lo + i), ?_, rv_i _, rg, Kp.refl⟩
    rw [List.getElem?_map]
    have : i < n := by simpa using hi
    rw [List.getElem?_range this]; rfl
  stop := fun H G im rg c => by simp [Itr]
theorem i_seq (hT : T.K = X.K) (he : PE X e (lE T W ta)) : PI X tg e (lI T W (iSeq ta)) := by
  refine ⟨fun pins s σ H R I h => ?_⟩
  obtain ⟨ς, G, Qa, Xa, rs, rg, h, q, hx⟩ := h
  have hh : lE T W ta σ H (fun v H1 => ∃ x, ∃ G1 : GS, RV T G1 H1 x v ∧ RG T H1 G1 ∧ Kp G H G1 H1 ∧ itOf x G1 Qa) := ⟨ς, G, _, Xa, rs, rg, h, fun x G1 v H1 h1 rv rg1 k1 => ⟨x, G1, rv, rg1, k1, h1⟩, hx⟩
  refine thn (he.run pins s σ H _ I hh) fun u s1 q1 => ?_
  obtain ⟨v, H1, I1, ru, x, G1, rv, rg1, k1, h1⟩ := q1
  have lst : ∀ (p : Addr) (xs : List A) (chk : Gp → Prop), v = .ref p → (∃ vs, H1 p = some (.lst vs)) → Qa xs chk G1 → IterOk T G1 H1 (Itl X.K p) xs chk → wpAny (model X.prog X.w) X.A (pyIter u) (PIE X pins σ tg R) X.xe s1 := by
    intro p xs chk e ⟨vs, sq⟩ h2 ok
    subst e
    cases ru
    obtain ⟨its, _, pl, _⟩ := I1.list (.of sq)
    exact wpAny_pyIter_list pl.isList (pi_one (tk := s1.toks) I1 _ (turn_list p _) ⟨_, Heap.get?_push_size _ rfl, rfl, rfl⟩ (q xs chk G1 _ H1 h2 ok rg1 k1))
  cases x with
  | tup xs =>
    obtain ⟨p, vs, rfl, sq, rvs⟩ := rv_tup rv
    cases ru
    obtain ⟨its, _, pl, _⟩ := I1.tuple (hT ▸ sq.sq)
    exact wpAny_pyIter_tuple (show s1.heap.IsTuple p its.toArray from pl) (pi_one (tk := s1.toks) I1 _ (turn_tuple p _) ⟨_, Heap.get?_push_size _ rfl, rfl, rfl⟩ (q xs yes G1 _ H1 h1 (iter_tup hT sq rvs) rg1 k1))
  | fro xs =>
    simp only [RV] at rv
    obtain ⟨p, vs, rfl, g, sq, rvs⟩ := rv
    exact lst p xs yes rfl ⟨vs, sq⟩ h1 (iter_list fun H G im _ _ => ⟨vs, (im.ks _ _ g sq).2, rvs.mono im⟩)
  | str z =>
    obtain rfl := rv_str rv
    obtain ⟨t, rfl⟩ := ru
    have fin := q _ yes G1 _ H1 h1 iter_str rg1 k1
    cases ha : z.cps.all (· < 128)
    · exact wpAny_pyIter_wide ha (pi_one (tk := s1.toks) I1 _ (turn_str _ z t "str_iterator" (.inr rfl)) ⟨_, Heap.get?_push_size _ rfl, rfl, rfl⟩ fin)
    · exact wpAny_pyIter_ascii ha (pi_one (tk := s1.toks) I1 _ (turn_str _ z t "str_ascii_iterator" (.inl rfl)) ⟨_, Heap.get?_push_size _ rfl, rfl, rfl⟩ fin)
  | ref p =>
    obtain rfl := rv_ref rv
    simp only [itOf] at h1
    split at h1
    · rename_i xs e
      obtain ⟨vs, e1, r1⟩ := rg1 p _ e
      exact lst p xs _ rfl ⟨vs, e1⟩ h1 (iter_list fun H G _ rg c => rg p _ c)
    · exact h1.elim
  | _ => exact False.elim h1
theorem i_rng1 {p : Pos} (hg : Gl X "range") (hm : X.mg "range" = none) (he : PE X e (lE T W ta)) (hs : starEach [e] X.env = [(false, eval e X.env)]) : PI X tg (.Call (.Name "range" p) [e] [] pos) (lI T W (iR1 ta)) := by
  refine PI.imp (pi_range1 hg hm (pa_cons he pa_nil hs) hs) fun σ H R ⟨ς, G, Qa, Xa, rs, rg, h, q, hx⟩ => ⟨ς, G, _, Xa, rs, rg, h, fun x G1 v H1 h1 rv rg1 k1 => ?_, hx⟩
  cases x with
  | int j =>
    obtain rfl := rv_int rv
    refine ⟨j, rfl, h1.1, h1.2.1, q _ yes G1 _ H1 h1.2.2 ?_ rg1 k1⟩
    have := iter_rng (T := T) (G1 := G1) (H1 := H1) (lo := 0) (n := j.toNat)
    simpa using this
  | _ => exact False.elim h1
theorem i_rng2 {p : Pos} {e2 : Expr} (hg : Gl X "range") (hm : X.mg "range" = none) (he : PE X e (lE T W ta)) (he2 : PE X e2 (lE T W tb)) (hs : starEach [e, e2] X.env = [(false, eval e X.env), (false, eval e2 X.env)]) (hs2 : starEach [e2] X.env = [(false, eval e2 X.env)]) :
    PI X tg (.Call (.Name "range" p) [e, e2] [] pos) (lI T W (iR2 ta tb)) := by
  refine PI.imp (pi_range2 hg hm (pa_cons he (pa_cons he2 pa_nil hs2) (by rw [hs, hs2])) hs hs2) fun σ H R ⟨ς, G, Qa, Xa, rs, rg, h, q, hx⟩ => ⟨ς, G, _, Xa, rs, rg, h, fun x G1 v H1 h1 rv rg1 k1 => ?_, hx⟩
  refine ⟨ς, G1, _, Xa, rs.mono k1, rg1, h1, fun y G2 w H2 h2 rw' rg2 k2 => ?_, hx.step k1⟩
  cases x with
  | int i =>
    cases y with
    | int j =>
      obtain rfl := rv_int rv
      obtain rfl := rv_int rw'
      exact ⟨i, j, rfl, ⟨h2.1, h2.2.1, h2.2.2.1, h2.2.2.2.1⟩, q _ yes G2 _ H2 h2.2.2.2.2 iter_rng rg2 (k1.trans k2)⟩
    | _ => exact False.elim h2
  | _ => cases y <;> exact False.elim h2
/-! ### for -/
def forR (g : GA) (tb : SA) (chk : Gp → Prop) : List A → Fl → En → Gp → Prop
  | [], D, ς, G => chk G ∧ D.nx ς G
  | x :: xs, D, ς, G => chk G ∧ g x ς G fun ς2 G2 => tb { D with nx := forR g tb chk xs D, ct := forR g tb chk xs D, bk := D.nx } ς2 G2
def sFor (it : IA) (g : GA) (tb : SA) : SA := fun D ς G => it ς G (fun xs chk G1 => forR g tb chk xs D ς G1) (fun e => D.ex e ς)
theorem drop_some {α : Type} {xs : List α} {i : Nat} {a : α} (h : xs[i]? = some a) : xs.drop i = a :: xs.drop (i + 1) := by
  obtain ⟨hi, e⟩ := List.getElem?_eq_some_iff.mp h
  rw [List.drop_eq_getElem_cons hi, e]
theorem s_for {it : IA} {g : GA} {tbd : SA} {vs : List Nat} {body : List Stmt} {iter : Expr} (hp : PassesOwn (model X.prog X.w) X.A X.env X.xe) (hc : X.calm = true) (hi : PI X tg iter (lI T W it)) (hg : PG X tg (lG T vs g)) (hb : PSs X body (lS T W tbd)) (hs : ∀ x, foldedSetIterable iter X.env x = pure x) :
    PS X (.For tg iter body [] pos) (lS T W (sFor it g tbd)) := by
  refine PS.imp (ps_for hp hc hi hg hb hs) fun D σ H ⟨ς, G, Da, rs, rg, h, q⟩ => ⟨ς, G, _, fun e => Da.ex e ς, rs, rg, h, fun xs chk G1 J H1 h1 ok rg1 k1 => ?_, q.lx rg rs⟩
  refine ⟨fun i m σ' H' => m = xs.length - i ∧ i ≤ xs.length ∧ ∃ ς', ∃ G' : GS, RS T G' H' ς' σ' ∧ RG T H' G' ∧ Kp G H G' H' ∧ Kp G1 H1 G' H' ∧ forR g tbd chk (xs.drop i) Da ς' G', ⟨_, rfl, Nat.zero_le _, ς, G1, rs.mono k1, rg1, k1, Kp.refl, h1⟩, ?_⟩
  rintro i m σ' H' ⟨rfl, hi, ς', G', rs', rg', k', im, f⟩
  by_cases hlt : i < xs.length
  · have hx : xs[i]? = some xs[i] := by simp [hlt]
    rw [drop_some hx] at f
    obtain ⟨hchk, f⟩ := f
    refine .inr ⟨ok.go i H' G' im rg' hchk hlt, fun σ2 H2 => ∃ ς2, ∃ G2 : GS, RS T G2 H2 ς2 σ2 ∧ RG T H2 G2 ∧ Kp G H G2 H2 ∧ Kp G1 H1 G2 H2 ∧ forR g tbd chk (xs.drop (i + 1)) Da ς2 G2, fun σ2 H2 ⟨ς2, G2, a, b, c, d, e⟩ => ⟨xs.length - (i + 1), by omega, rfl, hlt, ς2, G2, a, b, c, d, e⟩, fun x H2 y => ?_⟩
    obtain ⟨a, e, rv, rg2, k2⟩ := ok.yld i H' G' x H2 im rg' hchk y hlt
    have ea : xs[i] = a := by rw [hx] at e; exact Option.some.inj e
    subst ea
    have im2 : Kp G' H' G' H2 := k2
    refine ⟨_, ς', G', _, rv, rs'.mono im2, rg2, f, fun ς3 G3 σ3 H3 h3 rs3 rg3 k3 _ => ?_⟩
    have im3 : Kp G' H2 G3 H3 := k3
    have k03 := (k'.trans k2).trans k3
    refine ⟨ς3, G3, _, rs3, rg3, h3, ⟨fun ς4 G4 σ4 H4 a b c d => ⟨ς4, G4, b, c, k03.trans d, ((im.trans im2).trans im3).trans d, a⟩, (q.step k03).rt, fun ς4 G4 σ4 H4 a b c d => q.nx _ _ _ _ a b c (k03.trans d), fun ς4 G4 σ4 H4 a b c d => ⟨ς4, G4, b, c, k03.trans d, ((im.trans im2).trans im3).trans d, a⟩, (q.step k03).ex⟩⟩
  · have e : i = xs.length := by omega
    subst e
    rw [List.drop_length] at f
    exact .inl ⟨ok.stop H' G' im rg' f.1, q.nx _ _ _ _ f.2 rs' rg' k'⟩
end
end Q
/-! Q10: list comprehensions. -/
namespace Q
open PySem PySem.Spec PyProof.Rows L2
def wipeA (ς : En) : List Nat → En
  | [] => ς
  | v :: vs => (wipeA ς vs).set v none
theorem RS.unset {T : Tx} {G : GS} {H : Hp} {ς : En} {σ : L2.St} (h : RS T G H ς σ) (i : Nat) : RS T G H (ς.set i none) (σ.set i none) := by
  refine ⟨by simpa using h.1, fun j b e => ?_⟩
  by_cases hj : i = j
  · subst hj
    by_cases hl : i < ς.length
    · rw [List.getElem?_set_self hl] at e; cases e
    · rw [List.getElem?_eq_none (by simpa using hl)] at e; cases e
  · rw [List.getElem?_set_ne hj] at e
    obtain ⟨w, e1, r1⟩ := h.2 j b e
    exact ⟨w, by rw [List.getElem?_set_ne hj]; exact e1, r1⟩
theorem RS.wipe {T : Tx} {G : GS} {H : Hp} {ς : En} {σ : L2.St} (h : RS T G H ς σ) : ∀ vs : List Nat, RS T G H (wipeA ς vs) (L2.wipe σ vs)
  | [] => h
  | v :: vs => (RS.wipe h vs).unset v
theorem wipe_wipe {σ : L2.St} {vs : List Nat} : wipe (wipe σ vs) vs = wipe σ vs := by
  have key : ∀ (ws : List Nat) (τ : L2.St), (∀ i ∈ ws, τ[i]? = some none ∨ τ[i]? = none) → wipe τ ws = τ := by
    intro ws
    induction ws with
    | nil => intro τ _; rfl
    | cons w ws ih =>
      intro τ h
      unfold L2.wipe
      rw [ih τ fun i hi => h i (by simp [hi])]
      apply List.ext_getElem?
      intro j
      by_cases hj : w = j
      · subst hj
        rcases h w (by simp) with z | z
        · have : w < τ.length := (List.getElem?_eq_some_iff.mp z).1
          rw [List.getElem?_set_self this, z]
        · rw [z, List.getElem?_eq_none (by simpa using List.getElem?_eq_none_iff.mp z)]
      · rw [List.getElem?_set_ne hj]
  refine key vs _ fun i hi => ?_
  cases e : (wipe σ vs)[i]? with
  | none => exact .inr rfl
  | some y =>
    cases y with
    | none => exact .inl rfl
    | some x => exact absurd hi (wipe_some e).2
/-- a list that is being made, hidden from the abstract heap -/
structure Hid (G1 : GS) (H1 : Hp) (G : GS) (H : Hp) (D : Addr) (vs : List V) : Prop where
  g : G D = none
  s : ¬ G.S D
  h : H D = some (.lst vs)
  k : Kp G1 H1 G H
theorem Hid.go {G1 G G' : GS} {H1 H H' : Hp} {D : Addr} {vs : List V} (x : Hid G1 H1 G H D vs) (k : Kp G H G' H') : Hid G1 H1 G' H' D vs := by
  obtain ⟨a, b⟩ := k.kp D _ x.g x.h
  refine ⟨a, fun z => ?_, b, x.k.trans k⟩
  rcases k.nw D z with z | z | z | ⟨u, i, z⟩
  · exact x.s z
  · exact z x.g
  · rw [x.h] at z; cases z
  · rw [x.h] at z; cases z; exact i
theorem Hid.ks {G1 G : GS} {H1 H : Hp} {D : Addr} {vs : List V} {o : HO} (x : Hid G1 H1 G H D vs) : Ks G H G (upd H D o) := fun b u f h => by
  have : b ≠ D := fun z => by subst z; exact x.s f.1
  exact ⟨f, (upd_ne this).trans h⟩
theorem Hid.put {G1 G : GS} {H1 H : Hp} {D : Addr} {vs ws : List V} (x : Hid G1 H1 G H D vs) (h1 : H1 D = none) : Hid G1 H1 G (upd H D (.lst ws)) D ws := by
  refine ⟨x.g, x.s, upd_same, ⟨fun b u a c => ?_, x.k.sm, x.k.nw⟩⟩
  have : b ≠ D := fun z => by subst z; rw [h1] at c; cases c
  obtain ⟨z1, z2⟩ := x.k.kp b u a c
  exact ⟨z1, (upd_ne this).trans z2⟩
theorem Hid.rg {T : Tx} {G1 G : GS} {H1 H : Hp} {D : Addr} {vs : List V} {o : HO} (x : Hid G1 H1 G H D vs) (r : RG T H G) : RG T (upd H D o) G := by
  refine ⟨fun b u q => ?_, fun b h => upd_there (r.st b h)⟩
  have hb : b ≠ D := fun z => by subst z; have := x.g; rw [show G b = some u from q] at this; cases this
  exact (r b u q).mono x.ks (upd_ne hb)
theorem Hid.new {T : Tx} {G1 : GS} {H1 : Hp} {D : Addr} (r : RG T H1 G1) (h : H1 D = none) : Hid G1 H1 G1 (upd H1 D (.lst [])) D [] := by
  refine ⟨r.free h, fun z => r.st D z h, upd_same, ⟨fun b u a c => ?_, fun _ z => z, fun _ z => .inl z⟩⟩
  have : b ≠ D := fun z => by subst z; rw [h] at c; cases c
  exact ⟨a, (upd_ne this).trans c⟩
theorem Hid.rg0 {T : Tx} {G1 : GS} {H1 : Hp} {D : Addr} {o : HO} (r : RG T H1 G1) (h : H1 D = none) : RG T (upd H1 D o) G1 := by
  have ks : Ks G1 H1 G1 (upd H1 D o) := fun b u f e => by
    have : b ≠ D := fun z => by subst z; rw [h] at e; cases e
    exact ⟨f, (upd_ne this).trans e⟩
  refine ⟨fun b u q => ?_, fun b h => upd_there (r.st b h)⟩
  have hb : b ≠ D := fun z => by subst z; exact (r _ u q).there h
  exact (r b u q).mono ks (upd_ne hb)
/-- the turns of a comprehension -/
def lcR (g : GA) (tt : BA) (te : EA) (vs : List Nat) (chk : Gp → Prop) (Qf : List A → Gp → Prop) : List A → List A → En → Gp → Prop
  | [], acc, _, G => chk G ∧ Qf acc G
  | x :: xs, acc, ς, G => chk G ∧ g x (wipeA ς vs) G fun ς2 G2 => tt ς2 G2 (fun b G3 => if b = true then te ς2 G3 (fun y G4 => acc.length < sizeLine ∧ lcR g tt te vs chk Qf xs (acc ++ [y]) ς G4) (fun _ _ => False)
      else lcR g tt te vs chk Qf xs acc ς G3) (fun _ _ => False)
def eLc (m : Bool) (it : IA) (g : GA) (tt : BA) (te : EA) (vs : List Nat) : EA := fun ς G Q X => it ς G (fun xs chk G1 => lcR g tt te vs chk (fun acc G2 => new m (.lst acc) G2 Q) xs [] ς G1) X
def bYes : BA := fun _ G Q _ => Q true G
theorem PTs.imp {X : Cx} {e : List Expr} {t t' : TT} (p : PTs X e t) (h : ∀ σ H Q, t' σ H Q → t σ H Q) : PTs X e t' := ⟨fun pins s σ H Q I q => p.run pins s σ H Q I (h σ H Q q)⟩
theorem ts_nil {X : Cx} {T : Tx} {W : L2.WX} : PTs X [] (lB T W bYes) := PTs.imp pts_nil fun σ H Q ⟨ς, G, Qa, Xa, rs, rg, h, q, hx⟩ => q _ _ _ h rg Kp.refl
theorem ts_one {X : Cx} {T : Tx} {W : L2.WX} {c : Expr} {tt : BA} (h : PT X c (lB T W tt)) : PTs X [c] (lB T W tt) := pts_one h
/-- nothing is raised -/
abbrev W0 : L2.WX := fun _ _ _ _ => False
theorem lX_no {T : Tx} {G : GS} {H : Hp} {W : XK} : LX T G H (fun _ _ => False) W := fun _ _ _ _ _ h => h.elim
theorem lc_lift {mu : Bool} {T : Tx} {W : L2.WX} {it : IA} {g : GA} {tt : BA} {te : EA} {vs : List Nat} {σ : L2.St} {H : Hp} {Q : VK} (h : lE T W (eLc mu it g tt te vs) σ H Q) :
    tLc (lI T W it) (lG T vs g) (lB T W0 tt) (lE T W0 te) vs σ H Q := by
  obtain ⟨ς, G, Qa, Xa, rs, rg, h, q, hx⟩ := h
  refine ⟨ς, G, _, Xa, rs, rg, h, fun xs chk G1 J H1 h1 ok rg1 k1 => ?_, hx⟩
  intro D hD
  have hid := Hid.new rg1 hD
  refine ⟨fun i m H' => m = xs.length - i ∧ i ≤ xs.length ∧ ∃ acc accV, ∃ G' : GS, RG T H' G' ∧ Hid G1 H1 G' H' D accV ∧ RVs T G' H' acc accV ∧
      lcR g tt te vs chk (fun acc G2 => new mu (.lst acc) G2 Qa) (xs.drop i) acc ς G', ⟨_, rfl, Nat.zero_le _, [], [], G1, Hid.rg0 rg1 hD, hid, .nil, h1⟩, ?_⟩
  rintro i m H' ⟨rfl, hi, acc, accV, G', rg', hd, rva, f⟩
  by_cases hlt : i < xs.length
  · have hx' : xs[i]? = some xs[i] := by simp [hlt]
    rw [drop_some hx'] at f
    obtain ⟨hchk, f⟩ := f
    refine .inr ⟨ok.go i H' G' hd.k rg' hchk hlt, fun H'' => ∃ acc accV, ∃ G'' : GS, RG T H'' G'' ∧ Hid G1 H1 G'' H'' D accV ∧ RVs T G'' H'' acc accV ∧
      lcR g tt te vs chk (fun acc G2 => new mu (.lst acc) G2 Qa) (xs.drop (i + 1)) acc ς G'', fun H'' z => ⟨_, by omega, rfl, hlt, z⟩, fun x H2 y => ?_⟩
    obtain ⟨a, e, rv, rg2, k2⟩ := ok.yld i H' G' x H2 hd.k rg' hchk y hlt
    have ea : xs[i] = a := by rw [hx'] at e; exact Option.some.inj e
    subst ea
    have rs2 : RS T G' H2 ς σ := ((rs.mono k1).mono hd.k).mono k2
    refine ⟨_, wipeA ς vs, G', _, rv, rs2.wipe vs, rg2, f, fun ς3 G3 σ3 H3 h3 rs3 rg3 k3 hw => ⟨hw.trans wipe_wipe, ς3, G3, _, _, rs3, rg3, h3, fun b G4 H4 h4 rg4 k4 => ?_, lX_no⟩⟩
    have k24 := (k2.trans k3).trans k4
    have hd4 := hd.go k24
    cases b with
    | false =>
      rw [if_neg Bool.false_ne_true] at h4
      refine L2.iteF ?_
      exact ⟨acc, accV, G4, rg4, hd4, rva.mono k24, h4⟩
    | true =>
      rw [if_pos rfl] at h4
      refine L2.iteT ?_
      refine ⟨ς3, G4, _, _, rs3.mono k4, rg4, h4, fun y G5 v H5 h5 rv5 rg5 k5 => ?_, lX_no⟩
      have hd5 := hd4.go k5
      refine ⟨accV, hd5.h, by rw [rva.len]; exact h5.1, acc ++ [y], accV ++ [v], G5, hd5.rg rg5, hd5.put hD, (RVs.mono' hd5.ks ((rva.mono k24).mono k5)).app (.one (RV.mono' hd5.ks rv5)), h5.2⟩
  · have e : i = xs.length := by omega
    subst e
    rw [List.drop_length] at f
    refine .inl ⟨ok.stop H' G' hd.k rg' f.1, ?_⟩
    have rst : ∀ b u, G1 b = none → H1 b = some u → b ≠ D := fun b u _ c z => by subst z; rw [hD] at c; cases c
    obtain ⟨_, f⟩ := f
    cases mu with
    | true =>
      refine q _ (G'.up D (.lst acc)) _ _ (f D hd.g) (rv_r D) ⟨fun b u z => ?_, rg'.st⟩ (k1.trans ⟨fun b u x y => ?_, hd.k.sm, hd.k.nw⟩)
      · have ks : Ks G' H' (G'.up D (.lst acc)) H' := fun b u f h => by
          have : b ≠ D := fun z => by subst z; exact hd.s f.1
          exact ⟨⟨f.1, (up_ne this).trans f.2⟩, h⟩
        have z : up G'.G D (.lst acc) b = some u := z
        by_cases hb : b = D
        · subst hb; rw [up_same] at z; cases z; exact ⟨accV, hd.h, RVs.mono' ks rva⟩
        · rw [up_ne hb] at z; exact (rg' b u z).mono ks rfl
      · obtain ⟨z1, z2⟩ := hd.k.kp b u x y
        exact ⟨(up_ne (rst b u x y)).trans z1, z2⟩
    | false =>
      have ks : Ks G' H' (G'.fx D) H' := fun b u f h => ⟨⟨.inr f.1, f.2⟩, h⟩
      refine q _ (G'.fx D) _ _ f (rv_frz ⟨.inl rfl, hd.g⟩ (o := .lst acc) ⟨accV, hd.h, RVs.mono' ks rva⟩) ⟨fun b u z => (rg' b u z).mono ks rfl, fun b z => ?_⟩ (k1.trans ⟨hd.k.kp, fun b z => .inr (hd.k.sm b z), fun b z => ?_⟩)
      · rcases z with rfl | z
        · rw [hd.h]; simp
        · exact rg'.st b z
      · rcases z with rfl | z
        · exact .inr (.inr (.inl hD))
        · exact hd.k.nw b z
section
variable {X : Cx} {T : Tx} {W : L2.WX} {elt tg iter : Expr} {ifs : List Expr} {scope : Scope} {own : List (Str × Nat)} {pos spos : Pos} {it : IA} {g : GA} {tt : BA} {te : EA}
theorem p_lc {m : Bool} (hc : X.calm = true) (hN : X.N.Nodup) (hi : PI X tg iter (lI T W it)) (ok : BlkOk X.N X.env.scope scope own)
    (hg : ∀ s H C cl fp, PG (X.blk s H scope (compEnvC scope cl C X.env) fp) tg (lG T (own.map (·.2)) g)) (ht : ∀ s H C cl fp, PTs (X.blk s H scope (compEnvC scope cl C X.env) fp) ifs (lB T W0 tt))
    (he : ∀ s H C cl fp, PE (X.blk s H scope (compEnvC scope cl C X.env) fp) elt (lE T W0 te)) (hs : ∀ x, foldedSetIterable iter X.env x = pure x) :
    PE X (.ListComp elt [⟨tg, iter, ifs, 0⟩] scope pos) (lE T W (eLc m it g tt te (own.map (·.2)))) :=
  PE.imp (pe_lc hc hN hi ok hg ht he hs) fun σ H Q h => lc_lift h
theorem s_setLc {m : Bool} {i : Nat} {y : Str} {py : Pos} (hc : X.calm = true) (hN : X.N.Nodup) (hy : X.N[i]? = some y) (hyl : X.env.scope.names.lookup y = some .local)
    (hsw : swapsWith (.ListComp elt [⟨tg, iter, ifs, 0⟩] scope pos) (some (.Name y py)) spos.line X.env = pure true) (hi : PI X tg iter (lI T W it)) (ok : BlkOk X.N X.env.scope scope own)
    (hg : ∀ s H C cl fp, PG (X.blk s H scope (compEnvC scope cl C X.env) fp) tg (lG T (own.map (·.2)) g)) (ht : ∀ s H C cl fp, PTs (X.blk s H scope (compEnvC scope cl C X.env) fp) ifs (lB T W0 tt))
    (he : ∀ s H C cl fp, PE (X.blk s H scope (compEnvC scope cl C X.env) fp) elt (lE T W0 te)) (hs : ∀ x, foldedSetIterable iter X.env x = pure x) :
    PS X (.Assign [.Name y py] (.ListComp elt [⟨tg, iter, ifs, 0⟩] scope pos) spos) (lS T W (sSet (eLc m it g tt te (own.map (·.2))) (gNm i))) := by
  refine PS.imp (ps_setLc hc hN hy hyl hsw hi ok hg ht he hs) fun D σ H ⟨ς, G, Da, rs, rg, h, q⟩ => ?_
  refine lc_lift (Q := fun x H1 => gName i x σ H1 D.nx) ⟨ς, G, _, fun e => Da.ex e ς, rs, rg, h, fun x G1 v H1 h1 rv rg1 k1 => ?_, q.lx rg rs⟩
  exact q.nx _ _ _ _ h1 ((rs.mono k1).set i rv) rg1 k1
end
end Q
/-! Q11: defs of the text: what a call promises, a def by its body, the law's call. -/
namespace Q
open PySem PySem.Spec PyProof.Rows L2
/-- as FnOk, where nothing is being printed -/
structure FnG (P : Program) (w : World) (K : PySem.W.Frag) (mg : Str → Option Value) (base : Heap) (CX : CXT) (k : Nat) (f : Addr) (fd : FuncData) (ps : List Str) (sp : Sp) : Prop where
  len : ∀ vs H Q E, sp vs H Q E → vs.length = ps.length
  run : ∀ (A : Around), Room k A → A.guards = some [] → ∀ (fr : List Env) (s : Shared) (H : Hp) (as : Args) (us : List Value) (vs : List V) (Q : VK) (E : XK), Env0 P w K mg base A fr s H → BindsTo s fd as (ps.zip us) → Vals vs us →
    sp vs H Q E → codeAny (model P w) A (.call (.ref f) as) (CR CX fr P w H s Q E) s
structure FD where
  ps : Nat
  slots : Nat
  body : Cal → SA
/-- a call, to a depth: the name is the def's -/
abbrev FTab := Str → Option FD
def runF (FT : FTab) : Nat → String → List A → Gp → KA → KX → Prop
  | 0, _, _, _, _, _ => False
  | n + 1, f, as, G, Q, Xa => ∃ d, FT (Str.ofString f) = some d ∧ as.length = d.ps ∧ d.body (runF FT n) { nx := fun _ G' => Q .non G', rt := Q, ex := fun e _ G' => Xa e G' } (as.map some ++ List.replicate (d.slots - d.ps) none) G
/-- the promise of the def f -/
def spA (T : Tx) (FT : FTab) (n : Nat) (f : String) : Sp := fun vs H Q E => ∃ as, ∃ G : GS, ∃ Qa Xa, RVs T G H as vs ∧ RG T H G ∧ runF FT n f as G Qa Xa ∧ LQ T G H Qa Q ∧ LX T G H Xa E
section
variable {X : Cx} {T : Tx} {W : L2.WX} {FT : FTab} {k n : Nat} {f : Addr} {fd : FuncData} {ps : List Str} {x : Str} {p pos : Pos} {e : Expr} {es : List Expr} {t : LA} {F : String}
theorem goG {pins : List (Addr × Obj)} {σ : L2.St} {H : Hp} {s : Shared} {Q : VK} {us : List Value} {vs : List V} {sp : Sp} (FN : FnG X.prog X.w X.K X.mg X.base (L2.CX X.prog X.w) k f fd ps sp) (hr : Room k X.A) (hg : X.A.guards = some []) (hb : Binds X.K fd ps []) (tk : Takes X W)
    (I : Inv X pins σ H s) (r : Vals vs us) (h : sp vs H Q (WE W σ)) : wpAny (model X.prog X.w) X.A (call (.ref f) us) (EP X pins σ Q) X.xe s := by
  have hl : us.length = ps.length := by rw [← r.length]; exact FN.len _ _ _ _ h
  have bd : BindsTo s fd ⟨us, []⟩ (ps.zip us) := by
    have z := hb s us I.kIn (by simpa using hl)
    rwa [List.append_nil] at z
  refine wpAny_call (codeAny_mono (FN.run X.A hr hg X.stack s H ⟨us, []⟩ us vs Q (WE W σ) I.env0 bd r h) fun res s' hq => ?_)
  match res, hq with
  | .error er, hq => exact passAt tk σ pins H s er s' I hq
  | .ok (.ret u), hq => exact I.after hq
theorem p_call (FN : FnG X.prog X.w X.K X.mg X.base (L2.CX X.prog X.w) k f fd ps (spA T FT n F)) (hr : Room k X.A) (hgd : X.A.guards = some []) (hg : Gl X x) (hm : X.mg x = some (.ref f)) (hk : PySem.W.keepIn X.K (.ref f) = true) (hb : Binds X.K fd ps []) (tk : Takes X W)
    (ha : PA X (e :: es) (lL T W t)) (hdb : (x == ("__debug__" : Str)) = false) (he : starEach (e :: es) X.env = (false, eval e X.env) :: starEach es X.env) (hpl : (backTo pos (starEach es X.env)).any (·.1) = false) :
    PE X (.Call (.Name x p) (e :: es) [] pos) (lE T W (eCall (runF FT n) F t)) := by
  refine ⟨fun pins s σ H Q I h => wpAny_Call_Name_kw (ld_glob I hg hm ?_ hdb)⟩
  obtain ⟨ς, G, Qa, Xa, rs, rg, h, q, hxa⟩ := h
  have hh : lL T W t σ H (fun vs H1 => spA T FT n F vs H1 Q (WE W σ)) := ⟨ς, G, _, Xa, rs, rg, h, fun as G1 vs H1 h1 rv rg1 k1 => ⟨as, G1, Qa, Xa, rv, rg1, h1, q.step k1, hxa.step k1⟩, hxa⟩
  refine PySem.W.callWith_K (h₀ := X.base) I.ok.mod.kin hk (thn (ha.run pos pins s σ H _ I hh) fun us s1 ⟨vs, H1, I1, r, q1⟩ => ⟨I1.kIn, goG FN hr hgd hb tk I1 r q1⟩) he hpl
theorem p_call0 (FN : FnG X.prog X.w X.K X.mg X.base (L2.CX X.prog X.w) k f fd ps (spA T FT n F)) (hr : Room k X.A) (hgd : X.A.guards = some []) (hg : Gl X x) (hm : X.mg x = some (.ref f)) (hk : PySem.W.keepIn X.K (.ref f) = true) (hb : Binds X.K fd ps []) (tk : Takes X W)
    (hdb : (x == ("__debug__" : Str)) = false) : PE X (.Call (.Name x p) [] [] pos) (lE T W (eCall (runF FT n) F lNil)) := by
  refine ⟨fun pins s σ H Q I h => wpAny_Call_Name_kw (ld_glob I hg hm ?_ hdb)⟩
  obtain ⟨ς, G, Qa, Xa, rs, rg, h, q, hxa⟩ := h
  exact PySem.W.callWith_K0 I.kIn hk (goG (us := []) (vs := []) FN hr hgd hb tk I .nil ⟨[], G, Qa, Xa, by simp only [RVs], rg, h, q, hxa⟩)
end
/-! ### a def by its body -/
theorem rs_start {T : Tx} {G : GS} {H : Hp} {as : List A} {vs : List V} (r : RVs T G H as vs) (n : Nat) : RS T G H (as.map some ++ List.replicate n none) (vs.map some ++ List.replicate n none) := by
  refine ⟨by simp [r.len], fun i a e => ?_⟩
  by_cases hi : i < as.length
  · rw [List.getElem?_append_left (by simpa using hi), List.getElem?_map] at e
    cases h : as[i]? with
    | none => rw [h] at e; cases e
    | some b =>
      rw [h] at e; cases e
      obtain ⟨v, e1, r1⟩ := r.get h
      exact ⟨v, by rw [List.getElem?_append_left (by simp [r.len, hi]), List.getElem?_map, e1]; rfl, r1⟩
  · rw [List.getElem?_append_right (by simpa using hi), List.getElem?_replicate] at e
    split at e <;> cases e
theorem fnG_of {P : Program} {w : World} {K : PySem.W.Frag} {mg : Str → Option Value} {base : Heap} {T : Tx} {FT : FTab} {n : Nat} {x qual : Str} {st : Stmt} {f : Addr} {fd : FuncData} {N ps : List Str} {F : String} {d : FD} (hF : Fun K x qual st f fd) (S : FnScope N ps (defScope st))
    (hd : FT (Str.ofString F) = some d) (h1 : d.ps = ps.length) (h2 : d.slots = N.length)
    (hb : ∀ (cdv : Value) (A : Around) (fr : List Env) (s : Shared) (H : Hp) (E : XK), Room n (A.deeper (envOfC qual (defScope st) s.heap.objs.size f cdv)) → A.guards = some [] →
      PSs (cxOf (L2.CX P w) P w K mg base N qual (defScope st) f cdv A fr s H E) (defBody st) (lS T (fun c x _ H => E c x H) (d.body (runF FT n)))) : FnG P w K mg base (L2.CX P w) (n + 1) f fd ps (spA T FT (n + 1) F) := by
  have hlen : ∀ vs H Q E, spA T FT (n + 1) F vs H Q E → vs.length = ps.length := fun vs H Q E h => by
    obtain ⟨as, G, Qa, Xa, rv, rg, ⟨d', e, l, _⟩, _⟩ := h
    rw [hd] at e; cases e; rw [rv.len, l, h1]
  refine ⟨hlen, fun A hr hg fr s H args us vs Q E e0 bnd r hsp => ?_⟩
  have hl := hlen _ _ _ _ hsp
  obtain ⟨oc, od, kV, doc, pm, an, cdv, ct, osl, rfl, lk, hcd⟩ := hF.ex
  have KX : K.In s.heap := e0.mod.kin.keeps fun b o q => (e0.bs b o q).1
  refine codeAny_call_function hr.depth (KX _ _ lk) rfl S.co S.gen rfl (PySem.W.codeRec_of KX hcd) (bnd _ _ _ _ ?_)
  refine wpAny_newFunctionEnv_cells S.kind ?hk fun env he s1 y => ?_
  case hk =>
    intro z hz
    rcases S.par z.1 (List.of_mem_zip (show (z.1, z.2) ∈ ps.zip us from hz)).1 with q | q
    · exact .inl q
    · exact .inr ⟨q, PySem.W.cellsFrom_some _ _ _ (.inl q)⟩
  subst he
  refine ⟨(e0.mod.nolimit.keeps fun b o q => (e0.bs b o q).1).keeps y.toInCall.keep, codeAny_func ?_⟩
  have I := inv_start (CX := L2.CX P w) (E := E) S hr.hd e0 hl r y
  have body := hb cdv A fr s H E (hr.deeper _) hg
  obtain ⟨as, G, Qa, Xa, rv, rg, ⟨d', e, l, run⟩, q, hx⟩ := hsp
  rw [hd] at e; cases e
  have red : lS T (fun c x _ H => E c x H) (d.body (runF FT n)) { nx := fun _ H' => Q .non H', rt := Q } (L2.start N vs) H := by
    refine ⟨_, G, _, ?_, rg, run, ⟨fun ς G' σ H' z _ rg' k' => q _ _ _ _ z rv_n rg' k', q, fun _ _ _ _ z => z.elim, fun _ _ _ _ z => z.elim, fun e ς G' σ c d H' z rx _ rg' k' => hx e G' c d H' z rx rg' k'⟩⟩
    have z := rs_start rv (d.slots - d.ps)
    unfold L2.start
    have e1 : N.length - vs.length = d.slots - d.ps := by rw [rv.len, l, h2]
    rw [e1]
    exact z
  refine wpAny_mono (body.run [] s1 (L2.start N vs) H _ I red) (fun fl s' hs => ?_) fun e s' hs => hs
  match fl, hs with
  | .ret u, ⟨v, σ', H', J, rv', q'⟩ => exact ⟨v, H', J.os, J.bare, J.base, J.hok, rv', q'⟩
  | .next, ⟨σ', H', J, q'⟩ => exact ⟨V.non, H', J.os, J.bare, J.base, J.hok, rfl, q'⟩
  | .brk, ⟨_, _, _, q'⟩ => exact False.elim q'
  | .cont, ⟨_, _, _, q'⟩ => exact False.elim q'
end Q
/-! Q12: stores by place, tuple targets. -/
namespace Q
open PySem PySem.Spec PyProof.Rows L2
section
variable {X : Cx} {T : Tx} {W : L2.WX} {o i e : Expr} {to ti te : EA} {pos tpos : Pos}
/-- o[i] = v of a list -/
def gSub (to ti : EA) : GA := fun v ς G Q => to ς G (fun x G1 => ti ς G1 (fun y G2 => ∃ p xs k j, x = .ref p ∧ y = .int k ∧ G2 p = some (.lst xs) ∧ ixN xs.length k = some j ∧ Q ς (up G2 p (.lst (xs.set j v)))) (fun _ _ => False)) (fun _ _ => False)
theorem g_sub {vs : List Nat} (ho : PE X o (lE T W to)) (hi : PE X i (lE T W ti)) (ha : ∀ v, assign (.Subscript o i tpos) X.env v = (do
      let ov ← holding [v] (eval o X.env)
      let iv ← holding [v, ov] (eval i X.env)
      standAt tpos
      holding [v, ov, iv] (setItem ov iv v)
      release [v, ov, iv] [])) : PG X (.Subscript o i tpos) (lG T vs (gSub to ti)) := by
  refine PG.imp (pg_sub ho hi set_list ha) fun v σ H Q ⟨a, ς, G, Qa, rv, rs, rg, h, q⟩ => ⟨ς, G, _, _, rs, rg, h, fun x G1 v1 H1 h1 r1 rg1 k1 => ?_, lX_no⟩
  refine ⟨ς, G1, _, _, rs.mono k1, rg1, h1, fun y G2 v2 H2 h2 r2 rg2 k2 => ?_, lX_no⟩
  obtain ⟨p, xs, k, j, rfl, rfl, e1, e2, h2⟩ := h2
  have k12 := k1.trans k2
  obtain ⟨ws, hw, rw'⟩ := rg2 p _ e1
  have r0 : RV T G2 H2 a v := rv.mono k12
  have kw : Kp G2 H2 (G2.up p (.lst (xs.set j a))) (upd H2 p (.lst (ws.set j v))) := Kp.wr (by rw [e1]; simp)
  refine ⟨p, ws, k, j, rv_ref (r1.mono k2), rv_int r2, hw, by rw [rw'.len]; exact e2, q _ (G2.up p (.lst (xs.set j a))) _ _ h2 ((rs.mono k12).mono kw) (rg2.up kw ⟨_, upd_same, (rw'.set j r0).mono kw⟩) (k12.trans kw) rfl⟩
def rGetL (K : PySem.W.Frag) : V → V → Hp → VK → Prop := fun x y H Q => ∃ p xs i v, x = .ref p ∧ y = .int i ∧ SqL K H p xs ∧ 0 ≤ i ∧ xs[i.toNat]? = some v ∧ Q v H
theorem get_list : PGet X (rGetL X.K) := by
  intro pins s σ H x y v u Q I rx ry h
  obtain ⟨p, xs, i, z, rfl, rfl, hq, h0, he, q⟩ := h
  cases rx
  obtain ⟨t, rfl⟩ := ry
  obtain ⟨its, r, pl, hz⟩ := I.list hq
  obtain ⟨w, ew, rw'⟩ := r.get he
  have hn := L2.line63
  have hl : i.toNat < xs.length := (List.getElem?_eq_some_iff.mp he).1
  exact wpAny_getItem_list pl.isList h0 (by omega) (by simpa using ew) ⟨z, H, I, rw', q⟩
/-- xs[i] += e, ints -/
def sAug (to ti te : EA) : SA := fun D ς G => to ς G (fun x G1 => ti ς G1 (fun y G2 => ∃ p xs k m, x = .ref p ∧ y = .int k ∧ G2 p = some (.lst xs) ∧ 0 ≤ k ∧ xs[k.toNat]? = some (.int m) ∧ te ς G2 (fun z G3 => ∃ n ys, z = .int n ∧ G3 p = some (.lst ys) ∧ k.toNat < ys.length ∧
  D.nx ς (up G3 p (.lst (ys.set k.toNat (.int (m + n)))))) (fun e => D.ex e ς)) (fun e => D.ex e ς)) (fun e => D.ex e ς)
theorem s_aug (hT : T.K = X.K) (ho : PE X o (lE T W to)) (hi : PE X i (lE T W ti)) (he : PE X e (lE T W te)) (ha : ∀ ov iv new, augStore i ov iv new = (do holding [new, ov, iv] (setItem ov iv new); release [new, ov, iv] []; pure .next)) :
    PS X (.AugAssign (.Subscript o i tpos) .Add e pos) (lS T W (sAug to ti te)) := by
  refine PS.imp (ps_augS ho hi get_list he ip_add set_list ha) fun D σ H ⟨ς, G, Da, rs, rg, h, q⟩ => ⟨ς, G, _, fun e => Da.ex e ς, rs, rg, h, fun x G1 v1 H1 h1 r1 rg1 k1 => ?_, q.lx rg rs⟩
  refine ⟨ς, G1, _, fun e => Da.ex e ς, rs.mono k1, rg1, h1, fun y G2 v2 H2 h2 r2 rg2 k2 => ?_, (q.lx rg rs).step k1⟩
  obtain ⟨p, xs, k, m, rfl, rfl, e1, h0, e2, h2⟩ := h2
  have k12 := k1.trans k2
  obtain ⟨ws, hw, rw'⟩ := rg2 p _ e1
  obtain ⟨w, e3, r3⟩ := rw'.get e2
  obtain rfl := rv_int r3
  obtain rfl := rv_ref (r1.mono k2)
  obtain rfl := rv_int r2
  refine ⟨p, ws, k, .int m, rfl, rfl, hT ▸ .of hw, h0, e3, ς, G2, _, fun e => Da.ex e ς, rs.mono k12, rg2, h2, fun z G3 v3 H3 h3 r4 rg3 k3 => ?_, (q.lx rg rs).step k12⟩
  obtain ⟨n, ys, rfl, e4, hl, h3⟩ := h3
  obtain rfl := rv_int r4
  have k13 := k12.trans k3
  obtain ⟨us, hu, ru⟩ := rg3 p _ e4
  have kw : Kp G3 H3 (G3.up p (.lst (ys.set k.toNat (.int (m + n))))) (upd H3 p (.lst (us.set k.toNat (.int (m + n))))) := Kp.wr (by rw [e4]; simp)
  have hix : ixN us.length k = some k.toNat := by
    unfold ixN
    rw [if_pos h0, if_pos (by rw [ru.len]; omega)]
  refine ⟨m, n, rfl, rfl, p, us, k, k.toNat, rfl, rfl, hu, hix, q.nx _ (G3.up p (.lst (ys.set k.toNat (.int (m + n))))) _ _ h3 ((rs.mono k13).mono kw) (rg3.up kw ⟨_, upd_same, (ru.set k.toNat (rv_i _)).mono kw⟩) (k13.trans kw)⟩
/-! targets that are tuples of names -/
def gTs : List Nat → List A → En → En
  | [], _, ς => ς
  | i :: is, x :: xs, ς => gTs is xs (ς.set i (some x))
  | _, [], ς => ς
structure PGn (X : Cx) (T : Tx) (vs : List Nat) (es : List Expr) (is : List Nat) : Prop where
  run : PGs X es fun ws σ H Q => ∃ (as : List A) (ς : En) (G : GS) (Qa : En → Gp → Prop), RVs T G H as ws ∧ RS T G H ς σ ∧ RG T H G ∧ as.length = is.length ∧ Qa (gTs is as ς) G ∧ ∀ ς' (G' : GS) σ' H', Qa ς' G' → RS T G' H' ς' σ' → RG T H' G' → Kp G H G' H' → wipe σ' vs = wipe σ vs → Q σ' H'
theorem PGs.imp {X : Cx} {e : List Expr} {t t' : TGs} (p : PGs X e t) (h : ∀ v σ H Q, t' v σ H Q → t v σ H Q) : PGs X e t' := ⟨fun pins s σ H v u Q I r q => p.run pins s σ H v u Q I r (h v σ H Q q)⟩
theorem gn_nil {vs : List Nat} : PGn X T vs [] [] := ⟨PGs.imp pgs_nil fun ws σ H Q ⟨as, ς, G, Qa, rv, rs, rg, hl, h, q⟩ => by
  obtain rfl : as = [] := List.eq_nil_of_length_eq_zero hl
  exact ⟨rvs0 rv, q _ _ _ _ h rs rg Kp.refl rfl⟩⟩
theorem gn_cons {vs is : List Nat} {j : Nat} {x : Str} {es : List Expr} (hN : X.N.Nodup) (hi : X.N[j]? = some x) (hx : Loc X.env.scope x) (hf : X.fn x = true ∨ X.env.scope.names.lookup x = some .local) (hv : j ∈ vs) (h : PGn X T vs es is)
    (hs : (assignEach (.Name x pos :: es) X.env).map (·.2) = assign (.Name x pos) X.env :: (assignEach es X.env).map (·.2)) : PGn X T vs (.Name x pos :: es) (j :: is) := ⟨by
  refine PGs.imp (pgs_cons (pg_name hN hi hx hf) h.run hs) fun ws σ H Q ⟨as, ς, G, Qa, rv, rs, rg, hl, hh, q⟩ => ?_
  cases as with
  | nil => simp at hl
  | cons a as =>
    simp only [RVs] at rv
    obtain ⟨w, ws', rfl, r1, r2⟩ := rv
    refine ⟨w, ws', rfl, as, ς.set j (some a), G, Qa, r2, rs.set j r1, rg, by simpa using hl, hh, fun ς' G' σ' H' a b c d e => q ς' G' σ' H' a b c d (e.trans (wipe_mem hv))⟩⟩
def gTup (is : List Nat) : GA := fun a ς G Q => match a with
  | .tup xs => xs.length = is.length ∧ Q (gTs is xs ς) G
  | _ => False
theorem g_tup {vs is : List Nat} {es : List Expr} {k : Nat} (hT : T.K = X.K) (hc : X.calm = true) (h : PGn X T vs es is) (hn : (assignEach es X.env).length = is.length) (hst : (assignEach es X.env).findIdx? (·.1) = none) : PG X (.Tuple es k pos) (lG T vs (gTup is)) := by
  refine PG.imp (pg_tup hc h.run hn hst) fun v σ H Q ⟨a, ς, G, Qa, rv, rs, rg, hh, q⟩ => ?_
  cases a with
  | tup xs =>
    obtain ⟨p, ws, rfl, sq, rvs⟩ := rv_tup rv
    exact ⟨p, ws, rfl, hT ▸ sq.sq, by rw [rvs.len]; exact hh.1, xs, ς, G, Qa, rvs, rs, rg, hh.1, hh.2, q⟩
  | _ => exact False.elim hh
end
end Q
/-! Nd1: keys; dicts as lists of pairs; reading and writing them. -/
namespace Q
open PySem PySem.Spec PyProof.Rows L2
mutual
def A.beq : A → A → Bool
  | .non, .non => true
  | .bl a, .bl b => a == b
  | .int a, .int b => decide (a = b)
  | .str a, .str b => decide (a = b)
  | .tup a, .tup b => A.beqs a b
  | .scr a, .scr b => A.beqs a b
  | .fro a, .fro b => A.beqs a b
  | .fdc a b, .fdc c d => A.beqs a c && A.beqs b d
  | .fin C n a, .fin D m b => decide (C = D) && decide (n = m) && A.beqs a b
  | .exn C n a, .exn D m b => decide (C = D) && decide (n = m) && A.beqs a b
  | .ref a, .ref b => decide (a = b)
  | _, _ => false
def A.beqs : List A → List A → Bool
  | [], [] => true
  | x :: xs, y :: ys => A.beq x y && A.beqs xs ys
  | _, _ => false
end
mutual
theorem A.beq_eq : ∀ a b : A, A.beq a b = true ↔ a = b
  | .non, b => by cases b <;> simp [A.beq]
  | .bl x, b => by cases b <;> simp [A.beq]
  | .int x, b => by cases b <;> simp [A.beq]
  | .str x, b => by cases b <;> simp [A.beq]
  | .tup x, b => by cases b <;> simp [A.beq, A.beqs_eq x]
  | .scr x, b => by cases b <;> simp [A.beq, A.beqs_eq x]
  | .fro x, b => by cases b <;> simp [A.beq, A.beqs_eq x]
  | .fdc x y, b => by cases b <;> simp [A.beq, A.beqs_eq x, A.beqs_eq y]
  | .fin C n x, b => by cases b <;> simp [A.beq, A.beqs_eq x, and_assoc]
  | .exn C n x, b => by cases b <;> simp [A.beq, A.beqs_eq x, and_assoc]
  | .ref x, b => by cases b <;> simp [A.beq]
theorem A.beqs_eq : ∀ a b : List A, A.beqs a b = true ↔ a = b
  | [], b => by cases b <;> simp [A.beqs]
  | x :: xs, b => by cases b <;> simp [A.beqs, A.beq_eq x, A.beqs_eq xs]
end
instance : DecidableEq A := fun a b => decidable_of_iff _ (A.beq_eq a b)
/-! ### lists of pairs -/
def valA (kvs : List (A × A)) (k : A) : Option A := (kvs.find? fun p => decide (p.1 = k)).map (·.2)
def putA (kvs : List (A × A)) (k v : A) : List (A × A) :=
  if (kvs.any fun p => decide (p.1 = k)) = true then kvs.map (fun p => if p.1 = k then (p.1, v) else p) else kvs ++ [(k, v)]
section
variable {T : Tx} {G G' : GS} {H H' : Hp} {κ : Type} [DecidableEq κ] {e : κ → A}
/-- pairs of trees and pairs of the hand layer -/
abbrev RKg (T : Tx) (G : GS) (H : Hp) (e : κ → A) (kvs : List (A × A)) (qs : List (κ × V)) : Prop := Paired (fun (p : A × A) (q : κ × V) => p.1 = e q.1 ∧ RV T G H p.2 q.2) kvs qs
theorem RKg.len {kvs : List (A × A)} {qs : List (κ × V)} (h : RKg T G H e kvs qs) : qs.length = kvs.length := (Paired.length h).symm
theorem RKg.val (inj : ∀ a b, e a = e b → a = b) (k : κ) : ∀ {kvs : List (A × A)} {qs : List (κ × V)}, RKg T G H e kvs qs → (valA kvs (e k) = none ∧ valV qs k = none) ∨ ∃ a v, valA kvs (e k) = some a ∧ valV qs k = some v ∧ RV T G H a v
  | _, _, .nil => .inl ⟨rfl, rfl⟩
  | _, _, @Paired.cons _ _ _ p q kvs qs r t => by
    by_cases hk : q.1 = k
    · refine .inr ⟨p.2, q.2, ?_, valV_pos hk, r.2⟩
      simp [valA, List.find?_cons, r.1, hk]
    · have h1 : ¬ p.1 = e k := fun z => hk (inj _ _ (r.1.symm.trans z))
      have z := RKg.val inj k t
      rw [valV_neg hk]
      have e2 : valA (p :: kvs) (e k) = valA kvs (e k) := by simp [valA, List.find?_cons, h1]
      rw [e2]; exact z
theorem RKg.any (inj : ∀ a b, e a = e b → a = b) (k : κ) : ∀ {kvs : List (A × A)} {qs : List (κ × V)}, RKg T G H e kvs qs → (kvs.any fun p => decide (p.1 = e k)) = qs.any fun q => decide (q.1 = k)
  | _, _, .nil => rfl
  | _, _, @Paired.cons _ _ _ p q kvs qs r t => by
    have ih := RKg.any inj k t
    rw [List.any_cons, List.any_cons, ih]
    have : decide (p.1 = e k) = decide (q.1 = k) := by
      rw [r.1]
      by_cases hk : q.1 = k
      · rw [decide_eq_true hk, decide_eq_true (by rw [hk])]
      · rw [decide_eq_false hk, decide_eq_false fun z => hk (inj _ _ z)]
    rw [this]
theorem RKg.set (inj : ∀ a b, e a = e b → a = b) (k : κ) {a : A} {v : V} (rv : RV T G H a v) : ∀ {kvs : List (A × A)} {qs : List (κ × V)}, RKg T G H e kvs qs →
    RKg T G H e (kvs.map fun p => if p.1 = e k then (p.1, a) else p) (qs.map fun q => if q.1 = k then (q.1, v) else q)
  | _, _, .nil => .nil
  | _, _, @Paired.cons _ _ _ p q kvs qs r t => by
    refine .cons ?_ (RKg.set inj k rv t)
    by_cases hk : q.1 = k
    · show (if p.1 = e k then (p.1, a) else p).1 = e (if q.1 = k then (q.1, v) else q).1 ∧ RV T G H (if p.1 = e k then (p.1, a) else p).2 (if q.1 = k then (q.1, v) else q).2
      rw [if_pos hk, if_pos (by rw [r.1, hk])]; exact ⟨r.1, rv⟩
    · show (if p.1 = e k then (p.1, a) else p).1 = e (if q.1 = k then (q.1, v) else q).1 ∧ RV T G H (if p.1 = e k then (p.1, a) else p).2 (if q.1 = k then (q.1, v) else q).2
      rw [if_neg hk, if_neg fun z => hk (inj _ _ (r.1.symm.trans z))]; exact r
theorem RKg.app {kvs ls : List (A × A)} {qs rs : List (κ × V)} (h : RKg T G H e kvs qs) (k : RKg T G H e ls rs) : RKg T G H e (kvs ++ ls) (qs ++ rs) := by
  induction h with
  | nil => exact k
  | cons r _ ih => exact .cons r ih
theorem RKg.put (inj : ∀ a b, e a = e b → a = b) (k : κ) {a : A} {v : V} (rv : RV T G H a v) {kvs : List (A × A)} {qs : List (κ × V)} (h : RKg T G H e kvs qs) : RKg T G H e (putA kvs (e k) a) (putK qs k v) := by
  unfold putA putK
  rw [RKg.any inj k h]
  split
  · exact RKg.set inj k rv h
  · exact RKg.app h (.cons ⟨rfl, rv⟩ .nil)
end
theorem keyA_inj : ∀ a b : Key, keyA a = keyA b → a = b
  | .inl _, .inl _, h => by cases h; rfl
  | .inr _, .inr _, h => by cases h; rfl
  | .inl _, .inr _, h => by cases h
  | .inr _, .inl _, h => by cases h
def keysA (ks : List Key) : A := .tup (ks.map keyA)
theorem keysA_inj (a b : List Key) (h : keysA a = keysA b) : a = b := by
  unfold keysA at h
  injection h with h
  induction a generalizing b with
  | nil => cases b with
    | nil => rfl
    | cons y ys => simp at h
  | cons x xs ih => cases b with
    | nil => simp at h
    | cons y ys =>
      simp only [List.map_cons, List.cons.injEq] at h
      rw [keyA_inj _ _ h.1, ih _ h.2]
/-- a key that is an int or a text; a tuple of such, not empty -/
def isK : A → Option Key
  | .int i => some (.inl i)
  | .str x => some (.inr x)
  | _ => none
def isKs : List A → Option (List Key)
  | [] => some []
  | x :: xs => match isK x, isKs xs with
    | some k, some ks => some (k :: ks)
    | _, _ => none
def isKT : A → Option (List Key)
  | .tup xs => isKs xs
  | _ => none
theorem isK_eq {a : A} {k : Key} (h : isK a = some k) : a = keyA k := by
  cases a <;> simp only [isK, reduceCtorEq, Option.some.injEq] at h <;> subst h <;> rfl
theorem isK_key (k : Key) : isK (keyA k) = some k := by cases k <;> rfl
theorem isKs_eq : ∀ {xs : List A} {ks : List Key}, isKs xs = some ks → xs = ks.map keyA
  | [], ks, h => by simp only [isKs, Option.some.injEq] at h; subst h; rfl
  | x :: xs, ks, h => by
    simp only [isKs] at h
    split at h
    · rename_i k r h1 h2
      cases h
      rw [List.map_cons, isK_eq h1, isKs_eq h2]
    · cases h
theorem isKs_key : ∀ ks : List Key, isKs (ks.map keyA) = some ks
  | [] => rfl
  | k :: ks => by simp only [List.map_cons, isKs, isK_key, isKs_key ks]
theorem isKT_eq {a : A} {ks : List Key} (h : isKT a = some ks) : a = keysA ks := by
  cases a <;> simp only [isKT, reduceCtorEq] at h
  rw [isKs_eq h]; rfl
/-- the key k goes with the pairs' keys -/
def keyOk (k : A) (kvs : List (A × A)) : Bool := match k with
  | .tup [] => false
  | .tup xs => (isKs xs).isSome && kvs.all fun p => (isKT p.1).isSome
  | k => (isK k).isSome && kvs.all fun p => (isK p.1).isSome
theorem keyOk_cases {k : A} {kvs : List (A × A)} (h : keyOk k kvs = true) : (∃ q, k = keyA q ∧ ∀ p ∈ kvs, ∃ r, p.1 = keyA r) ∨ ∃ q, k = keysA q ∧ q ≠ [] ∧ ∀ p ∈ kvs, ∃ r, p.1 = keysA r := by
  unfold keyOk at h
  split at h
  · cases h
  · rename_i xs hx
    simp only [Bool.and_eq_true, List.all_eq_true] at h
    obtain ⟨ks, e⟩ := Option.isSome_iff_exists.mp h.1
    refine .inr ⟨ks, by unfold keysA; rw [isKs_eq e], fun z => ?_, fun p m => ?_⟩
    · subst z; exact hx (by rw [isKs_eq e]; rfl)
    · obtain ⟨r, e⟩ := Option.isSome_iff_exists.mp (h.2 p m)
      exact ⟨r, isKT_eq e⟩
  · simp only [Bool.and_eq_true, List.all_eq_true] at h
    obtain ⟨q, e⟩ := Option.isSome_iff_exists.mp h.1
    refine .inl ⟨q, isK_eq e, fun p m => ?_⟩
    obtain ⟨r, e⟩ := Option.isSome_iff_exists.mp (h.2 p m)
    exact ⟨r, isK_eq e⟩
/-! ### dicts -/
def dctOf (G : Gp) : A → Option (List (A × A))
  | .fdc ks vs => some (ks.zip vs)
  | .ref p => match G p with
    | some (.dct kvs) => some kvs
    | _ => none
  | _ => none
section
variable {X : Cx} {T : Tx} {G : GS} {H : Hp} {pins : List (Addr × Obj)} {σ : L2.St} {s : Shared}
theorem rk_zip {κ : Type} {e : κ → A} : ∀ {qs : List (κ × V)} {vs : List A}, RVs T G H vs (qs.map (·.2)) → RKg T G H e ((qs.map fun q => e q.1).zip vs) qs
  | [], vs, h => .nil
  | q :: qs, [], h => by simp [RVs] at h
  | q :: qs, v :: vs, h => by
    simp only [List.map_cons, RVs] at h
    obtain ⟨w, r, e1, h1, h2⟩ := h
    cases e1
    exact .cons ⟨rfl, h1⟩ (rk_zip h2)
/-- what stands for a dict of these pairs -/
def DRep (T : Tx) (G : GS) (H : Hp) (p : Addr) (kvs : List (A × A)) : Prop := (∃ qs, H p = some (.dK qs) ∧ RKg T G H keyA kvs qs) ∨ ∃ qs, H p = some (.dT qs) ∧ RKg T G H keysA kvs qs
theorem dctOf_rep {a : A} {v : V} {kvs : List (A × A)} (rg : RG T H G) (h : dctOf G a = some kvs) (r : RV T G H a v) : ∃ p, v = .ref p ∧ DRep T G H p kvs := by
  cases a with
  | fdc ks vs =>
    simp only [dctOf, Option.some.injEq] at h
    subst h
    simp only [RV] at r
    obtain ⟨p, ws, rfl, _, rv, r⟩ := r
    rcases r with ⟨qs, e, rfl, rfl⟩ | ⟨qs, e, rfl, rfl⟩
    · exact ⟨p, rfl, .inl ⟨qs, e, rk_zip rv⟩⟩
    · exact ⟨p, rfl, .inr ⟨qs, e, rk_zip (e := keysA) rv⟩⟩
  | ref p =>
    obtain rfl := rv_ref r
    simp only [dctOf] at h
    split at h
    · rename_i l e
      cases h
      exact ⟨p, rfl, rg p _ e⟩
    · cases h
  | _ => simp [dctOf] at h
/-- an empty dict is one of either kind -/
theorem swapT (I : Inv X pins σ H s) {p : Addr} (e : H p = some (.dK [])) : Inv X pins σ (upd H p (.dT [])) s := by
  obtain ⟨z, hd, vs, kv, ob, es, ep, h1, h2, h3, _, h5, _⟩ := I.hok p _ e
  cases kv
  have he : es.toList = [] := by cases hl : es.toList with
    | nil => rfl
    | cons y ys => rw [hl] at h5; cases h5
  exact I.write (x := p) (e := p) (t' := s.toks) (by rw [e]; exact True.intro) (.inl rfl) (fun _ _ _ q => q) ⟨_, h1⟩ ⟨z, hd, [], .nil, ob, es, ep, h1, h2, h3, by rw [he]; rfl, List.nodup_nil⟩
theorem swapK (I : Inv X pins σ H s) {p : Addr} (e : H p = some (.dT [])) : Inv X pins σ (upd H p (.dK [])) s := by
  obtain ⟨z, hd, xs, kv, ob, es, ep, h1, h2, h3, h4, _⟩ := I.hok p _ e
  cases kv
  have he : es.toList = [] := h4
  have he2 : es = #[] := by cases es; simp at he; subst he; rfl
  subst he2
  exact I.write (x := p) (e := p) (t' := s.toks) (by rw [e]; exact True.intro) (.inl rfl) (fun _ _ _ q => q) ⟨_, h1⟩ ⟨z, hd, [], .nil, ob, #[], ep, h1, h2, h3, fun x m => by simp at m, .nil, List.nodup_nil⟩
theorem upd_back {p : Addr} {o u : HO} (e : H p = some o) : upd (upd H p u) p o = H := by
  rw [upd_upd]
  funext b
  by_cases hb : b = p
  · subst hb; rw [upd_same, e]
  · rw [upd_ne hb]
/-- a value that is a key, as the hand layer has it -/
theorem key_rep {q : Key} {v : V} (r : RV T G H (keyA q) v) : v = kV q := by
  cases q <;> simpa only [keyA, RV, kV] using r
theorem keys_rep {q : List Key} {v : V} (hq : q ≠ []) (r : RV T G H (keysA q) v) : ∃ b, v = .ref b ∧ H b = some (.tup (q.map kV)) ∧ Fx G b := by
  unfold keysA at r
  obtain ⟨b, vs, rfl, sq, rv⟩ := rv_tup r
  have e : vs = q.map kV := by
    clear r sq hq
    induction q generalizing vs with
    | nil => simpa [RVs] using rv
    | cons x xs ih =>
      simp only [List.map_cons, RVs] at rv
      obtain ⟨w, r', rfl, h1, h2⟩ := rv
      rw [key_rep h1, ih _ h2]; rfl
  subst e
  rcases sq with ⟨f, h⟩ | ⟨z, _⟩
  · exact ⟨b, rfl, h, f⟩
  · cases q with
    | nil => exact absurd rfl hq
    | cons _ _ => simp at z
/-- what is got at a key: the dict's place in the hand layer may have to be taken for one of the other kind, where it is empty -/
theorem dget {p : Addr} {kvs : List (A × A)} {k : A} {y : V} (I : Inv X pins σ H s) (d : DRep T G H p kvs) (hk : keyOk k kvs = true) (r : RV T G H k y) :
    ∃ H2 o, Inv X pins σ H2 s ∧ (∀ s', Inv X pins σ H2 s' → Inv X pins σ H s') ∧ DGet H2 p y o ∧ ((valA kvs k = none ∧ o = none) ∨ ∃ a v, valA kvs k = some a ∧ o = some v ∧ RV T G H a v) := by
  rcases keyOk_cases hk with ⟨q, rfl, hall⟩ | ⟨q, rfl, hq, hall⟩
  · have ey := key_rep r
    subst ey
    rcases d with ⟨qs, e, rk⟩ | ⟨qs, e, rk⟩
    · refine ⟨H, valV qs q, I, fun _ z => z, .k e, ?_⟩
      rcases rk.val keyA_inj q with ⟨a, b⟩ | ⟨a, v, b, c, d⟩
      · exact .inl ⟨a, b⟩
      · exact .inr ⟨a, v, b, c, d⟩
    · cases rk with
      | nil => exact ⟨_, none, swapK I e, fun s' z => by have := swapT z upd_same; rwa [upd_back e] at this, .k upd_same, .inl ⟨rfl, rfl⟩⟩
      | cons z _ =>
        obtain ⟨r2, e2⟩ := hall _ List.mem_cons_self
        rw [z.1] at e2
        cases r2 <;> cases e2
  · obtain ⟨b, rfl, eb, _⟩ := keys_rep hq r
    rcases d with ⟨qs, e, rk⟩ | ⟨qs, e, rk⟩
    · cases rk with
      | nil =>
        have hb : b ≠ p := fun z => by subst z; rw [e] at eb; cases eb
        exact ⟨_, none, swapT I e, fun s' z => by have := swapK z upd_same; rwa [upd_back e] at this, .t upd_same (by rw [upd_ne hb]; exact eb), .inl ⟨rfl, rfl⟩⟩
      | cons z _ =>
        obtain ⟨r2, e2⟩ := hall _ List.mem_cons_self
        rw [z.1] at e2
        rename_i q0 _ _ _
        obtain ⟨q1, _⟩ := q0
        cases q1 <;> cases e2
    · refine ⟨H, valV qs q, I, fun _ z => z, .t e eb, ?_⟩
      rcases rk.val keysA_inj q with ⟨a, b⟩ | ⟨a, v, b, c, d⟩
      · exact .inl ⟨a, b⟩
      · exact .inr ⟨a, v, b, c, d⟩
/-- a pair is put -/
theorem dput {p : Addr} {kvs : List (A × A)} {k a : A} {y v : V} (I : Inv X pins σ H s) (rg : RG T H G) (gp : G p = some (.dct kvs)) (hk : keyOk k kvs = true) (hl : kvs.length < sizeLine) (r : RV T G H k y) (rv : RV T G H a v) :
    ∃ H2 H', Inv X pins σ H2 s ∧ DPut H2 p y v H' ∧ RG T H' (G.up p (.dct (putA kvs k a))) ∧ Kp G H (G.up p (.dct (putA kvs k a))) H' := by
  have ne : G p ≠ none := by rw [show G p = some _ from gp]; simp
  have d : DRep T G H p kvs := rg p _ gp
  have fin : ∀ h : HO, RO T (G.up p (.dct (putA kvs k a))) (upd H p h) p (.dct (putA kvs k a)) → RG T (upd H p h) (G.up p (.dct (putA kvs k a))) ∧ Kp G H (G.up p (.dct (putA kvs k a))) (upd H p h) := fun h ro => by
    have kp : Kp G H (G.up p (.dct (putA kvs k a))) (upd H p h) := Kp.wr ne
    exact ⟨rg.up kp ro, kp⟩
  have kp : ∀ h : HO, Kp G H (G.up p (.dct (putA kvs k a))) (upd H p h) := fun h => Kp.wr ne
  rcases keyOk_cases hk with ⟨q, rfl, hall⟩ | ⟨q, rfl, hq, hall⟩
  · have ey := key_rep r
    subst ey
    rcases d with ⟨qs, e, rk⟩ | ⟨qs, e, rk⟩
    · refine ⟨H, _, I, .k e (by rw [rk.len]; exact hl), fin _ (.inl ⟨_, upd_same, ?_⟩)⟩
      exact RKg.put keyA_inj q (rv.mono (kp _)) (Paired.mapP rk fun _ _ z => ⟨z.1, z.2.mono (kp _)⟩)
    · cases rk with
      | nil =>
        refine ⟨_, _, swapK I e, .k upd_same (by decide), ?_⟩
        rw [upd_upd]
        exact fin _ (.inl ⟨_, upd_same, RKg.put keyA_inj q (rv.mono (kp _)) .nil⟩)
      | cons z _ =>
        obtain ⟨r2, e2⟩ := hall _ List.mem_cons_self
        rw [z.1] at e2
        cases r2 <;> cases e2
  · obtain ⟨b, rfl, eb, _⟩ := keys_rep hq r
    have hb : b ≠ p := fun z => by
      subst z
      rcases d with ⟨qs, e, _⟩ | ⟨qs, e, _⟩ <;> rw [e] at eb <;> cases eb
    rcases d with ⟨qs, e, rk⟩ | ⟨qs, e, rk⟩
    · cases rk with
      | nil =>
        refine ⟨_, _, swapT I e, .t upd_same (by rw [upd_ne hb]; exact eb) (by decide), ?_⟩
        rw [upd_upd]
        exact fin _ (.inr ⟨_, upd_same, RKg.put keysA_inj q (rv.mono (kp _)) .nil⟩)
      | cons z _ =>
        obtain ⟨r2, e2⟩ := hall _ List.mem_cons_self
        rw [z.1] at e2
        rename_i q0 _ _ _
        obtain ⟨q1, _⟩ := q0
        cases q1 <;> cases e2
    · refine ⟨H, _, I, .t e eb (by rw [rk.len]; exact hl), fin _ (.inr ⟨_, upd_same, ?_⟩)⟩
      exact RKg.put keysA_inj q (rv.mono (kp _)) (Paired.mapP rk fun _ _ z => ⟨z.1, z.2.mono (kp _)⟩)
end
end Q
/-! Nd2: sorted of a list, of a dict. -/
namespace Q
open PySem PySem.Spec PyProof.Rows L2
/-- all that is never written may be taken for frozen -/
theorem Kp.all {G : GS} {H : Hp} : Kp G H (G.all H) H := by
  refine ⟨fun _ _ a b => ⟨a, b⟩, fun _ h => .inl h, fun b h => ?_⟩
  rcases h with h | h
  · exact .inl h
  · exact .inr (.inr (.inr h))
def dOf (a : A) : PyData := (pyd a).getD .none
def aLe (a b : A) : Bool := !PySem.W.dataLt (dOf b) (dOf a)
def srt (xs : List A) : List A := xs.mergeSort aLe
/-- the items of a list; the keys of a dict -/
def itmOf (G : Gp) (a : A) : Option (List A) := match dctOf G a with
  | some kvs => some (kvs.map (·.1))
  | none => lstOf G a
structure SrtOk (xs : List A) : Prop where
  dat : ∀ x ∈ xs, (pyd x).isSome = true
  al : PySem.W.AllAlike (xs.map dOf)
  sb : PySem.W.Sortable (xs.map dOf)
  dp : ∀ x ∈ xs, (dOf x).depth ≤ 60
  sz : xs.length ≤ sizeLine
def sortA (m : Bool) : PN := fun as G Q => ∃ a xs, as = [a] ∧ itmOf G a = some xs ∧ SrtOk xs ∧ new m (.lst (srt xs)) G Q
abbrev EI {α β : Type} (R : α → β → Prop) (as : List α) (bs : List β) : Prop := PySem.W.EachIs R as bs
theorem ei_map {α β γ : Type} {R : α → β → Prop} {S : α → γ → Prop} {f : β → γ} (h : ∀ a b, R a b → S a (f b)) : ∀ {as : List α} {bs : List β}, EI R as bs → EI S as (bs.map f)
  | _, _, .nil => .nil
  | _, _, .cons r t => .cons (h _ _ r) (ei_map h t)
theorem ei_and {α β : Type} {R : α → β → Prop} {P : β → Prop} : ∀ {as : List α} {bs : List β}, EI R as bs → (∀ b ∈ bs, P b) → EI (fun a b => R a b ∧ P b) as bs
  | _, _, .nil, _ => .nil
  | _, _, .cons r t, h => .cons ⟨r, h _ List.mem_cons_self⟩ (ei_and t fun b m => h b (List.mem_cons_of_mem _ m))
section
variable {X : Cx} {T : Tx} {G : GS} {H : Hp} {pins : List (Addr × Obj)} {σ : L2.St} {s : Shared}
theorem ei_of : ∀ {xs : List A} {vs : List V} {us : List Value}, RVs T G H xs vs → Vals vs us → EI (fun (u : Value) (x : A) => ∃ v, RV T G H x v ∧ RelV v u) us xs
  | [], vs, us, r, q => by
    obtain rfl := rvs0 r
    cases q; exact .nil
  | x :: xs, vs, us, r, q => by
    simp only [RVs] at r
    obtain ⟨v, vs', rfl, r1, r2⟩ := r
    cases q with
    | cons q1 q2 => exact .cons ⟨v, r1, q1⟩ (ei_of r2 q2)
theorem ei_to : ∀ {xs : List A} {us : List Value}, EI (fun (u : Value) (x : A) => ∃ v, RV T G H x v ∧ RelV v u) us xs → ∃ vs, RVs T G H xs vs ∧ Vals vs us
  | _, _, .nil => ⟨[], .nil, .nil⟩
  | _, _, .cons ⟨v, r, q⟩ t => let ⟨vs, a, b⟩ := ei_to t; ⟨v :: vs, .cons r a, .cons q b⟩
theorem vals_self {κ : PyProof.Rows.KeyKind} (us : List Value) : PySem.W.sortVals κ false us us = us.mergeSort (fun u u' => !κ.blt (PySem.W.keyD κ u') (PySem.W.keyD κ u)) := by
  unfold PySem.W.sortVals
  rw [PySem.W.sort_maps Prod.snd (s := fun u u' => !κ.blt (PySem.W.keyD κ u') (PySem.W.keyD κ u)), List.map_snd_zip (Nat.le_refl _)]
  intro p hp q hq
  show (!κ.blt (PySem.W.keyD κ q.1) (PySem.W.keyD κ p.1)) = _
  rw [(mem_zip_self hp).1, (mem_zip_self hq).1]
/-- the values of a list of data, sorted -/
theorem sort_core (ok : T.Ok X) (I : Inv X pins σ H s) (rg : RG T H G) {xs : List A} {vs : List V} {us : List Value} (rv : RVs T G H xs vs) (vl : Vals vs us) (h : SrtOk xs) {h' : Heap} (hk : ∀ b o, s.heap.get? b = some o → h'.get? b = some o) (A : Around) (hA : A.units + 62 < cLine) (tk : Nat) :
    ∃ κ, PySem.W.SortsAt X.prog X.w A { s with heap := h', toks := tk } κ us ∧ ∃ vs', RVs T G H (srt xs) vs' ∧ Vals vs' (PySem.W.sortVals κ false us us) := by
  have e0 := ei_and (ei_of rv vl) h.dat
  have rd : ∀ (u : Value) (x : Q.A), (∃ v, RV T G H x v ∧ RelV v u) ∧ (pyd x).isSome = true → ∃ as, Reads h' u (dOf x) as := by
    rintro u x ⟨⟨v, r, q⟩, hx⟩
    obtain ⟨d, e⟩ := Option.isSome_iff_exists.mp hx
    obtain ⟨as, z, _⟩ := dat_reads ok I rg (Dt.of e) r q
    have e2 : dOf x = d := by unfold dOf; rw [e]; rfl
    rw [e2]
    exact ⟨as, Reads.keeps hk z⟩
  have e1 : EI (fun u d => ∃ as, Reads h' u d as) us (xs.map dOf) := ei_map rd e0
  refine ⟨PySem.W.dataKind h' (xs.map dOf), PySem.W.SortsAt.data (s := { s with heap := h', toks := tk }) e1 h.al h.sb fun d m => ?_, ?_⟩
  · obtain ⟨x, hx, rfl⟩ := List.mem_map.mp m
    have := h.dp x hx; omega
  · rw [vals_self]
    refine ei_to (PySem.W.sort_each (s := aLe) (ei_of rv vl) fun p hp q hq => ?_)
    have key : ∀ p ∈ us.zip xs, PySem.W.keyD (PySem.W.dataKind h' (xs.map dOf)) p.1 = PySem.W.keyToks (dOf p.2) := fun p hp => by
      obtain ⟨as, z⟩ := rd _ _ (e0.zip p hp)
      exact PySem.W.keyD_some (PySem.W.dataKind_some h.al (List.mem_map.mpr ⟨p.2, (List.of_mem_zip hp).2, rfl⟩) z)
    rw [key p hp, key q hq]
    rfl
theorem vals_len {vs : List V} {us : List Value} (h : Vals vs us) : vs.length = us.length := h.length
/-- sorted of a list -/
theorem sorted_list (ok : T.Ok X) (hu : X.A.units + 64 < cLine) (I : Inv X pins σ H s) (rg : RG T H G) {m : Bool} {xs : List A} {vs : List V} {p : Addr} (sq : H p = some (.lst vs)) (rv : RVs T G H xs vs) (h : SrtOk xs) {Qa : KA} {Q : VK} (hf : new m (.lst (srt xs)) G Qa) (q : LQ T G H Qa Q) :
    wpAny (model X.prog X.w) X.A (call (.builtin "sorted") [.ref p]) (EP X pins σ Q) X.xe s := by
  obtain ⟨its, vl, pl, hz⟩ := I.list (.of sq)
  have hA : X.A.in1.in1.units + 62 < cLine := by have : X.A.in1.in1.units = X.A.units + 2 := rfl; omega
  obtain ⟨κ, S, vs', rv', vl'⟩ := sort_core ok I rg rv vl h (h' := PySem.W.sortingHeap (PySem.W.copyHeap s.heap its) (s.heap.objs.size + 1) its) (fun b o e => PySem.W.sorting_copy_old e) X.A.in1.in1 hA s.toks
  refine PySem.W.sorted_vals pl.isList S (by rw [← vl.length]; exact hz) ?_
  obtain ⟨ep, he'⟩ := PyProof.Rows.sortedAll_at s.heap its (PySem.W.sortVals κ false its its).toArray
  refine ⟨.ref _, upd H (s.heap.objs.size + 1) (.lst vs'), I.laid (t' := s.toks) (fun _ _ => PyProof.Rows.sortedAll_old) (Nat.le_succ _) ⟨?_, _, ep, vl', he'⟩, rfl, new_lst rg rv' hf q (I.hok.fresh (Nat.le_succ _))⟩
  rw [rv'.len]
  show (xs.mergeSort aLe).length ≤ _
  rw [List.length_mergeSort]
  exact h.sz
theorem arr_keys {es : Array DictEntry} {acc : Array Value} (h : ItemsOf (fun i v => ∃ en : DictEntry, es[i]? = some en ∧ v = en.key) acc es.size) : acc.toList = es.toList.map (·.key) := by
  have hl : acc.toList.length = es.size := by rw [Array.length_toList]; exact h.1
  apply List.ext_getElem?
  intro j
  rw [List.getElem?_map]
  by_cases hj : j < es.size
  · have e1 : acc.toList[j]? = some (acc.toList[j]'(by omega)) := List.getElem?_eq_getElem _
    obtain ⟨en, hen, hv⟩ := h.2 j _ (by rw [← Array.getElem?_toList]; exact e1)
    rw [e1, hv, Array.getElem?_toList, hen]; rfl
  · rw [List.getElem?_eq_none (by omega), List.getElem?_eq_none (by simpa using hj)]; rfl
/-- a dict's object: its keys -/
theorem drep_keys (I : Inv X pins σ H s) {kvs : List (A × A)} {p : Addr} (d : DRep T G H p kvs) (free : ∀ p u, imm u → H p = some u → Fx G p) :
    ∃ es ob ep ks, s.heap.get? p = some ob ∧ ob.ExactDict ∧ ob.data = .dict es ep ∧ p ≠ sysModules ∧ RVs T G H (kvs.map (·.1)) ks ∧ Vals ks (es.toList.map (·.key)) := by
  rcases d with ⟨qs, e, rk⟩ | ⟨qs, e, rk⟩
  · obtain ⟨es, ob, ep, ho, hx, hd, ne, a1, a2, _⟩ := rd_dK (T := T) (G := G) I (.inl e)
    exact ⟨es, ob, ep, _, ho, hx, hd, ne, by rw [(rk_split rk).1]; exact a1, a2⟩
  · obtain ⟨es, ob, ep, ks, ho, hx, hd, ne, a1, a2, _⟩ := rd_dT (T := T) (G := G) I free (.inl e)
    exact ⟨es, ob, ep, ks, ho, hx, hd, ne, by rw [(rkt_split rk).1]; exact a1, a2⟩
theorem RG.free_all (rg : RG T H G) : ∀ p u, imm u → H p = some u → Fx (G.all H) p := fun p u i e => ⟨.inr ⟨u, i, e⟩, rg.free_imm p u i e⟩
theorem DRep.all {p : Addr} {kvs : List (A × A)} (d : DRep T G H p kvs) : DRep T (G.all H) H p kvs := by
  rcases d with ⟨qs, e, rk⟩ | ⟨qs, e, rk⟩
  · exact .inl ⟨qs, e, Paired.mapP rk fun _ _ z => ⟨z.1, z.2.mono Kp.all⟩⟩
  · exact .inr ⟨qs, e, Paired.mapP rk fun _ _ z => ⟨z.1, z.2.mono Kp.all⟩⟩
/-- sorted of a dict -/
theorem sorted_dict (hc : X.calm = true) (ok : T.Ok X) (hu : X.A.units + 64 < cLine) (I : Inv X pins σ H s) (rg0 : RG T H G) {m : Bool} {kvs : List (A × A)} {p : Addr} (d0 : DRep T G H p kvs) (h : SrtOk (kvs.map (·.1))) {Qa : KA} {Q : VK} (hf : new m (.lst (srt (kvs.map (·.1)))) G Qa) (q0 : LQ T G H Qa Q) :
    wpAny (model X.prog X.w) X.A (call (.builtin "sorted") [.ref p]) (EP X pins σ Q) X.xe s := by
  have rg := rg0.all
  have q : LQ T (G.all H) H Qa Q := q0.step Kp.all
  obtain ⟨es, ob, ep, ks, ho, hx, hd, ne, rv, vl⟩ := drep_keys I d0.all rg0.free_all
  have hn : es.size ≤ sizeLine := by
    have z1 := vl.length
    rw [rv.len, List.length_map (as := es.toList), Array.length_toList (xs := es)] at z1
    have z2 := h.sz
    omega
  refine Calls.call_function_entry kind_sorted plain_sorted entry_sorted (args_sorted1 (.ref p)) ?_
  unfold Builtin.«sorted»
  refine wpAny_bind (m := checkCount "sorted" 1 1 _) (wpAny_pure (wpAny_bind (PySem.W.kdu_collect (A := X.A.in1) (L2.kdl_raw (by simpa using ne) hx hd) (I.ok.hd hc) ho hn fun h1 tk acc hk hacc => ?_)))
  have ea := arr_keys hacc
  have I1 : Inv X pins σ H { s with heap := h1, toks := tk } := I.kept hk
  rw [ea]
  generalize es.toList.map (·.key) = us at vl ea
  have hz : us.length ≤ sizeLine := by rw [← vl.length, rv.len]; exact h.sz
  refine wpAny_bind (wpAny_newList ?_ hz)
  have hoL : (h1.push (seqObj "list" us.toArray 0)).get? h1.objs.size = some (seqObj "list" us.toArray 0) := Heap.get?_push_size _ rfl
  have hA : X.A.in1.in1.units + 62 < cLine := by have : X.A.in1.in1.units = X.A.units + 2 := rfl; omega
  obtain ⟨κ, S, vs', rv', vl'⟩ := sort_core ok I1 rg rv vl h (h' := PySem.W.sortingHeap (h1.push (seqObj "list" us.toArray 0)) h1.objs.size us)
    (fun b o e => PySem.W.sortingHeap_old (Nat.ne_of_lt (Heap.lt_size e)) (Heap.get?_push_of_some _ e)) X.A.in1.in1 hA tk
  show wpAny _ _ _ _ _ { s with heap := h1.push (seqObj "list" us.toArray 0), toks := tk }
  refine wpAny_bind (wpAny_holding (wpAny_call_entry slot_list_sort ⟨_, hoL, rfl⟩ entry_list_sort
    (PySem.W.list_sort_vals (s := { s with heap := h1.push (seqObj "list" us.toArray 0), toks := tk }) hoL S hz ⟨_, rfl, ?_⟩) (args_list_sort _)))
  obtain ⟨e', he'⟩ := sortedHeap_at (vs := us) (out := (PySem.W.sortVals κ false us us).toArray) hoL
  have hlen : vs'.length ≤ sizeLine := by
    rw [rv'.len]
    show (List.mergeSort _ aLe).length ≤ _
    rw [List.length_mergeSort]
    exact h.sz
  refine wpAny_pure ⟨_, rfl, .ref h1.objs.size, upd H h1.objs.size (.lst vs'), I1.laid (t' := tk) (fun b u e => ?_) (Nat.le_refl _) ⟨hlen, _, e', vl', he'⟩, rfl, new_lst rg rv' hf q (I1.hok.fresh (Nat.le_refl _))⟩
  have hb : b < h1.objs.size := Heap.lt_size e
  rw [sortedHeap_old (Nat.ne_of_lt hb) (by rw [size_push']; exact Nat.lt_succ_of_lt hb)]
  exact Heap.get?_push_of_some _ e
theorem c_sorted {m : Bool} (hc : X.calm = true) (ok : T.Ok X) (hu : X.A.units + 64 < cLine) : CallR X (.builtin "sorted") (lN T (sortA m)) := by
  intro pins s σ H xs us Q I r h
  obtain ⟨as, G, Qa, rv, rg, ⟨a, ys, rfl, h1, hs, hf⟩, q⟩ := h
  obtain ⟨v, rfl, ra⟩ := rvs1 rv
  obtain ⟨u, rfl, ru⟩ := vals1 r
  unfold itmOf at h1
  cases e : dctOf G a with
  | some kvs =>
    rw [e] at h1
    cases h1
    obtain ⟨p, rfl, d⟩ := dctOf_rep rg e ra
    cases ru
    exact sorted_dict hc ok hu I rg d hs hf q
  | none =>
    rw [e] at h1
    obtain ⟨p, vs, rfl, sq, rv'⟩ := lstOf_rep rg h1 ra
    cases ru
    exact sorted_list ok hu I rg sq rv' hs hf q
end
end Q
/-! Nd3: dicts in expressions. -/
namespace Q
open PySem PySem.Spec PyProof.Rows L2
/-- a subscript of a dict too -/
def ixD : P2 := fun a b G Q => match dctOf G a with
  | some kvs => keyOk b kvs = true ∧ ∃ x, valA kvs b = some x ∧ Q x G
  | none => ixA a b G Q
def inD (neg : Bool) : P2 := fun a b G Q => match dctOf G b with
  | some kvs => keyOk a kvs = true ∧ Q (.bl (if neg then !(valA kvs a).isSome else (valA kvs a).isSome)) G
  | none => inA neg a b G Q
def lenD : PN := fun as G Q => match as with
  | [a] => match dctOf G a with
    | some kvs => kvs.length ≤ sizeLine ∧ Q (.int kvs.length) G
    | none => lenA as G Q
  | _ => lenA as G Q
def getA : A → PN := fun a as G Q => match dctOf G a with
  | some kvs => match as with
    | [k] => keyOk k kvs = true ∧ Q ((valA kvs k).getD .non) G
    | [k, z] => keyOk k kvs = true ∧ Q ((valA kvs k).getD z) G
    | _ => False
  | none => False
def gSubD (to ti : EA) : GA := fun v ς G Q => to ς G (fun x G1 => ti ς G1 (fun y G2 => ∃ p, x = .ref p ∧ ((∃ xs k j, y = .int k ∧ G2 p = some (.lst xs) ∧ ixN xs.length k = some j ∧ Q ς (up G2 p (.lst (xs.set j v)))) ∨
  ∃ kvs, G2 p = some (.dct kvs) ∧ keyOk y kvs = true ∧ kvs.length < sizeLine ∧ Q ς (up G2 p (.dct (putA kvs y v))))) (fun _ _ => False)) (fun _ _ => False)
section
variable {X : Cx} {T : Tx} {W : L2.WX} {a b e o i : Expr} {ta tb to ti : EA} {pos tpos : Pos}
theorem dtype {pins : List (Addr × Obj)} {σ : L2.St} {H : Hp} {s : Shared} {G : GS} {p : Addr} {kvs : List (A × A)} (I : Inv X pins σ H s) (d : DRep T G H p kvs) : IsD H p := by
  rcases d with ⟨qs, e, _⟩ | ⟨qs, e, _⟩
  · exact .inl ⟨qs, .inl e⟩
  · exact .inr ⟨qs, .inl e⟩
theorem ix_any2 (hT : T.K = X.K) (hu : X.A.units + 1 < cLine) : IxR X (l2 T ixD) := by
  intro value slice pins s σ H x y v u Q I rx ry ⟨a, b, G, Qa, ra, rb, rg, h, q⟩ hs
  unfold ixD at h
  split at h
  · rename_i kvs e
    obtain ⟨p, rfl, d⟩ := dctOf_rep rg e ra
    obtain ⟨hk, z, hz, h⟩ := h
    obtain ⟨H2, o, I2, back, g, res⟩ := dget I d hk rb
    cases rx
    have ty := (isD_at I (dtype I d)).1
    rcases res with ⟨n, _⟩ | ⟨a', v', h1, h2, r⟩
    · rw [n] at hz; cases hz
    · rw [h1] at hz; cases hz
      subst h2
      exact PyProof.Rows.tail_any ty PySem.F.slot_dict_getitem.lookup (d_getItem hu I2 g ry fun w' s' I' rw' => ⟨v', H, back s' I', rw', q _ _ _ _ h r rg Kp.refl⟩) hs
  · have sq_case : (∃ xs x', ∃ j, b = .int j ∧ seqOf G a = some xs ∧ atI xs j = some x' ∧ Qa x' G) → wpAny (model X.prog X.w) X.A (subscriptTail value slice v u) (EP X pins σ Q) X.xe s := fun ⟨xs, x', j, e0, e1, e2, h2⟩ => by
      subst e0
      obtain ⟨p, vs, rfl, sq, rvs⟩ := seqOf_rep rg e1 ra
      obtain ⟨v', e3, r3⟩ := atI_rep rvs e2
      refine ix_seq value slice pins s σ H _ y v u Q I rx ry ?_ hs
      rcases sq with sq | sq
      · exact .inl ⟨p, vs, j, v', rfl, rv_int rb, hT ▸ sq, e3, q _ _ _ _ h2 r3 rg Kp.refl⟩
      · exact .inr (.inl ⟨p, vs, j, v', rfl, rv_int rb, hT ▸ sq.1.sq, e3, q _ _ _ _ h2 r3 rg Kp.refl⟩)
    unfold ixA at h
    cases b with
    | int j => ?_
    | _ => exact False.elim h
    cases a with
    | str z =>
      obtain ⟨hz, c, e, h2⟩ := h
      exact ix_seq value slice pins s σ H _ y v u Q I rx ry (.inr (.inr ⟨z, j, c, rv_str ra, rv_int rb, hz, e, q _ _ _ _ h2 (rv_s _) rg Kp.refl⟩)) hs
    | _ => exact sq_case (let ⟨xs, x', z1, z2, z3⟩ := h; ⟨xs, x', j, rfl, z1, z2, z3⟩)
theorem p_ixD (hT : T.K = X.K) (hu : X.A.units + 1 < cLine) (ha : PE X a (lE T W ta)) (hb : PE X b (lE T W tb)) (hs : PlainIx b) : PE X (.Subscript a b pos) (lE T W (eBin ixD ta tb)) := by
  refine PE.imp (pe_ix (ix_any2 hT hu) ha hb hs) fun σ H Q ⟨ς, G, Qa, Xa, rs, rg, h, q, hx⟩ => ⟨ς, G, _, Xa, rs, rg, h, fun x G1 v H1 h1 rv rg1 k1 => ?_, hx⟩
  exact ⟨ς, G1, _, Xa, rs.mono k1, rg1, h1, fun y G2 w H2 h2 rw rg2 k2 => ⟨x, y, G2, Qa, rv.mono k2, rw, rg2, h2, q.step (k1.trans k2)⟩, hx.step k1⟩
theorem o_inD (ok : T.Ok X) (hu : X.A.units + 65 < cLine) : OpR X (compareOp .In) (l2 T (inD false)) := by
  intro pins s σ H x y v u Q I rx ry ⟨a, b, G, Qa, ra, rb, rg, h, q⟩
  unfold inD at h
  split at h
  · rename_i kvs e
    obtain ⟨p, rfl, d⟩ := dctOf_rep rg e rb
    obtain ⟨H2, o, I2, back, g, res⟩ := dget I d h.1 ra
    cases ry
    have eo : o.isSome = (valA kvs a).isSome := by rcases res with ⟨n, rfl⟩ | ⟨_, _, h1, rfl, _⟩ <;> simp_all
    exact d_in (by omega) I2 g rx fun s' I' => ⟨.bl _, H, back s' I', rfl, q _ _ _ _ h.2 (by rw [← eo]; exact rv_b _) rg Kp.refl⟩
  · exact o_in ok hu pins s σ H x y v u Q I rx ry ⟨a, b, G, Qa, ra, rb, rg, h, q⟩
theorem o_notinD (ok : T.Ok X) (hu : X.A.units + 65 < cLine) : OpR X (compareOp .NotIn) (l2 T (inD true)) := by
  intro pins s σ H x y v u Q I rx ry ⟨a, b, G, Qa, ra, rb, rg, h, q⟩
  unfold inD at h
  split at h
  · rename_i kvs e
    obtain ⟨p, rfl, d⟩ := dctOf_rep rg e rb
    obtain ⟨H2, o, I2, back, g, res⟩ := dget I d h.1 ra
    cases ry
    have eo : o.isSome = (valA kvs a).isSome := by rcases res with ⟨n, rfl⟩ | ⟨_, _, h1, rfl, _⟩ <;> simp_all
    exact d_notIn (by omega) I2 g rx fun s' I' => ⟨.bl _, H, back s' I', rfl, q _ _ _ _ h.2 (by rw [← eo]; exact rv_b _) rg Kp.refl⟩
  · exact o_notin ok hu pins s σ H x y v u Q I rx ry ⟨a, b, G, Qa, ra, rb, rg, h, q⟩
theorem c_lenD (hT : T.K = X.K) : CallR X (.builtin "len") (lN T lenD) := by
  intro pins s σ H xs us Q I r ⟨as, G, Qa, rv, rg, hf, q⟩
  unfold lenD at hf
  split at hf
  · rename_i a
    split at hf
    · rename_i kvs e
      obtain ⟨v, rfl, ra⟩ := rvs1 rv
      obtain ⟨p, rfl, d⟩ := dctOf_rep rg e ra
      obtain ⟨u, rfl, ru⟩ := vals1 r
      cases ru
      rcases d with ⟨qs, e, rk⟩ | ⟨qs, e, rk⟩
      · exact d_len I (.inl e) fun t s' I' => ⟨.int qs.length, H, I', ⟨t, rfl⟩, q _ _ _ _ hf.2 (by rw [rk.len]; exact rv_i _) rg Kp.refl⟩
      · exact call_len_dT pins s σ H _ _ Q I r ⟨p, qs, rfl, e, q _ _ _ _ hf.2 (by rw [rk.len]; exact rv_i _) rg Kp.refl⟩
    · exact c_len hT pins s σ H xs us Q I r ⟨_, G, Qa, rv, rg, hf, q⟩
  · exact c_len hT pins s σ H xs us Q I r ⟨as, G, Qa, rv, rg, hf, q⟩
theorem m_get (hu : X.A.units + 1 < cLine) : MtR X "dict.get" (lM T getA) := by
  intro pins s σ H x xs v us Q I rx rs hh
  obtain ⟨a, as, G, Qa, ra, rv, rg, h, q⟩ := hh
  unfold getA at h
  split at h
  · rename_i kvs e
    obtain ⟨p, rfl, d⟩ := dctOf_rep rg e ra
    cases rx
    split at h
    · rename_i k
      obtain ⟨v1, rfl, r1⟩ := rvs1 rv
      obtain ⟨u1, rfl, q1⟩ := vals1 rs
      obtain ⟨H2, o, I2, back, g, res⟩ := dget I d h.1 r1
      refine d_get1 hu I2 g q1 fun w' s' I' rw' => ⟨_, H, back s' I', rw', q _ _ _ _ h.2 ?_ rg Kp.refl⟩
      rcases res with ⟨n, rfl⟩ | ⟨a', v', h1, rfl, r⟩
      · rw [n]; exact rv_n
      · rw [h1]; exact r
    · rename_i k z
      obtain ⟨v1, v2, rfl, r1, r2⟩ := rvs2 rv
      obtain ⟨u1, u2, rfl, q1, q2⟩ := vals2 rs
      obtain ⟨H2, o, I2, back, g, res⟩ := dget I d h.1 r1
      refine d_get2 hu I2 g q1 q2 fun w' s' I' rw' => ⟨_, H, back s' I', rw', q _ _ _ _ h.2 ?_ rg Kp.refl⟩
      rcases res with ⟨n, rfl⟩ | ⟨a', v', h1, rfl, r⟩
      · rw [n]; exact r2
      · rw [h1]; exact r
    · exact h.elim
  · exact h.elim
/-- the store o[i] = v, of a list, of a dict -/
def tSetD (T : Tx) : TSet := fun o i v H Q => ∃ p a b, ∃ G : GS, o = .ref p ∧ RV T G H a i ∧ RV T G H b v ∧ RG T H G ∧
  ((∃ xs k j, a = .int k ∧ G p = some (.lst xs) ∧ ixN xs.length k = some j ∧ ∀ H', RG T H' (G.up p (.lst (xs.set j b))) → Kp G H (G.up p (.lst (xs.set j b))) H' → Q H') ∨
   ∃ kvs, G p = some (.dct kvs) ∧ keyOk a kvs = true ∧ kvs.length < sizeLine ∧ ∀ H', RG T H' (G.up p (.dct (putA kvs a b))) → Kp G H (G.up p (.dct (putA kvs a b))) H' → Q H')
theorem set_any (hu : X.A.units + 1 < cLine) : PSet X (tSetD T) := by
  intro pins s σ H o i v ov iv u Q I ro ri rv hh
  obtain ⟨p, a, b, G, rfl, ra, rb, rg, h⟩ := hh
  rcases h with ⟨xs, k, j, rfl, e, hj, h⟩ | ⟨kvs, e, hk, hl, h⟩
  · obtain ⟨ws, hw, rw'⟩ := rg p _ e
    have kw : Kp G H (G.up p (.lst (xs.set j b))) (upd H p (.lst (ws.set j v))) := Kp.wr (by rw [e]; simp)
    exact set_list pins s σ H _ i v ov iv u Q I ro ri rv ⟨p, ws, k, j, rfl, rv_int ra, hw, by rw [rw'.len]; exact hj, h _ (rg.up kw ⟨_, upd_same, (rw'.set j rb).mono kw⟩) kw⟩
  · obtain ⟨H2, H', I2, dp, rg', kp⟩ := dput I rg e hk hl ra rb
    cases ro
    exact d_setItem hu I2 dp ri rv fun s' I' => ⟨H', I', h H' rg' kp⟩
theorem g_subD {vs : List Nat} (hu : X.A.units + 1 < cLine) (ho : PE X o (lE T W to)) (hi : PE X i (lE T W ti)) (ha : ∀ v, assign (.Subscript o i tpos) X.env v = (do
      let ov ← holding [v] (eval o X.env)
      let iv ← holding [v, ov] (eval i X.env)
      standAt tpos
      holding [v, ov, iv] (setItem ov iv v)
      release [v, ov, iv] [])) : PG X (.Subscript o i tpos) (lG T vs (gSubD to ti)) := by
  refine PG.imp (pg_sub ho hi (set_any (T := T) hu) ha) fun v σ H Q ⟨a, ς, G, Qa, rv, rs, rg, h, q⟩ => ⟨ς, G, _, _, rs, rg, h, fun x G1 v1 H1 h1 r1 rg1 k1 => ?_, lX_no⟩
  refine ⟨ς, G1, _, _, rs.mono k1, rg1, h1, fun y G2 v2 H2 h2 r2 rg2 k2 => ?_, lX_no⟩
  have k12 := k1.trans k2
  obtain ⟨p, rfl, h2⟩ := h2
  refine ⟨p, y, a, G2, rv_ref (r1.mono k2), r2, rv.mono k12, rg2, ?_⟩
  rcases h2 with ⟨xs, k, j, e1, e2, e3, h2⟩ | ⟨kvs, e1, e2, e3, h2⟩
  · exact .inl ⟨xs, k, j, e1, e2, e3, fun H' rg' kp => q _ (G2.up p (.lst (xs.set j a))) _ _ h2 ((rs.mono k12).mono kp) rg' (k12.trans kp) rfl⟩
  · exact .inr ⟨kvs, e1, e2, e3, fun H' rg' kp => q _ (G2.up p (.dct (putA kvs y a))) _ _ h2 ((rs.mono k12).mono kp) rg' (k12.trans kp) rfl⟩
end
end Q
/-! Nd4: dict comprehensions, any keys. -/
namespace Q
open PySem PySem.Spec PyProof.Rows L2
/-- what stands behind D[y] = v: an empty dict is of either kind -/
def PutD (H : Hp) (D : Addr) (y v : V) (H' : Hp) : Prop := ∃ H2, (H2 = H ∨ (H D = some (.dK []) ∧ H2 = upd H D (.dT [])) ∨ (H D = some (.dT []) ∧ H2 = upd H D (.dK []))) ∧ DPut H2 D y v H'
section
variable {X : Cx} {T : Tx}
theorem d_setC {pins : List (Addr × Obj)} {σ : L2.St} {H H' : Hp} {s : Shared} {E : Value → Shared → Prop} {D : Addr} {y v : V} {u r : Value} {Q : Unit → Shared → Prop} (hu : X.A.units + 1 < cLine) (I : Inv X pins σ H s) (g : PutD H D y v H')
    (ry : RelV y u) (rv : RelV v r) (h : ∀ s', Inv X pins σ H' s' → Q () s') : wpAny (model X.prog X.w) X.A (dictSet D u r) Q E s := by
  obtain ⟨H2, hh, g⟩ := g
  have I2 : Inv X pins σ H2 s := by
    rcases hh with rfl | ⟨e, rfl⟩ | ⟨e, rfl⟩
    · exact I
    · exact swapT I e
    · exact swapK I e
  rcases g with ⟨kvs, k, e, rfl, l, rfl⟩ | ⟨kvs, k, b, e, rfl, eb, l, rfl⟩
  · exact d_dictSet I2 e l ry rv h
  · cases ry
    obtain ⟨z, nd, xs, rel, dd⟩ := dt_of I2.hok e
    have hz : xs.length ≤ sizeLine := by rw [← Paired.length rel]; exact z
    have hl := length_putK kvs k v
    refine wpAny_dictSet_heap (hsz := hz) (show (tupleKind (mixKind X.prog X.w)).room X.A from by show X.A.units < cLine; omega) (key_of I2.hok eb) dd fun h' d2 hs => h _ ?_
    obtain ⟨q, es, ep, hq, g2, g3, g4, _, g5⟩ := d2
    refine d_write I2 (by rw [e]; exact True.intro) hs ⟨q, hq⟩ ⟨by omega, nd, _, (rel.put k eb rv).keeps fun c ys ec => ?_, q, es, ep, hq, g2, g3, g4, g5⟩
    have hc : c ≠ D := fun z => by subst z; rw [e] at ec; cases ec
    rw [upd_ne hc]
    exact ec
/-- the reading of a dict comprehension, whatever the keys: D is the new dict -/
def tDg (wi : TI) (g : TG) (tt : TT) (tk tv : TE) (vs : List Nat) : TE := fun σ H Q => wi σ H fun J H1 => ∀ D, H1 D = none → ∃ W : Nat → Nat → Hp → Prop, (∃ m, W 0 m (upd H1 D (.dK []))) ∧ ∀ i m H, W i m H →
  (J.stop i H ∧ Q (.ref D) H) ∨ (J.go i H ∧ ∃ Z : Hp → Prop, (∀ H', Z H' → ∃ m', m' < m ∧ W (i + 1) m' H') ∧ ∀ x H', J.yld i H x H' → g x (wipe σ vs) H' fun σ2 H2 => wipe σ2 vs = wipe σ vs ∧ tt σ2 H2 fun b H3 =>
    if b = true then tk σ2 H3 fun y H4 => tv σ2 H4 fun z H5 => ∃ H6, PutD H5 D y z H6 ∧ Z H6 else Z H3)
variable {kx vx tg iter : Expr} {ifs : List Expr} {scope : Scope} {own : List (Str × Nat)} {pos : Pos} {wi : TI} {g : TG} {tt : TT} {tk tv : TE}
/-- what a block's parts are asked -/
structure DcOk (X : Cx) (kx vx tg iter : Expr) (ifs : List Expr) (scope : Scope) (own : List (Str × Nat)) (wi : TI) (g : TG) (tt : TT) (tk tv : TE) : Prop where
  calm : X.calm = true
  nd : X.N.Nodup
  it : PI X tg iter wi
  blk : BlkOk X.N X.env.scope scope own
  g : ∀ s H C cl fp, PG (X.blk s H scope (compEnvC scope cl C X.env) fp) tg g
  t : ∀ s H C cl fp, PTs (X.blk s H scope (compEnvC scope cl C X.env) fp) ifs tt
  k : ∀ s H C cl fp, PE (X.blk s H scope (compEnvC scope cl C X.env) fp) kx tk
  v : ∀ s H C cl fp, PE (X.blk s H scope (compEnvC scope cl C X.env) fp) vx tv
  fs : ∀ x, foldedSetIterable iter X.env x = pure x
theorem pe_dg (hu : X.A.units + 1 < cLine) (O : DcOk X kx vx tg iter ifs scope own wi g tt tk tv) : PE X (.DictComp kx vx [⟨tg, iter, ifs, 0⟩] scope pos) (tDg wi g tt tk tv (own.map (·.2))) := by
  refine ⟨fun pins s₀ σ H₀ Q I₀ h => ?_⟩
  rw [arm_eval_DictComp]
  have cells : ∀ y ∈ scope.names, y.2 = .free → ∃ c, X.env.cells.lookup y.1 = some c := fun y hy e => (O.blk.free y hy e).elim (fun k => I₀.ok.has _ (.inl k)) fun k => I₀.ok.has _ (.inr k)
  refine wpAny_comprehension_free rfl O.fs (closure_ok cells) O.blk.kind (fun y hy e => by rw [O.blk.uniq y hy, e]) (thn (O.it.run pins s₀ σ H₀ _ I₀ h) fun _ _ hx => thn hx fun _ sa ha => ?_)
  obtain ⟨it, fp, tn, J, Ha, rfl, Ia, Tn, sta, fpa, q⟩ := ha
  refine wpAny_newObj_type (newEnv_comp ?_)
  generalize hD : sa.heap.objs.size = D
  obtain ⟨Wr, ⟨m0, w0⟩, turn⟩ := q D (Ia.hok.fresh (Nat.le_of_eq hD))
  generalize hsb : ({ sa with heap := sa.heap.push { cls := .type "dict", data := .dict #[] } } : Shared) = sb
  have hpb : sb.heap = sa.heap.push { cls := .type "dict", data := .dict #[] } := by rw [← hsb]
  have Ib : Inv X pins σ (upd Ha D (.dK [])) sb := by
    subst hsb hD
    exact Ia.laid (t' := sa.toks) (fun _ _ e => Heap.get?_push_of_some _ e) (Nat.le_refl _) (dk_empty sa.heap Ia.big)
  have fpb : ∀ b ∈ fp, FpOk X pins (upd Ha D (.dK [])) b ∧ b < sb.heap.objs.size := fun b hb => by
    obtain ⟨ob, e, _⟩ := Tn.obj _ _ sta b hb
    have lt : b < sa.heap.objs.size := Heap.lt_size e
    exact ⟨⟨by rw [upd_ne (by rw [← hD]; exact Nat.ne_of_lt lt)]; exact (fpa b hb).1, (fpa b hb).2⟩, by rw [hpb, Heap.size_push]; exact Nat.lt_succ_of_lt lt⟩
  have stb : tn 0 sb.heap := Tn.keep _ _ _ sta fun b _ ob e => by rw [hpb]; exact Heap.get?_push_of_some _ e
  have Ic := block_start Ib O.blk O.nd fpb
  show codeAny _ _ (.compStart (.DictComp kx vx [⟨tg, iter, ifs, 0⟩] scope pos) 0 (.ref it) (.ref D)
    (compEnvC scope (cellsFrom (sb.heap.objs.size + 1) scope.names (cloFrom X.env.cells scope.names [])) sb.heap.objs.size X.env))
    (compPost (model X.prog X.w) X.A X.xe none _ (.ref D) sb.heap.objs.size)
    { sb with heap := pushCells (sb.heap.push { cls := .type "dict", data := .dict #[] }) scope.names }
  generalize hL : sb.heap.objs.size = L at *
  generalize hcl : cellsFrom (L + 1) scope.names (cloFrom X.env.cells scope.names []) = cl at *
  generalize hHb : upd Ha D (.dK []) = Hb at *
  have rg := O.g sb Hb L cl fp
  have rt := O.t sb Hb L cl fp
  have rk := O.k sb Hb L cl fp
  have rv := O.v sb Hb L cl fp
  generalize hce : compEnvC scope cl L X.env = ce at *
  have loc : ce.locals = L := by subst hce; rfl
  generalize hsc : ({ sb with heap := pushCells (sb.heap.push { cls := .type "dict", data := .dict #[] }) scope.names } : Shared) = sc at *
  have stc : tn 0 sc.heap := Tn.keep _ _ _ stb fun b _ ob e => by rw [← hsc]; exact pushCells_keeps _ _ _ _ (Heap.get?_push_of_some _ e)
  have fpo : ∀ {τ : L2.St} {H' : Hp} {s' : Shared}, Inv (X.blk sb Hb scope ce fp) [] τ H' s' → (∀ b ∈ fp, H' b = none) → ∀ b ∈ fp, FpOk (X.blk sb Hb scope ce fp) [] H' b := fun {τ H' s'} I n b hb =>
    ⟨n b hb, (I.ok.exf b hb).1, I.ok.exfs b hb, .inl hb, fun x c e => (I.ok.exf b hb).2 x c e, fun p hp => by cases (show p ∈ ([] : List (Addr × Obj)) from hp)⟩
  refine codeAny_compStart_dict ?walk (Tn.self X.A 0 _ _ _ stc ?walk)
  case walk =>
  refine compLoop_anyD (fun n s' => ∃ i H', Inv (X.blk sb Hb scope ce fp) [] (wipe σ (own.map (·.2))) H' s' ∧ tn i s'.heap ∧ (∀ b ∈ fp, H' b = none) ∧ Wr i n H') ?_ m0 ⟨0, Hb, Ic, stc, fun b hb => (fpb b hb).1.1, w0⟩
  rintro n sd ⟨i, Hd, Id, std, nd, wd⟩
  rcases turn i n Hd wd with ⟨stop, fin⟩ | ⟨go, Z, hZ, step⟩
  · refine thnF (Tn.done (X.blk sb Hb scope ce fp) rfl rfl rfl O.calm i [] sd _ Hd (fun _ _ => False) Id (fpo Id nd) std stop) fun r se ⟨hr, Ie⟩ => ?_
    subst hr
    have If : Inv X pins σ Hd se := Ib.call' (ch := fp) Ie.os Ie.base Ie.hok Ie.bare fun b hb => let z := (fpb b hb).1; ⟨z.2.2.2.1, z.2.1, z.2.2.2.2.1, z.2.2.2.2.2⟩
    have nL : Hd L = none := by rw [← loc]; exact Ie.free
    obtain ⟨mm, hn, _⟩ := Ie.loc
    have hn' : se.heap.Ns L mm := by rw [← loc]; exact hn
    obtain ⟨f0, f1, _, f3, f4, f5⟩ := Ib.fpOk (Nat.le_of_eq hL) nL
    exact ⟨mm, hn', fun h2 sb2 => ⟨.ref D, Hd, If.turned (t' := se.toks) (fun b ob hb e => (sb2.2 b hb).trans e) f0 f1 f3 f4 f5, rfl, fin⟩⟩
  · refine thnF (Tn.item (X.blk sb Hb scope ce fp) rfl rfl rfl O.calm i [] sd _ Hd (fun _ _ => False) Id (fpo Id nd) std go) fun r se ⟨u, hr, he⟩ => ?_
    subst hr
    refine thnF he fun _ sf ⟨x, Hf, If, rx, yx, stf, nf⟩ => ?_
    have Ip := If.pinned (fpo If nf) (Tn.obj _ _ stf)
    refine thnF (rg.run _ sf _ Hf x u _ Ip rx (step x Hf yx)) fun _ sg ⟨τ, Hg, Ig, hw, qg⟩ => thnF (rt.run _ sg τ Hg _ Ig qg) fun b sh ⟨Hh, Ih, qh⟩ => ?_
    have close : ∀ {s' : Shared} {H' : Hp}, Inv (X.blk sb Hb scope ce fp) ([] ++ pinsAt fp sf.heap) τ H' s' → Z H' → ∃ m, m < n ∧ ∃ i H', Inv (X.blk sb Hb scope ce fp) [] (wipe σ (own.map (·.2))) H' s' ∧ tn i s'.heap ∧ (∀ b ∈ fp, H' b = none) ∧ Wr i m H' := fun {s' H'} I nz => by
      obtain ⟨m', lt, w'⟩ := hZ H' nz
      have pin : ∀ b ∈ fp, ∀ ob, sf.heap.get? b = some ob → s'.heap.get? b = some ob ∧ H' b = none := fun b hb ob e =>
        let z := I.pin (b, ob) (List.mem_append_right _ (List.mem_append_right _ (mem_pinsAt hb e))); ⟨z.1, z.2.1⟩
      refine ⟨m', lt, i + 1, H', (I.unpinned (pins := [])).weak (by rw [← hw, wipe_length]) (fun j v e => (wipe_some (by rw [hw]; exact e)).1), Tn.keep _ _ _ stf fun b hb ob e => (pin b hb ob e).1, fun b hb => ?_, w'⟩
      obtain ⟨ob, e, _⟩ := Tn.obj _ _ stf b hb
      exact (pin b hb ob e).2
    cases b with
    | false =>
      rw [if_neg Bool.false_ne_true] at qh ⊢
      exact close Ih qh
    | true =>
      rw [if_pos rfl] at qh ⊢
      refine thnF (rk.run _ sh τ Hh _ Ih qh) fun uk si ⟨yk, Hi, Ii, ri, qi⟩ => thnF (rv.run _ si τ Hi _ Ii qi) fun uv sj ⟨yv, Hj, Ij, rj, Hz, pz, nz⟩ => ?_
      exact d_setC (X := X.blk sb Hb scope ce fp) hu Ij pz ri rj fun sl Il => close Il nz
end
end Q
/-! Nd5: dict comprehensions and displays, lifted. -/
namespace Q
open PySem PySem.Spec PyProof.Rows L2
/-- an object that is being made, hidden from the abstract heap -/
structure Hdo (G1 : GS) (H1 : Hp) (G : GS) (H : Hp) (D : Addr) (o : HO) : Prop where
  g : G D = none
  s : ¬ G.S D
  h : H D = some o
  k : Kp G1 H1 G H
  n : ¬ imm o
section
variable {T : Tx} {G1 G G' : GS} {H1 H H' : Hp} {D : Addr} {o u : HO}
theorem Hdo.go (x : Hdo G1 H1 G H D o) (k : Kp G H G' H') : Hdo G1 H1 G' H' D o := by
  obtain ⟨a, b⟩ := k.kp D _ x.g x.h
  refine ⟨a, fun z => ?_, b, x.k.trans k, x.n⟩
  rcases k.nw D z with z | z | z | ⟨u, i, z⟩
  · exact x.s z
  · exact z x.g
  · rw [x.h] at z; cases z
  · rw [x.h] at z; cases z; exact x.n i
theorem ks_off (s : ¬ G.S D) : Ks G H G (upd H D o) := fun b u f h => by
  have : b ≠ D := fun z => by subst z; exact s f.1
  exact ⟨f, (upd_ne this).trans h⟩
theorem Hdo.ks (x : Hdo G1 H1 G H D o) : Ks G H G (upd H D u) := ks_off x.s
theorem Hdo.put (x : Hdo G1 H1 G H D o) (h1 : H1 D = none) (n : ¬ imm u) : Hdo G1 H1 G (upd H D u) D u := by
  refine ⟨x.g, x.s, upd_same, ⟨fun b u a c => ?_, x.k.sm, x.k.nw⟩, n⟩
  have : b ≠ D := fun z => by subst z; rw [h1] at c; cases c
  obtain ⟨z1, z2⟩ := x.k.kp b u a c
  exact ⟨z1, (upd_ne this).trans z2⟩
theorem Hdo.rg (x : Hdo G1 H1 G H D o) (r : RG T H G) : RG T (upd H D u) G := by
  refine ⟨fun b u q => ?_, fun b h => upd_there (r.st b h)⟩
  have hb : b ≠ D := fun z => by subst z; have := x.g; rw [show G b = some u from q] at this; cases this
  exact (r b u q).mono x.ks (upd_ne hb)
theorem Hdo.lay (r : RG T H1 G1) (h : H1 D = none) (n : ¬ imm o) : Hdo G1 H1 G1 (upd H1 D o) D o := by
  refine ⟨r.free h, fun z => r.st D z h, upd_same, ⟨fun b u a c => ?_, fun _ z => z, fun _ z => .inl z⟩, n⟩
  have : b ≠ D := fun z => by subst z; rw [h] at c; cases c
  exact ⟨a, (upd_ne this).trans c⟩
/-- the object is done -/
theorem Hdo.fin {m : Bool} {ob : O} {Qa : KA} {Q : VK} (x : Hdo G1 H1 G H D o) (hD : H1 D = none) (rg : RG T H G) (ro : ∀ G' : GS, Ks G H G' H → RO T G' H D ob) (f : new m ob G Qa) (q : LQ T G1 H1 Qa Q) : Q (.ref D) H := by
  have apart : ∀ b u, G1 b = none → H1 b = some u → b ≠ D := fun b u _ c z => by subst z; rw [hD] at c; cases c
  cases m with
  | true =>
    have ks : Ks G H (G.up D ob) H := fun b u f h => by
      have : b ≠ D := fun z => by subst z; exact x.s f.1
      exact ⟨⟨f.1, (up_ne this).trans f.2⟩, h⟩
    refine q _ (G.up D ob) _ _ (f D x.g) (rv_r D) ⟨fun b u z => ?_, rg.st⟩ ⟨fun b u c d => ?_, x.k.sm, x.k.nw⟩
    · have z : up G.G D ob b = some u := z
      by_cases hb : b = D
      · subst hb; rw [up_same] at z; cases z; exact ro _ ks
      · rw [up_ne hb] at z; exact (rg b u z).mono ks rfl
    · obtain ⟨z1, z2⟩ := x.k.kp b u c d
      exact ⟨(up_ne (apart b u c d)).trans z1, z2⟩
  | false =>
    have ks : Ks G H (G.fx D) H := fun b u f h => ⟨⟨.inr f.1, f.2⟩, h⟩
    refine q _ (G.fx D) _ _ f (rv_frz ⟨.inl rfl, x.g⟩ (ro _ ks)) ⟨fun b u z => (rg b u z).mono ks rfl, fun b z => ?_⟩ ⟨x.k.kp, fun b z => .inr (x.k.sm b z), fun b z => ?_⟩
    · rcases z with rfl | z
      · rw [x.h]; simp
      · exact rg.st b z
    · rcases z with rfl | z
      · exact .inr (.inr (.inl hD))
      · exact x.k.nw b z
theorem DRep.mono {p : Addr} {kvs : List (A × A)} (d : DRep T G H p kvs) (k : Ks G H G' H') (e : H' p = H p) : DRep T G' H' p kvs := by
  rcases d with ⟨qs, h, rk⟩ | ⟨qs, h, rk⟩
  · exact .inl ⟨qs, e.trans h, Paired.mapP rk fun _ _ z => ⟨z.1, RV.mono' k z.2⟩⟩
  · exact .inr ⟨qs, e.trans h, Paired.mapP rk fun _ _ z => ⟨z.1, RV.mono' k z.2⟩⟩
theorem DRep.ro {p : Addr} {kvs : List (A × A)} (d : DRep T G H p kvs) : RO T G H p (.dct kvs) := d
/-- a pair is put into a hidden dict -/
theorem dputH {kvs : List (A × A)} {k a : A} {y v : V} (ns : ¬ G.S D) (d : DRep T G H D kvs) (hk : keyOk k kvs = true) (hl : kvs.length < sizeLine) (r : RV T G H k y) (rv : RV T G H a v) :
    ∃ o', PutD H D y v (upd H D o') ∧ DRep T G (upd H D o') D (putA kvs k a) ∧ ¬ imm o' := by
  have ks : ∀ o' : HO, Ks G H G (upd H D o') := fun o' => ks_off ns
  rcases keyOk_cases hk with ⟨q, rfl, hall⟩ | ⟨q, rfl, hq, hall⟩
  · have ey := key_rep r
    subst ey
    rcases d with ⟨qs, e, rk⟩ | ⟨qs, e, rk⟩
    · exact ⟨_, ⟨H, .inl rfl, .k e (by rw [rk.len]; exact hl)⟩, .inl ⟨_, upd_same, RKg.put keyA_inj q (RV.mono' (ks _) rv) (Paired.mapP rk fun _ _ z => ⟨z.1, RV.mono' (ks _) z.2⟩)⟩, id⟩
    · cases rk with
      | nil =>
        refine ⟨_, ⟨_, .inr (.inr ⟨e, rfl⟩), ?_⟩, .inl ⟨_, upd_same, RKg.put keyA_inj q (RV.mono' (ks _) rv) .nil⟩, id⟩
        have := DPut.k (v := v) (k := q) (kvs := []) (H := upd H D (.dK [])) upd_same (by decide)
        rwa [upd_upd] at this
      | cons z _ =>
        obtain ⟨r2, e2⟩ := hall _ List.mem_cons_self
        rw [z.1] at e2
        cases r2 <;> cases e2
  · obtain ⟨b, rfl, eb, _⟩ := keys_rep hq r
    have hb : b ≠ D := fun z => by
      subst z
      rcases d with ⟨qs, e, _⟩ | ⟨qs, e, _⟩ <;> rw [e] at eb <;> cases eb
    rcases d with ⟨qs, e, rk⟩ | ⟨qs, e, rk⟩
    · cases rk with
      | nil =>
        refine ⟨_, ⟨_, .inr (.inl ⟨e, rfl⟩), ?_⟩, .inr ⟨_, upd_same, RKg.put keysA_inj q (RV.mono' (ks _) rv) .nil⟩, id⟩
        have := DPut.t (v := v) (k := q) (kvs := []) (H := upd H D (.dT [])) upd_same (by rw [upd_ne hb]; exact eb) (by decide)
        rwa [upd_upd] at this
      | cons z _ =>
        obtain ⟨r2, e2⟩ := hall _ List.mem_cons_self
        rw [z.1] at e2
        rename_i q0 _ _ _
        obtain ⟨q1, _⟩ := q0
        cases q1 <;> cases e2
    · exact ⟨_, ⟨H, .inl rfl, .t e eb (by rw [rk.len]; exact hl)⟩, .inr ⟨_, upd_same, RKg.put keysA_inj q (RV.mono' (ks _) rv) (Paired.mapP rk fun _ _ z => ⟨z.1, RV.mono' (ks _) z.2⟩)⟩, id⟩
end
/-- the turns of a dict comprehension -/
def dcR (g : GA) (tt : BA) (tk tv : EA) (vs : List Nat) (chk : Gp → Prop) (Qf : List (A × A) → Gp → Prop) : List A → List (A × A) → En → Gp → Prop
  | [], acc, _, G => chk G ∧ Qf acc G
  | x :: xs, acc, ς, G => chk G ∧ g x (wipeA ς vs) G fun ς2 G2 => tt ς2 G2 (fun b G3 => if b = true then tk ς2 G3 (fun y G4 => tv ς2 G4 (fun z G5 => keyOk y acc = true ∧ acc.length < sizeLine ∧ dcR g tt tk tv vs chk Qf xs (putA acc y z) ς G5) (fun _ _ => False)) (fun _ _ => False)
      else dcR g tt tk tv vs chk Qf xs acc ς G3) (fun _ _ => False)
def eDc (m : Bool) (it : IA) (g : GA) (tt : BA) (tk tv : EA) (vs : List Nat) : EA := fun ς G Q X => it ς G (fun xs chk G1 => dcR g tt tk tv vs chk (fun acc G2 => new m (.dct acc) G2 Q) xs [] ς G1) X
theorem dc_lift {mu : Bool} {T : Tx} {W : L2.WX} {it : IA} {g : GA} {tt : BA} {tk tv : EA} {vs : List Nat} {σ : L2.St} {H : Hp} {Q : VK} (h : lE T W (eDc mu it g tt tk tv vs) σ H Q) :
    tDg (lI T W it) (lG T vs g) (lB T W0 tt) (lE T W0 tk) (lE T W0 tv) vs σ H Q := by
  obtain ⟨ς, G, Qa, Xa, rs, rg, h, q, hx⟩ := h
  refine ⟨ς, G, _, Xa, rs, rg, h, fun xs chk G1 J H1 h1 ok rg1 k1 => ?_, hx⟩
  intro D hD
  have hid := Hdo.lay (o := .dK []) rg1 hD id
  refine ⟨fun i m H' => m = xs.length - i ∧ i ≤ xs.length ∧ ∃ acc o, ∃ G' : GS, RG T H' G' ∧ Hdo G1 H1 G' H' D o ∧ DRep T G' H' D acc ∧
      dcR g tt tk tv vs chk (fun acc G2 => new mu (.dct acc) G2 Qa) (xs.drop i) acc ς G', ⟨_, rfl, Nat.zero_le _, [], _, G1, Hid.rg0 rg1 hD, hid, .inl ⟨[], upd_same, .nil⟩, h1⟩, ?_⟩
  rintro i m H' ⟨rfl, hi, acc, o, G', rg', hd, da, f⟩
  by_cases hlt : i < xs.length
  · have hx' : xs[i]? = some xs[i] := by simp [hlt]
    rw [drop_some hx'] at f
    obtain ⟨hchk, f⟩ := f
    refine .inr ⟨ok.go i H' G' hd.k rg' hchk hlt, fun H'' => ∃ acc o, ∃ G'' : GS, RG T H'' G'' ∧ Hdo G1 H1 G'' H'' D o ∧ DRep T G'' H'' D acc ∧
      dcR g tt tk tv vs chk (fun acc G2 => new mu (.dct acc) G2 Qa) (xs.drop (i + 1)) acc ς G'', fun H'' z => ⟨_, by omega, rfl, hlt, z⟩, fun x H2 y => ?_⟩
    obtain ⟨a, e, rv, rg2, k2⟩ := ok.yld i H' G' x H2 hd.k rg' hchk y hlt
    have ea : xs[i] = a := by rw [hx'] at e; exact Option.some.inj e
    subst ea
    have rs2 : RS T G' H2 ς σ := ((rs.mono k1).mono hd.k).mono k2
    refine ⟨_, wipeA ς vs, G', _, rv, rs2.wipe vs, rg2, f, fun ς3 G3 σ3 H3 h3 rs3 rg3 k3 hw => ⟨hw.trans wipe_wipe, ς3, G3, _, _, rs3, rg3, h3, fun b G4 H4 h4 rg4 k4 => ?_, lX_no⟩⟩
    have k24 := (k2.trans k3).trans k4
    have hd4 := hd.go k24
    have da4 : DRep T G4 H4 D acc := da.mono k24.ks (hd4.h.trans hd.h.symm)
    cases b with
    | false =>
      rw [if_neg Bool.false_ne_true] at h4
      exact L2.iteF ⟨acc, o, G4, rg4, hd4, da4, h4⟩
    | true =>
      rw [if_pos rfl] at h4
      refine L2.iteT ⟨ς3, G4, _, _, rs3.mono k4, rg4, h4, fun y G5 v H5 h5 rv5 rg5 k5 => ⟨ς3, G5, _, _, (rs3.mono k4).mono k5, rg5, h5, fun z G6 v6 H6 h6 rv6 rg6 k6 => ?_, lX_no⟩, lX_no⟩
      have hd6 := hd4.go (k5.trans k6)
      have da6 : DRep T G6 H6 D acc := da4.mono (k5.trans k6).ks (hd6.h.trans hd4.h.symm)
      obtain ⟨o', p1, p2, p3⟩ := dputH hd6.s da6 h6.1 h6.2.1 (rv5.mono k6) rv6
      exact ⟨_, p1, putA acc y z, o', G6, hd6.rg rg6, hd6.put hD p3, p2, h6.2.2⟩
  · have e : i = xs.length := by omega
    subst e
    rw [List.drop_length] at f
    exact .inl ⟨ok.stop H' G' hd.k rg' f.1, hd.fin (ob := .dct acc) hD rg' (fun G2 ks => (da.mono ks rfl).ro) f.2 (q.step k1)⟩
/-! displays -/
def prs : List (EA × EA) → En → Gp → (List (A × A) → Gp → Prop) → KX → Prop
  | [], _, G, Q, _ => Q [] G
  | (tk, tv) :: r, ς, G, Q, X => tk ς G (fun x G1 => tv ς G1 (fun y G2 => prs r ς G2 (fun kvs G3 => Q ((x, y) :: kvs) G3) X) X) X
def putsA (acc kvs : List (A × A)) : List (A × A) := kvs.foldl (fun acc p => putA acc p.1 p.2) acc
def eDis (m : Bool) (ps : List (EA × EA)) : EA := fun ς G Q X => prs ps ς G (fun kvs G1 => kvs.length ≤ 15 ∧ (kvs.all fun p => (isK p.1).isSome) = true ∧ new m (.dct (putsA [] kvs)) G1 Q) X
section
variable {X : Cx} {T : Tx} {W : L2.WX}
abbrev RPs (T : Tx) (G : GS) (H : Hp) (kvs : List (A × A)) (vps : List (V × V)) : Prop := Paired (fun (p : A × A) (q : V × V) => RV T G H p.1 q.1 ∧ RV T G H p.2 q.2) kvs vps
theorem prs_lift : ∀ (ps : List (EA × EA)) {ς : En} {σ : L2.St} {G : GS} {H : Hp} {Qa : List (A × A) → Gp → Prop} {Xa : KX} {Q : List (V × V) → Hp → Prop}, RS T G H ς σ → RG T H G → prs ps ς G Qa Xa →
    (∀ kvs (G' : GS) vps H', Qa kvs G' → RPs T G' H' kvs vps → RG T H' G' → Kp G H G' H' → Q vps H') → LX T G H Xa (WE W σ) → tPairs (ps.map fun p => (lE T W p.1, lE T W p.2)) σ H Q
  | [], ς, σ, G, H, Qa, Xa, Q, rs, rg, h, q, hx => q [] G [] H h .nil rg Kp.refl
  | p :: ps, ς, σ, G, H, Qa, Xa, Q, rs, rg, h, q, hx => by
    refine ⟨ς, G, _, Xa, rs, rg, h, fun x G1 v H1 h1 rv rg1 k1 => ⟨ς, G1, _, Xa, rs.mono k1, rg1, h1, fun y G2 w H2 h2 rw rg2 k2 => ?_, hx.step k1⟩, hx⟩
    have k12 := k1.trans k2
    exact prs_lift ps (rs.mono k12) rg2 h2 (fun kvs G3 vps H3 h3 rp rg3 k3 => q _ G3 _ H3 h3 (.cons ⟨(rv.mono k2).mono k3, rw.mono k3⟩ rp) rg3 (k12.trans k3)) (hx.step k12)
theorem keys_lift : ∀ {kvs : List (A × A)} {vps : List (V × V)} {G : GS} {H : Hp}, RPs T G H kvs vps → (kvs.all fun p => (isK p.1).isSome) = true → ∃ qs : List (Key × V), vps = qs.map (fun kv => (kV kv.1, kv.2)) ∧ RKg T G H keyA kvs qs
  | _, _, G, H, .nil, _ => ⟨[], rfl, .nil⟩
  | _, _, G, H, @Paired.cons _ _ _ p q kvs vps r t, h => by
    rw [List.all_cons, Bool.and_eq_true] at h
    obtain ⟨k, e⟩ := Option.isSome_iff_exists.mp h.1
    obtain ⟨qs, rfl, rk⟩ := keys_lift t h.2
    have e1 := isK_eq e
    obtain ⟨p1, p2⟩ := p
    obtain ⟨q1, q2⟩ := q
    simp only at e1 r
    subst e1
    obtain rfl := key_rep r.1
    exact ⟨(k, q2) :: qs, rfl, .cons ⟨rfl, r.2⟩ rk⟩
theorem puts_lift {G : GS} {H : Hp} : ∀ {kvs : List (A × A)} (acc : List (A × A)) {qs : List (Key × V)} (bs : List (Key × V)), RKg T G H keyA kvs qs → RKg T G H keyA acc bs → RKg T G H keyA (putsA acc kvs) (mergeK bs qs)
  | _, _, _, _, .nil, h => h
  | _, acc, _, bs, @Paired.cons _ _ _ p q kvs qs r t, h => by
    obtain ⟨p1, p2⟩ := p
    obtain ⟨q1, q2⟩ := q
    obtain ⟨e, rv⟩ := r
    simp only at e rv
    subst e
    show RKg T G H keyA (putsA (putA acc (keyA q1) p2) kvs) (mergeK (putK bs q1 q2) qs)
    exact puts_lift _ _ t (RKg.put keyA_inj q1 rv h)
theorem p_dis {m : Bool} {pos : Pos} {ks : List (Option Expr)} {vs : List Expr} {ps : List (EA × EA)} (h : PPs X pos ks vs (ps.map fun p => (lE T W p.1, lE T W p.2))) (hall : ks.all (·.isSome) = true) (hl : ks.length = vs.length) (h0 : ks ≠ []) (h15 : ks.length ≤ 15) :
    PE X (.Dict ks vs pos) (lE T W (eDis m ps)) := by
  refine PE.imp (pe_disp h hall hl h0 h15) fun σ H Q ⟨ς, G, Qa, Xa, rs, rg, h, q, hx⟩ => fun D hD => ?_
  have hid := Hdo.lay (o := .dK []) rg hD id
  have rg0 : RG T (upd H D (.dK [])) G := Hid.rg0 rg hD
  refine prs_lift ps (rs.mono hid.k) rg0 h (fun kvs G' vps H' h' rp rg' k' => ?_) (hx.step hid.k)
  have hd := hid.go k'
  obtain ⟨qs, rfl, rk⟩ := keys_lift rp h'.2.1
  refine ⟨hd.h, qs, rfl, by rw [rk.len]; exact h'.1, ?_⟩
  have hd2 := hd.put (u := .dK (mergeK [] qs)) hD id
  refine hd2.fin (ob := .dct (putsA [] kvs)) hD (hd.rg rg') (fun G2 ks => .inl ⟨_, upd_same, ?_⟩) h'.2.2 q
  exact Paired.mapP (puts_lift [] [] rk .nil) fun _ _ z => ⟨z.1, RV.mono' ks (RV.mono' hd.ks z.2)⟩
end
end Q
/-! Nd6: dict(zip(a, b)) of two lists. -/
namespace Q
open PySem PySem.Spec PyProof.Rows L2
def dzA (m : Bool) : PN := fun as G Q => ∃ x y xs ys, as = [x, y] ∧ lstOf G x = some xs ∧ lstOf G y = some ys ∧ (xs.all fun a => (isK a).isSome) = true ∧ new m (.dct (putsA [] (xs.zip ys))) G Q
def eDz (m : Bool) (t : LA) : EA := eBi (dzA m) t
section
variable {X : Cx} {T : Tx} {W : L2.WX} {a b : Expr} {t : LA}
theorem keys_all {G : GS} {H : Hp} : ∀ {xs : List A} {vs : List V}, RVs T G H xs vs → (xs.all fun a => (isK a).isSome) = true → ∃ ks : List Key, xs = ks.map keyA ∧ vs = ks.map kV
  | [], vs, r, _ => ⟨[], rfl, rvs0 r⟩
  | x :: xs, vs, r, h => by
    rw [List.all_cons, Bool.and_eq_true] at h
    simp only [RVs] at r
    obtain ⟨v, vs', rfl, r1, r2⟩ := r
    obtain ⟨k, e⟩ := Option.isSome_iff_exists.mp h.1
    obtain ⟨ks, rfl, rfl⟩ := keys_all r2 h.2
    have e1 := isK_eq e
    subst e1
    exact ⟨k :: ks, rfl, by rw [key_rep r1]; rfl⟩
theorem zip_rk {G : GS} {H : Hp} : ∀ {ks : List Key} {ys : List A} {ws : List V}, RVs T G H ys ws → RKg T G H keyA ((ks.map keyA).zip ys) (ks.zip ws)
  | [], ys, ws, r => .nil
  | k :: ks, [], ws, r => by obtain rfl := rvs0 r; exact .nil
  | k :: ks, y :: ys, ws, r => by
    simp only [RVs] at r
    obtain ⟨w, ws', rfl, r1, r2⟩ := r
    exact .cons ⟨rfl, r1⟩ (zip_rk r2)
theorem zip_kv : ∀ {ks : List Key} {ws : List V} {us : List Value}, Vals ws us → KV (ks.zip ws) (ks.zip us)
  | [], ws, us, r => .nil
  | k :: ks, [], us, r => by cases r; exact .nil
  | k :: ks, w :: ws, us, r => by
    cases r with
    | cons r1 r2 => exact .cons ⟨rfl, r1⟩ (zip_kv r2)
theorem vals_get {vs : List V} {us : List Value} (r : Vals vs us) {i : Nat} {u : Value} (e : us[i]? = some u) : ∃ v, vs[i]? = some v ∧ RelV v u := by
  have hl := r.length
  have hi : i < us.length := (List.getElem?_eq_some_iff.mp e).1
  have e1 : vs[i]? = some (vs[i]'(by omega)) := List.getElem?_eq_getElem _
  obtain ⟨w, e2, r2⟩ := r.get e1
  rw [e] at e2; cases e2
  exact ⟨_, e1, r2⟩
theorem p_dz {m : Bool} {pd pz posd posz : Pos} (hc : X.calm = true) (gd : Gl X "dict") (md : X.mg "dict" = none) (gz : Gl X "zip") (mz : X.mg "zip" = none) (ha : PA X [a, b] (lL T W t))
    (h2 : starEach [a, b] X.env = (false, eval a X.env) :: starEach [b] X.env) (p2 : (backTo posz (starEach [b] X.env)).any (·.1) = false) :
    PE X (.Call (.Name "dict" pd) [.Call (.Name "zip" pz) [a, b] [] posz] [] posd) (lE T W (eDz m t)) := by
  refine ⟨fun pins s σ H Q I h => ?_⟩
  obtain ⟨ς, G, Qa, Xa, rs, rg, h, q, hx⟩ := h
  have hh : lL T W t σ H (fun vs H1 => ∃ as, ∃ G1 : GS, RVs T G1 H1 as vs ∧ RG T H1 G1 ∧ Kp G H G1 H1 ∧ dzA m as G1 Qa) := ⟨ς, G, _, Xa, rs, rg, h, fun as G1 vs H1 h1 rv rg1 k1 => ⟨as, G1, rv, rg1, k1, h1⟩, hx⟩
  refine Call_ (ld_blt I gd md PyProof.Rows.boot_dict (PyProof.Rows.callWith_type1 ?_ rfl rfl))
  show wpAny _ _ (spliced ((false, eval (.Call (.Name "zip" pz) [a, b] [] posz) X.env) :: backTo posd (starEach [] X.env))) _ _ s
  refine Calls.spliced_cons (Call_ (ld_blt I gz mz boot_zip (PyProof.Rows.callWith_type1 (thn (ha.run posz pins s σ H _ I hh) fun us s1 q1 => ?_) h2 p2)))
  obtain ⟨vs, H1, I1, r1, as, G1, rv, rg1, k1, x, y, xs, ys, rfl, e1, e2, hk, hn⟩ := q1
  obtain ⟨v1, v2, rfl, rx, ry⟩ := rvs2 rv
  obtain ⟨u1, u2, rfl, q1, q2⟩ := vals2 r1
  obtain ⟨l1, ws1, rfl, sq1, rv1⟩ := lstOf_rep rg1 e1 rx
  obtain ⟨l2, ws2, rfl, sq2, rv2⟩ := lstOf_rep rg1 e2 ry
  cases q1; cases q2
  obtain ⟨i1, vl1, pl1, z1⟩ := I1.list (.of sq1)
  obtain ⟨i2, vl2, pl2, z2⟩ := I1.list (.of sq2)
  refine call_zip_2 pl1.isList pl2.isList fun h' hz hTI hTO g1 g2 hsz keep => Calls.spliced_nil ?_
  have D := PySem.W.ktu_apart s1.heap.objs.size l1 l2 pl1.lt pl2.lt
  obtain ⟨ks, rfl, rfl⟩ := keys_all rv1 hk
  have lk : i1.length = ks.length := by rw [← vl1.length, List.length_map]
  refine call_dict_pairs (knd := mixKind X.prog X.w) (kvs := ks.zip i2) (s := { s1 with heap := h' }) (PairArg.zip _ _ _ _ _ l1 l2 D i1.toArray i2.toArray) (I1.ok.hd hc)
    ⟨hz, hTI, ⟨_, _, hTO⟩, g1, g2, pl1.isList.at fun o e => keep _ o e, pl2.isList.at fun o e => keep _ o e⟩ ⟨by rw [List.length_zip]; simp [lk], fun i key v he => ?_⟩ (by
      rw [List.length_map] at z1
      simp only [List.size_toArray]
      omega) fun h3 tk dd hk3 => ?_
  · obtain ⟨ek, ev⟩ := he
    rw [List.getElem?_toArray] at ek ev
    obtain ⟨w, ew, rw'⟩ := vals_get vl1 ek
    rw [List.getElem?_map] at ew
    cases ekk : ks[i]? with
    | none => rw [ekk] at ew; cases ew
    | some k =>
      rw [ekk] at ew
      cases ew
      exact ⟨k, by rw [List.getElem?_zip_eq_some]; exact ⟨ekk, ev⟩, kV_is rw'⟩
  · have old : ∀ b o, s1.heap.get? b = some o → h3.get? b = some o := fun b o e => by
      refine hk3 b o (fun hm => ?_) (keep b o e)
      have lt : b < s1.heap.objs.size := Heap.lt_size e
      simp only [List.mem_cons, List.not_mem_nil, or_false] at hm
      rcases hm with e | e | e | e <;> (rw [e] at lt; first | exact absurd lt (Nat.not_lt.mpr (Nat.le_add_right _ _)) | exact absurd lt (Nat.lt_irrefl _))
    have kv : KV (mergeK [] (ks.zip ws2)) (merged [] (ks.zip i2)) := KV.merge (zip_kv vl2) .nil
    have hsz' : s1.heap.objs.size ≤ h'.objs.size := by omega
    have hl : (mergeK [] (ks.zip ws2)).length ≤ sizeLine := by
      have z3 := length_mergeK (ks.zip ws2) []
      rw [List.length_nil, List.length_zip] at z3
      rw [List.length_map] at z1
      omega
    have fresh := I1.hok.fresh hsz'
    have nd : (h'.objs.size == sysModules) = false := by
      exact beq_eq_false_iff_ne.mpr (Nat.ne_of_gt (Nat.lt_of_lt_of_le I1.big hsz'))
    exact ⟨.ref h'.objs.size, upd H1 h'.objs.size (.dK (mergeK [] (ks.zip ws2))), I1.laid (t' := tk) old hsz' ⟨hl, nd, _, kv, dd⟩, rfl,
      new_obj (o := .dct (putsA [] ((ks.map keyA).zip ys))) rg1 (fun G' k => .inl ⟨_, upd_same, Paired.mapP (puts_lift [] [] (zip_rk rv2) .nil) fun _ _ z => ⟨z.1, z.2.mono k⟩⟩) hn (q.step k1) fresh⟩
end
end Q
/-! Q13: facts of syntax that the rules ask. -/
namespace Q
open PySem PySem.Spec PyProof.Rows L2
def isStar : Expr → Bool
  | .Starred _ _ => true
  | _ => false
theorem star_cons {e : Expr} {es : List Expr} {env : Env} (h : isStar e = false) : starEach (e :: es) env = (false, eval e env) :: starEach es env := by
  cases e <;> first | rfl | (simp [isStar] at h)
theorem star_plain {env : Env} : ∀ {es : List Expr}, es.all (fun e => !isStar e) = true → (starEach es env).any (·.1) = false
  | [], _ => rfl
  | e :: es, h => by
    simp only [List.all_cons, Bool.and_eq_true, Bool.not_eq_true'] at h
    rw [star_cons h.1]
    simp [star_plain h.2]
theorem backTo_fst {pos : Pos} : ∀ l : List (Bool × Sem Value), (backTo pos l).map (·.1) = l.map (·.1)
  | [] => rfl
  | x :: xs => by
    have := backTo_fst (pos := pos) xs
    simp_all [backTo]
theorem back_plain {pos : Pos} {env : Env} {es : List Expr} (h : es.all (fun e => !isStar e) = true) : (backTo pos (starEach es env)).any (·.1) = false := by
  have e : ∀ l : List (Bool × Sem Value), l.any (·.1) = (l.map (·.1)).any id := by intro l; induction l <;> simp_all
  rw [e, backTo_fst, ← e]
  exact star_plain h
theorem few_ok {pos : Pos} {env : Env} {e : Expr} {es : List Expr} (h : (e :: es).all (fun e => !isStar e) = true) (hl : es.length < 20) :
    ((backTo pos (starEach (e :: es) env)).all (fun x => !x.1) && (backToKw pos (keywordEach [] env)).all (fun x => x.1.isSome) && decide ((e :: es).length + ([] : List Keyword).length + (if ([] : List Keyword).isEmpty then 0 else 1) < 30)) = true := by
  have h1 := back_plain (pos := pos) (env := env) h
  have h2 : (backTo pos (starEach (e :: es) env)).all (fun x => !x.1) = true := by
    rw [List.all_eq_true]
    intro x hx
    have := List.any_eq_false.mp h1 x hx
    simpa using this
  rw [h2]
  simp [backToKw, keywordEach]
  omega
def baseOk : Expr → Bool
  | .Call (.Name _ _) [] [] _ => false
  | _ => true
theorem base_ok {o : Expr} {m : Str} {env : Env} (h : baseOk o = true) : attributeBase o m env (eval o env) = eval o env := by
  unfold attributeBase
  split
  · simp [baseOk] at h
  · rfl
def isSet : Expr → Bool
  | .Set _ _ _ => true
  | _ => false
theorem folded_ok {e : Expr} {env : Env} (h : isSet e = false) (x : Value) : foldedSetIterable e env x = pure x := by
  cases e <;> first | rfl | (simp [isSet] at h)
theorem behind_ok {e : Expr} {op : CmpOp} (h : isSet e = false) : behindInMarks op e = false := by
  cases e <;> first | rfl | (simp [isSet] at h)
theorem last_ok {b c : Expr} {op op' : CmpOp} (h : isSet c = false) : lastMarks [op, op'] [b, c] = false := by
  show lastMarks [op'] [c] = false
  exact behind_ok h
def isSlice : Expr → Bool
  | .Slice _ _ _ _ => true
  | _ => false
theorem plainIx_ok {b : Expr} (h : isSlice b = false) : PlainIx b := fun o i => by
  cases b <;> first | rfl | (simp [isSlice] at h)
def plainTest : Expr → Bool
  | .UnaryOp .Not _ _ => false
  | .BoolOp _ _ _ => false
  | .IfExp _ _ _ _ => false
  | .Compare _ _ _ _ => false
  | _ => true
theorem test_ok {e : Expr} {env : Env} (h : plainTest e = true) (whole : Sem Value) : isTrue e env whole = (do let v ← whole; standAt e.pos; holding [v] (truthy v)) := by
  cases e with
  | UnaryOp op a p => cases op <;> first | rfl | (simp [plainTest] at h)
  | BoolOp _ _ _ => simp [plainTest] at h
  | IfExp _ _ _ _ => simp [plainTest] at h
  | Compare _ _ _ _ => simp [plainTest] at h
  | _ => rfl
def isComp : Expr → Bool
  | .ListComp _ _ _ _ => true
  | .SetComp _ _ _ _ => true
  | .DictComp _ _ _ _ _ => true
  | _ => false
theorem swap_ok {e : Expr} {t : Option Expr} {l : Nat} {env : Env} (h : isComp e = false) : swapsWith e t l env = pure false := by
  cases e <;> first | rfl | (simp [isComp] at h)
theorem swapSole_ok {e t : Expr} {l : Nat} {env : Env} (h : isComp e = false) : swapsWithSole [t] e l env = pure false := swap_ok h
theorem swap_cell {elt : Expr} {gs : List Comprehension} {scope : Scope} {pos py : Pos} {y : Str} {l : Nat} {env : Env} (h : env.kindOf y = some .cell) : swapsWith (.ListComp elt gs scope pos) (some (.Name y py)) l env = pure false := by
  have e : (NameKind.cell == NameKind.local) = false := by decide
  unfold swapsWith
  simp [h, e]
/-- the right side of an assignment to several names -/
def notTup : Expr → Bool
  | .Tuple _ _ _ => false
  | _ => true
theorem stores_ok {ts e : Expr} {env : Env} (h : notTup e = true) : swappedStores [ts] e env = pure none := by
  cases e with
  | Tuple _ _ _ => simp [notTup] at h
  | _ => cases ts <;> rfl
def notTL : Expr → Bool
  | .Tuple _ _ _ => false
  | .List _ _ => false
  | _ => true
theorem stores_one {t e : Expr} {env : Env} (h : notTL t = true) : swappedStores [t] e env = pure none := by
  cases t <;> first | rfl | (simp [notTL] at h)
theorem assign1 {tg : Expr} {env : Env} (h : isStar tg = false) : (assignEach [tg] env).map (·.2) = [assign tg env] := by
  cases tg <;> first | rfl | (simp [isStar] at h)
theorem augStore_ok {i : Expr} (h : isSlice i = false) (ov iv new : Value) : augStore i ov iv new = (do holding [new, ov, iv] (setItem ov iv new); release [new, ov, iv] []; pure .next) := by
  cases i <;> first | rfl | (simp [isSlice] at h)
theorem subStore_ok {o i : Expr} {env : Env} {tpos : Pos} (h : isSlice i = false) (v : Value) : assign (.Subscript o i tpos) env v = (do
      let ov ← holding [v] (eval o env)
      let iv ← holding [v, ov] (eval i env)
      standAt tpos
      holding [v, ov, iv] (setItem ov iv v)
      release [v, ov, iv] []) := by
  cases i <;> first | rfl | (simp [isSlice] at h)
theorem blockKind_fn {env : Env} (h : env.scope.kind = .function) : env.blockKind = .function := by unfold Env.blockKind; rw [h]; rfl
def swNames (sc : Scope) (ts : List Expr) : List Str := ts.filterMap fun
  | .Name id pos => if sc.names.lookup id == some .local && pos.line == (ts.head?.map (·.pos.line)).getD 0 then some id else none
  | _ => none
/-- what a written tuple to several names stores: none, or the names; not told otherwise -/
def swOf (sc : Scope) (ts vs : List Expr) : Option (Option (List Str)) :=
  if (!(ts.length == 2 || ts.length == 3) || vs.length != ts.length) = true then some none
  else if (vs.any fun | .Starred .. => true | _ => false) = true then some none
  else if ((swNames sc ts).length != ts.length || (swNames sc ts).eraseDups.length != (swNames sc ts).length) = true then some none
  else if vs.all (foldedForSure 8) = true then some none
  else if vs.all (constantsAlone 8) = true then none
  else some (some (swNames sc ts))
theorem sw_of {ts vs : List Expr} {k k2 : Nat} {p p2 : Pos} {env : Env} {r : Option (List Str)} (hk : env.scope.kind = .function) (h : swOf env.scope ts vs = some r) : swappedStores [.Tuple ts k p] (.Tuple vs k2 p2) env = pure r := by
  unfold swOf at h
  show (if (!(ts.length == 2 || ts.length == 3) || vs.length != ts.length || env.blockKind != .function) = true then pure none else
    if (vs.any fun | .Starred .. => true | _ => false) = true then pure none else
      if ((swNames env.scope ts).length != ts.length || (swNames env.scope ts).eraseDups.length != (swNames env.scope ts).length) = true then pure none else
        if vs.all (foldedForSure 8) = true then pure none else if vs.all (constantsAlone 8) = true then (do unsupported "assign.tuple-of-constant-expressions:order-of-the-stores"; pure (some (swNames env.scope ts))) else pure (some (swNames env.scope ts))) = pure r
  rw [blockKind_fn hk]
  have e : ((ScopeKind.function : ScopeKind) != .function) = false := by decide
  rw [e, Bool.or_false]
  split at h
  · rename_i c; rw [if_pos c]; cases h; rfl
  · rename_i c; rw [if_neg c]
    split at h
    · rename_i c; rw [if_pos c]; cases h; rfl
    · rename_i c; rw [if_neg c]
      split at h
      · rename_i c; rw [if_pos c]; cases h; rfl
      · rename_i c; rw [if_neg c]
        split at h
        · rename_i c; rw [if_pos c]; cases h; rfl
        · rename_i c; rw [if_neg c]
          split at h
          · cases h
          · rename_i c; rw [if_neg c]; cases h; rfl
end Q
/-! Q14: from the text's syntax to combinators. -/
namespace Q
open PySem PySem.Spec PyProof.Rows L2
/-- what a text's globals are: defs by name, constants -/
structure Pg where
  fn : List (Str × String)
  kc : List (Str × Int)
  /-- where objects are made that change later -/
  mu : List Pos
def visB (sc : Scope) (x : Str) : Bool := match sc.names.lookup x with
  | some .local => true
  | some .cell => true
  | some .free => true
  | _ => false
def locB (sc : Scope) (x : Str) : Bool := match sc.names.lookup x with
  | some .local => true
  | some .cell => true
  | _ => false
def glB (sc : Scope) (x : Str) : Bool := match sc.names.lookup x with
  | some .globalImplicit => true
  | _ => false
def nmOk (x : Str) : Bool := !(x == ("__debug__" : Str)) && !(x == ("__classdict__" : Str)) && !(x == ("__name__" : Str))
def ixOf (N : List Str) (x : Str) : Option Nat := N.findIdx? fun y => decide (y = x)
theorem ixOf_get {N : List Str} {x : Str} {i : Nat} (h : ixOf N x = some i) : N[i]? = some x := by
  unfold ixOf at h
  obtain ⟨h1, h2, _⟩ := List.findIdx?_eq_some_iff_getElem.mp h
  rw [List.getElem?_eq_getElem h1]
  simpa using h2
def opT (m : Bool) : Operator → Option P2
  | .Add => some (addA m)
  | .Sub => some subA
  | .Mult => some (mulA m)
  | .FloorDiv => some fdivA
  | .Mod => some modA
  | .Pow => some powA
  | _ => none
def cmT : CmpOp → Option P2
  | .Eq => some (eqA false)
  | .NotEq => some (eqA true)
  | .Lt => some ltA
  | .LtE => some leA
  | .Gt => some gtA
  | .GtE => some geA
  | .In => some (inD false)
  | .NotIn => some (inD true)
  | _ => none
/-- built-in functions and types that are called: is it a type, its id, what it does -/
def biT (m : Bool) (x : Str) : Option (Bool × String × PN) :=
  if x = ("len" : Str) then some (false, "len", lenD)
  else if x = ("repr" : Str) then some (false, "repr", reprA)
  else if x = ("abs" : Str) then some (false, "abs", absA)
  else if x = ("all" : Str) then some (false, "all", allA (·.all id))
  else if x = ("any" : Str) then some (false, "any", allA (·.any id))
  else if x = ("int" : Str) then some (true, "int", intOfA)
  else if x = ("list" : Str) then some (true, "list", listA m)
  else if x = ("tuple" : Str) then some (true, "tuple", tupleA)
  else if x = ("sorted" : Str) then some (false, "sorted", sortA m)
  else none
def tyT (x : Str) : Option String :=
  if x = ("int" : Str) then some "int"
  else if x = ("bool" : Str) then some "bool"
  else if x = ("str" : Str) then some "str"
  else if x = ("tuple" : Str) then some "tuple"
  else if x = ("list" : Str) then some "list"
  else if x = ("dict" : Str) then some "dict"
  else none
/-- methods of built-in types, with arguments, without -/
def mtT (m : Bool) (x : Str) : Option (String × String × (A → PN)) :=
  if x = ("append" : Str) then some ("list", "list.append", appendA)
  else if x = ("insert" : Str) then some ("list", "list.insert", insertA)
  else if x = ("extend" : Str) then some ("list", "list.extend", extendA)
  else if x = ("split" : Str) then some ("str", "str.split", splitA m)
  else if x = ("join" : Str) then some ("str", "str.join", joinA)
  else if x = ("get" : Str) then some ("dict", "dict.get", getA)
  else none
def mtT0 (x : Str) : Option (String × String × (A → PN)) :=
  if x = ("reverse" : Str) then some ("list", "list.reverse", reverseA)
  else if x = ("clear" : Str) then some ("list", "list.clear", clearA)
  else if x = ("isascii" : Str) then some ("str", "str.isascii", strB Txt.isascii)
  else if x = ("isalpha" : Str) then some ("str", "str.isalpha", strB Txt.isalpha)
  else if x = ("islower" : Str) then some ("str", "str.islower", strB Txt.islower)
  else if x = ("upper" : Str) then some ("str", "str.upper", upperA)
  else none
/-- the names that stand for built-ins -/
def bltNames : List Str := ["len", "repr", "abs", "all", "any", "int", "list", "tuple", "bool", "str", "dict", "isinstance", "range", "sorted", "zip"]
def ownOf (N : List Str) (scope : Scope) : List (Str × Nat) := scope.names.filterMap fun y => match y.2 with
  | .local => (ixOf N y.1).map fun i => (y.1, i)
  | .cell => (ixOf N y.1).map fun i => (y.1, i)
  | _ => none
section
variable (N : List Str) (own : Pg) (c : Cal)
def isBlt (sc : Scope) (x : Str) : Bool := glB sc x && (own.fn.lookup x).isNone && bltNames.contains x && nmOk x
def isOwn (sc : Scope) (x : Str) : Option String := if glB sc x && nmOk x then own.fn.lookup x else none
def cNms (sc : Scope) (vs : List Nat) : List Expr → Option (List Nat)
  | [] => some []
  | .Name x _ :: es => if locB sc x then (match ixOf N x, cNms sc vs es with
    | some i, some is => if vs.contains i then some (i :: is) else none
    | _, _ => none) else none
  | _ => none
def cG (sc : Scope) (vs : List Nat) : Expr → Option GA
  | .Name x _ => if locB sc x then (match ixOf N x with
    | some i => if vs.contains i then some (gNm i) else none
    | none => none) else none
  | .Tuple es _ _ => (cNms N sc vs es).map gTup
  | _ => none
mutual
def cE : Nat → Scope → Expr → Option EA
  | 0, _, _ => none
  | n + 1, sc, e => match e with
    | .Name x _ => if visB sc x && nmOk x then (ixOf N x).map eVar else if glB sc x && nmOk x then (own.kc.lookup x).map (fun i => eC (.int i)) else none
    | .Constant k _ _ => match k with
      | .int i => some (eC (.int i))
      | .bool b => some (eC (.bl b))
      | .none => some (eC .non)
      | .str x => some (eC (.str x))
      | _ => none
    | .Tuple es _ _ => (cL n sc es).map eTup
    | .List es pos => (cL n sc es).map (eLst (own.mu.contains pos))
    | .Dict ks vs pos => if ks.isEmpty && vs.isEmpty then some (eDct0 (own.mu.contains pos)) else if ks.all (·.isSome) && decide (ks.length = vs.length) && !ks.isEmpty && decide (ks.length ≤ 15) then (cPs n sc ks vs).map (eDis (own.mu.contains pos)) else none
    | .BinOp a op b pos => match cE n sc a, opT (own.mu.contains pos) op, cE n sc b with
      | some ta, some f, some tb => some (eBin f ta tb)
      | _, _, _ => none
    | .UnaryOp op a _ => match op with
      | .USub => (cE n sc a).map eNeg
      | .Not => (cE n sc a).map eNot
      | _ => none
    | .BoolOp op es p => cBo n sc op es
    | .Compare a ops bs _ => match ops, bs with
      | [op], [b] => if isSet b then none else (match cE n sc a, cmT op, cE n sc b with
        | some ta, some f, some tb => some (eBin f ta tb)
        | _, _, _ => none)
      | [op, op'], [b, b'] => if isSet b' then none else (match cE n sc a, cmT op, cE n sc b, cmT op', cE n sc b' with
        | some ta, some f, some tb, some f', some tc => some (eChain f f' ta tb tc)
        | _, _, _, _, _ => none)
      | _, _ => none
    | .IfExp q a b _ => match cB n sc q, cE n sc a, cE n sc b with
      | some t, some ta, some tb => some (eIf t ta tb)
      | _, _, _ => none
    | .Subscript a s pos => match s with
      | .Slice lo hi st _ => match st with
        | none => (match cE n sc a, cO n sc lo, cO n sc hi with
          | some ta, some tl, some th => some (eSl (own.mu.contains pos) ta tl th)
          | _, _, _ => none)
        | some (.UnaryOp .USub (.Constant (.int 1) _ _) _) => if lo.isNone && hi.isNone then (cE n sc a).map (eRev (own.mu.contains pos)) else none
        | _ => none
      | s => (match cE n sc a, cE n sc s with
        | some ta, some ti => some (eBin ixD ta ti)
        | _, _ => none)
    | .Call f es ks pos => match f, ks with
      | .Name x _, [] => if es.all (fun e => !isStar e) then (match isOwn own sc x with
        | some F => (cL n sc es).map (eCall c F)
        | none => if isBlt own sc x then (
          if x = ("isinstance" : Str) then (match es with
            | [e, .Name t _] => if isBlt own sc t then (match cE n sc e, tyT t with
              | some ta, some m => some (eIsi ta [m])
              | _, _ => none) else none
            | [e, .Tuple [.Name t _, .Name t' _] _ _] => if isBlt own sc t && isBlt own sc t' then (match cE n sc e, tyT t, tyT t' with
              | some ta, some m, some m' => some (eIsi ta [m, m'])
              | _, _, _ => none) else none
            | _ => none)
          else if x = ("dict" : Str) then (match es with
            | [.Call (.Name z _) [a, b] [] _] => if z = ("zip" : Str) then (if isBlt own sc z && !isStar a && !isStar b then (cL n sc [a, b]).map (eDz (own.mu.contains pos)) else none) else none
            | _ => none)
          else if es.isEmpty then none else (match biT (own.mu.contains pos) x, cL n sc es with
            | some (_, _, f), some t => some (eBi f t)
            | _, _ => none)) else none) else none
      | .Attribute o m apos, [] => if es.all (fun e => !isStar e) && baseOk o && (apos.endLine == pos.line) && decide (es.length < 20) then (
        if es.isEmpty then (match mtT0 m, cE n sc o with
          | some (ty, _, f), some to => some (eM ty f to lNil)
          | _, _ => none)
        else (match mtT (own.mu.contains pos) m, cE n sc o, cL n sc es with
          | some (ty, _, f), some to, some t => some (eM ty f to t)
          | _, _, _ => none)) else none
      | _, _ => none
    | .ListComp elt gens scope pos => match gens with
      | [⟨tg, iter, ifs, 0⟩] => if blkC N sc scope (ownOf N scope) && !isSet iter then (match cI n sc iter, cG N scope ((ownOf N scope).map (·.2)) tg, cT n (relS scope sc) ifs, cE n (relS scope sc) elt with
        | some it, some g, some tt, some te => some (eLc (own.mu.contains pos) it g tt te ((ownOf N scope).map (·.2)))
        | _, _, _, _ => none) else none
      | _ => none
    | .DictComp k v gens scope pos => match gens with
      | [⟨tg, iter, ifs, 0⟩] => if blkC N sc scope (ownOf N scope) && !isSet iter then (match cI n sc iter, cG N scope ((ownOf N scope).map (·.2)) tg, cT n (relS scope sc) ifs, cE n (relS scope sc) k, cE n (relS scope sc) v with
        | some it, some g, some tt, some tk, some tv => some (eDc (own.mu.contains pos) it g tt tk tv ((ownOf N scope).map (·.2)))
        | _, _, _, _, _ => none) else none
      | _ => none
    | _ => none
def cPs : Nat → Scope → List (Option Expr) → List Expr → Option (List (EA × EA))
  | 0, _, _, _ => none
  | n + 1, sc, ks, vs => match ks, vs with
    | [], [] => some []
    | some k :: ks, v :: vs => (match cE n sc k, cE n sc v, cPs n sc ks vs with
      | some tk, some tv, some ps => some ((tk, tv) :: ps)
      | _, _, _ => none)
    | _, _ => none
def cL : Nat → Scope → List Expr → Option LA
  | 0, _, _ => none
  | _ + 1, _, [] => some lNil
  | n + 1, sc, e :: es => if isStar e then none else (match cE n sc e, cL n sc es with
    | some t, some u => some (lCons t u)
    | _, _ => none)
def cBo : Nat → Scope → BoolOp → List Expr → Option EA
  | 0, _, _, _ => none
  | _ + 1, _, _, [] => none
  | n + 1, sc, op, e :: es => match es with
    | [] => cE n sc e
    | _ :: _ => match cE n sc e, cBo n sc op es with
      | some ta, some tb => some (match op with
        | .And => eAnd ta tb
        | .Or => eOr ta tb)
      | _, _ => none
def cB : Nat → Scope → Expr → Option BA
  | 0, _, _ => none
  | n + 1, sc, e => match e with
    | .UnaryOp .Not a _ => (cB n sc a).map bNot
    | .BoolOp op es _ => cBb n sc op es
    | .Compare a ops bs p => match ops, bs with
      | [op], [b] => if isSet b then none else (match cE n sc a, cmT op, cE n sc b with
        | some ta, some f, some tb => some (bB (eBin f ta tb))
        | _, _, _ => none)
      | [op, op'], [b, b'] => if isSet b' then none else (match cE n sc a, cmT op, cE n sc b, cmT op', cE n sc b' with
        | some ta, some f, some tb, some f', some tc => some (bB (eChain f f' ta tb tc))
        | _, _, _, _, _ => none)
      | _, _ => none
    | e => if plainTest e then (cE n sc e).map bV else none
def cBb : Nat → Scope → BoolOp → List Expr → Option BA
  | 0, _, _, _ => none
  | _ + 1, _, _, [] => none
  | n + 1, sc, op, e :: es => match es with
    | [] => cB n sc e
    | _ :: _ => match cB n sc e, cBb n sc op es with
      | some ta, some tb => some (match op with
        | .And => bAnd ta tb
        | .Or => bOr ta tb)
      | _, _ => none
def cO : Nat → Scope → Option Expr → Option OA
  | 0, _, _ => none
  | _ + 1, _, none => some oNo
  | n + 1, sc, some e => (cE n sc e).map oSome
def cI : Nat → Scope → Expr → Option IA
  | 0, _, _ => none
  | n + 1, sc, e => match e with
    | .Call (.Name x _) [a] [] _ => if x = ("range" : Str) then (if isBlt own sc x && !isStar a then (cE n sc a).map iR1 else none) else (cE n sc e).map iSeq
    | .Call (.Name x _) [a, b] [] _ => if x = ("range" : Str) then (if isBlt own sc x && !isStar a && !isStar b then (match cE n sc a, cE n sc b with
      | some ta, some tb => some (iR2 ta tb)
      | _, _ => none) else none) else (cE n sc e).map iSeq
    | e => (cE n sc e).map iSeq
def cT : Nat → Scope → List Expr → Option BA
  | 0, _, _ => none
  | n + 1, sc, ifs => match ifs with
    | [] => some bYes
    | [e] => cB n sc e
    | _ => none
end
/-! statements -/
mutual
def cS : Nat → Scope → Stmt → Option SA
  | 0, _, _ => none
  | n + 1, sc, st => match st with
    | .Pass _ => some sNx
    | .Break _ => some sBrk
    | .Continue _ => some sCnt
    | .Return e _ => match e with
      | none => some sRetN
      | some e => (cE N own c n sc e).map sRet
    | .Expr e _ => match e with
      | .Constant (.str _) _ _ => some sNx
      | e => if isComp e then none else (cE N own c n sc e).map sEx
    | .If q a b _ => match cB N own c n sc q, cSs n sc a, cSs n sc b with
      | some t, some u, some v => some (sIf t u v)
      | _, _, _ => none
    | .For tg iter body orelse _ => if isSet iter || !orelse.isEmpty then none else (match cI N own c n sc iter, cG N sc (List.range N.length) tg, cSs n sc body with
      | some it, some g, some t => some (sFor it g t)
      | _, _, _ => none)
    | .AugAssign tg op e _ => match tg, op with
      | .Subscript o i _, .Add => if isSlice i then none else (match cE N own c n sc o, cE N own c n sc i, cE N own c n sc e with
        | some to, some ti, some te => some (sAug to ti te)
        | _, _, _ => none)
      | _, _ => none
    | .Assign tgs e pos => match tgs with
      | [tg] => cA n sc tg e pos
      | _ => none
    | _ => none
def cA : Nat → Scope → Expr → Expr → Pos → Option SA
  | 0, _, _, _, _ => none
  | n + 1, sc, tg, e, pos => match tg with
    | .Name x px => if locB sc x then (match ixOf N x, cE N own c n sc e with
      | some i, some t => (match e with
        | .ListComp _ gens scope cpos => if sc.names.lookup x == some .cell then some (sSet t (gNm i))
          else if (px.line == cpos.line) && !(scope.names.any fun (n, k) => n == x && (k == .local || k == .cell)) then some (sSet t (gNm i)) else none
        | e => if isComp e then none else some (sSet t (gNm i)))
      | _, _ => none) else none
    | .Subscript o i _ => if isSlice i || isComp e then none else (match cE N own c n sc o, cE N own c n sc i, cE N own c n sc e with
      | some to, some ti, some te => some (sSet te (gSubD to ti))
      | _, _, _ => none)
    | .Tuple es _ _ => match e with
      | .Tuple vs _ _ => (match swOf sc es vs with
        | some none => (match cE N own c n sc e, cG N sc (List.range N.length) tg with
          | some t, some g => some (sSet t g)
          | _, _ => none)
        | some (some [x, y]) => (match es, vs with
          | [.Name x' _, .Name y' _], [a, b] => if x = x' && y = y' && !isStar a && !isStar b then (match ixOf N x, ixOf N y, cL N own c n sc vs with
            | some i, some j, some t => if decide (i ≠ j) && sc.names.lookup x == some .local && sc.names.lookup y == some .local then some (sPar i j t) else none
            | _, _, _ => none) else none
          | _, _ => none)
        | _ => none)
      | e => if isComp e then none else (match cE N own c n sc e, cG N sc (List.range N.length) tg with
        | some t, some g => some (sSet t g)
        | _, _ => none)
    | _ => none
def cSs : Nat → Scope → List Stmt → Option SA
  | 0, _, _ => none
  | _ + 1, _, [] => some sNx
  | n + 1, sc, st :: sts => match cS n sc st, cSs n sc sts with
    | some t, some u => some (sSeq t u)
    | _, _ => none
end
end
end Q
/-! Q15: the compile step is right. -/
namespace Q
open PySem PySem.Spec PyProof.Rows L2
structure XO (T : Tx) (FT : FTab) (N : List Str) (own : Pg) (m : Nat) (X : Cx) (sc sto : Scope) : Prop where
  ok : T.Ok X
  nm : X.N = N
  nd : N.Nodup
  scp : X.env.scope = sc
  kind : sc.kind = .function
  calm : X.calm = true
  gd : X.A.guards = some []
  room : Room m X.A
  fnl : ∀ x, locB sto x = true → Loc sc x ∧ (X.fn x = true ∨ sc.names.lookup x = some .local)
  fns : ∀ x F, own.fn.lookup x = some F → ∃ f fd ps, FnG X.prog X.w X.K X.mg X.base (L2.CX X.prog X.w) m f fd ps (spA T FT m F) ∧ X.mg x = some (.ref f) ∧ PySem.W.keepIn X.K (.ref f) = true ∧ Binds X.K fd ps []
  bl : ∀ x, own.fn.lookup x = none → x ∈ bltNames → X.mg x = none
  cs : ∀ x i, own.kc.lookup x = some i → ∃ t, X.mg x = some (.int i t)
section
variable {T : Tx} {FT : FTab} {N : List Str} {own : Pg} {m : Nat} {X : Cx} {sc sto : Scope}
theorem XO.vis (o : XO T FT N own m X sc sto) {x : Str} (h : visB sc x = true) : Vis X.env.scope x := by
  unfold visB at h
  rw [o.scp]
  split at h
  · rename_i e; exact .inl e
  · rename_i e; exact .inr (.inl e)
  · rename_i e; exact .inr (.inr e)
  · cases h
theorem XO.loc (o : XO T FT N own m X sc sto) {x : Str} (h : locB sto x = true) : Loc X.env.scope x := by
  rw [o.scp]; exact (o.fnl x h).1
theorem XO.fn (o : XO T FT N own m X sc sto) {x : Str} (h : locB sto x = true) : X.fn x = true ∨ X.env.scope.names.lookup x = some .local := by
  rw [o.scp]; exact (o.fnl x h).2
theorem XO.gl (o : XO T FT N own m X sc sto) {x : Str} (h : glB sc x = true) : Gl X x := by
  unfold glB at h
  show X.env.scope.names.lookup x = _
  rw [o.scp]
  split at h
  · rename_i e; exact e
  · cases h
theorem nmOk_d {x : Str} (h : nmOk x = true) : (x == ("__debug__" : Str)) = false ∧ (x == ("__classdict__" : Str)) = false ∧ x ≠ "__name__" := by
  unfold nmOk at h
  simp only [Bool.and_eq_true, Bool.not_eq_true'] at h
  exact ⟨h.1.1, h.1.2, by simpa using h.2⟩
theorem isBlt_of {x : Str} (o : XO T FT N own m X sc sto) (h : isBlt own sc x = true) : Gl X x ∧ X.mg x = none ∧ nmOk x = true := by
  unfold isBlt at h
  simp only [Bool.and_eq_true] at h
  obtain ⟨⟨⟨h1, h2⟩, h3⟩, h4⟩ := h
  exact ⟨o.gl h1, o.bl x (by simpa using h2) (by simpa using h3), h4⟩
theorem isOwn_of {x : Str} {F : String} (o : XO T FT N own m X sc sto) (h : isOwn own sc x = some F) : Gl X x ∧ own.fn.lookup x = some F ∧ nmOk x = true := by
  unfold isOwn at h
  split at h
  · rename_i hh
    simp only [Bool.and_eq_true] at hh
    exact ⟨o.gl hh.1, h, hh.2⟩
  · cases h
theorem bi_of {m' : Bool} {x : Str} {ty : Bool} {id : String} {f : PN} (o : XO T FT N own m X sc sto) (h : biT m' x = some (ty, id, f)) : (ty = false ∧ CallR X (.builtin id) (lN T f) ∧ bootBuiltins x = some (.builtin id)) ∨ (ty = true ∧ CallR X (.type id) (lN T f) ∧ bootBuiltins x = some (.type id)) := by
  have u := o.room.units
  unfold biT at h
  repeat (split at h; · rename_i e; cases h; subst e; first
    | exact .inl ⟨rfl, c_lenD o.ok.k, PySem.boot_len⟩
    | exact .inl ⟨rfl, c_repr o.ok o.gd u, boot_repr⟩
    | exact .inl ⟨rfl, c_abs, boot_abs⟩
    | exact .inl ⟨rfl, c_all o.ok.k o.calm, boot_all⟩
    | exact .inl ⟨rfl, c_any o.ok.k o.calm, boot_any⟩
    | exact .inr ⟨rfl, c_int, boot_int⟩
    | exact .inr ⟨rfl, c_list o.ok.k, boot_list⟩
    | exact .inr ⟨rfl, c_tuple o.ok.k, boot_tuple⟩
    | exact .inl ⟨rfl, c_sorted o.calm o.ok u, boot_sorted⟩)
  cases h
theorem ty_of {x : Str} {t : String} (h : tyT x = some t) : bootBuiltins x = some (.type t) ∧ okTy t = true := by
  unfold tyT at h
  repeat (split at h; · rename_i e; cases h; subst e; exact ⟨by decide +kernel, by decide +kernel⟩)
  cases h
theorem op_of {m' : Bool} {op : Operator} {f : P2} (hT : T.K = X.K) (h : opT m' op = some f) : OpR X (binaryOp op) (l2 T f) := by
  cases op <;> simp only [opT, reduceCtorEq, Option.some.injEq] at h
  all_goals first | (subst h; first | exact o_add hT | exact o_sub | exact o_mul | exact o_fdiv | exact o_mod | exact o_pow)
theorem cm_of {op : CmpOp} {f : P2} (o : XO T FT N own m X sc sto) (h : cmT op = some f) : OpR X (compareOp op) (l2 T f) := by
  have u := o.room.units
  have u2 : X.A.units + 65 < cLine := by have := o.room.un; omega
  cases op <;> simp only [cmT, reduceCtorEq, Option.some.injEq] at h
  all_goals first | (subst h; first | exact o_eq o.ok u | exact o_ne o.ok u | exact o_lt | exact o_le | exact o_gt | exact o_ge | exact o_inD o.ok u2 | exact o_notinD o.ok u2)
theorem mt_of {m' : Bool} {x : Str} {ty id : String} {f : A → PN} (o : XO T FT N own m X sc sto) (h : mtT m' x = some (ty, id, f)) : PlainAttrs ty ∧ Slot ty x id ∧ typeOf (.builtin id) = pure (.type "method_descriptor") ∧ MtR X id (lM T f) := by
  unfold mtT at h
  repeat (split at h; · rename_i e; cases h; subst e; first
    | exact ⟨PySem.F.plainAttrs_list, PySem.F.slot_list_append, PySem.F.type_list_append, m_append⟩
    | exact ⟨PySem.F.plainAttrs_list, PySem.F.slot_list_insert, PySem.F.type_list_insert, m_insert⟩
    | exact ⟨PySem.F.plainAttrs_list, PySem.F.slot_list_extend, PySem.F.type_list_extend, m_extend⟩
    | exact ⟨PySem.F.plainAttrs_str, PySem.F.slot_str_split, PySem.F.type_str_split, m_split⟩
    | exact ⟨PySem.F.plainAttrs_str, PySem.F.slot_str_join, PySem.F.type_str_join, m_join o.ok.k⟩
    | exact ⟨PySem.F.plainAttrs_dict, PySem.F.slot_dict_get, PySem.F.type_dict_get, m_get (by have := o.room.un; omega)⟩)
  cases h
theorem mt0_of {x : Str} {ty id : String} {f : A → PN} (o : XO T FT N own m X sc sto) (h : mtT0 x = some (ty, id, f)) : PlainAttrs ty ∧ Slot ty x id ∧ typeOf (.builtin id) = pure (.type "method_descriptor") ∧ MtR X id (lM T f) := by
  unfold mtT0 at h
  repeat (split at h; · rename_i e; cases h; subst e; first
    | exact ⟨PySem.F.plainAttrs_list, PySem.F.slot_list_reverse, PySem.F.type_list_reverse, m_reverse⟩
    | exact ⟨PySem.F.plainAttrs_list, PySem.F.slot_list_clear, PySem.F.type_list_clear, m_clear⟩
    | exact ⟨PySem.F.plainAttrs_str, PySem.F.slot_str_isascii, PySem.F.type_str_isascii, m_strB mt_isascii⟩
    | exact ⟨PySem.F.plainAttrs_str, PySem.F.slot_str_isalpha, PySem.F.type_str_isalpha, m_strB mt_isalpha⟩
    | exact ⟨PySem.F.plainAttrs_str, PySem.F.slot_str_islower, PySem.F.type_str_islower, m_strB mt_islower⟩
    | exact ⟨PySem.F.plainAttrs_str, PySem.F.slot_str_upper, PySem.F.type_str_upper, m_upper⟩)
  cases h
/-- a comprehension's block -/
theorem XO.blk (o : XO T FT N own m X sc sto) {scope : Scope} (hb : blkC N sc scope (ownOf N scope) = true) (s : Shared) (H : Hp) (C : Addr) (cl : List (Str × Addr)) (fp : List Addr) :
    XO T FT N own m (X.blk s H scope (compEnvC scope cl C X.env) fp) (relS scope sc) scope where
  ok := ⟨o.ok.k⟩
  nm := o.nm
  nd := o.nd
  scp := by show relabel scope X.env = relS scope sc; rw [← o.scp]; rfl
  kind := (blkOk_by hb).kind
  calm := o.calm
  gd := o.gd
  room := o.room
  fnl := fun x hx => by
    unfold locB at hx
    split at hx
    · rename_i e
      have z := lookup_relS_keep (sc := sc) (k := .local) (by decide) e
      exact ⟨.inl z, .inr z⟩
    · rename_i e
      have z := lookup_relS_keep (sc := sc) (k := .cell) (by decide) e
      refine ⟨.inr z, .inl ?_⟩
      show (scope.names.lookup x == some .cell) = true
      rw [e]; decide
    · cases hx
  fns := o.fns
  bl := o.bl
  cs := o.cs
end
end Q
/-! Q16: the compile step is right: expressions. -/
namespace Q
open PySem PySem.Spec PyProof.Rows L2
structure SN (T : Tx) (FT : FTab) (N : List Str) (own : Pg) (m n : Nat) : Prop where
  e : ∀ {X sc sto W}, XO T FT N own m X sc sto → Takes X W → ∀ {e t}, cE N own (runF FT m) n sc e = some t → PE X e (lE T W t)
  l : ∀ {X sc sto W}, XO T FT N own m X sc sto → Takes X W → ∀ {es t}, cL N own (runF FT m) n sc es = some t → PA X es (lL T W t)
  bo : ∀ {X sc sto W}, XO T FT N own m X sc sto → Takes X W → ∀ {op es t pos}, cBo N own (runF FT m) n sc op es = some t → PE X (.BoolOp op es pos) (lE T W t)
  b : ∀ {X sc sto W}, XO T FT N own m X sc sto → Takes X W → ∀ {e t}, cB N own (runF FT m) n sc e = some t → PT X e (lB T W t)
  bb : ∀ {X sc sto W}, XO T FT N own m X sc sto → Takes X W → ∀ {op es t pos}, cBb N own (runF FT m) n sc op es = some t → PW X (.BoolOp op es pos) (lB T W t)
  o : ∀ {X sc sto W}, XO T FT N own m X sc sto → Takes X W → ∀ {e t}, cO N own (runF FT m) n sc e = some t → PO X e (lO T W t)
  i : ∀ {X sc sto W}, XO T FT N own m X sc sto → Takes X W → ∀ {tg e t}, cI N own (runF FT m) n sc e = some t → isSet e = false → PI X tg e (lI T W t)
  p : ∀ {X sc sto W}, XO T FT N own m X sc sto → Takes X W → ∀ {pos ks vs ps}, cPs N own (runF FT m) n sc ks vs = some ps → PPs X pos ks vs (ps.map fun p => (lE T W p.1, lE T W p.2))
  t : ∀ {X sc sto W}, XO T FT N own m X sc sto → Takes X W → ∀ {es t}, cT N own (runF FT m) n sc es = some t → PTs X es (lB T W t)
section
variable {T : Tx} {FT : FTab} {N : List Str} {own : Pg} {m n : Nat} {X : Cx} {sc sto : Scope} {W : L2.WX}
theorem cNms_of (o : XO T FT N own m X sc sto) {vs : List Nat} : ∀ {es : List Expr} {is : List Nat}, cNms N sto vs es = some is → PGn X T vs es is ∧ (assignEach es X.env).length = is.length ∧ (assignEach es X.env).findIdx? (·.1) = none
  | [], is, h => by simp only [cNms, Option.some.injEq] at h; subst h; exact ⟨gn_nil, rfl, rfl⟩
  | e :: es, is, h => by
    cases e with
    | Name x pos =>
      simp only [cNms] at h
      split at h
      · rename_i hl
        split at h
        · rename_i i js h1 h2
          split at h
          · rename_i hc
            cases h
            obtain ⟨a, b, c⟩ := cNms_of o h2
            refine ⟨gn_cons (by rw [o.nm]; exact o.nd) (by rw [o.nm]; exact ixOf_get h1) (o.loc hl) (o.fn hl) (by simpa using hc) a rfl, ?_, ?_⟩
            · show (assignEach es X.env).length + 1 = _
              rw [b]; rfl
            · show List.findIdx? (·.1) ((false, assign (.Name x pos) X.env) :: assignEach es X.env) = none
              rw [List.findIdx?_cons]
              simp [c]
          · cases h
        · cases h
      · cases h
    | _ => simp [cNms] at h
theorem cG_of (o : XO T FT N own m X sc sto) {vs : List Nat} {tg : Expr} {g : GA} (h : cG N sto vs tg = some g) : PG X tg (lG T vs g) := by
  cases tg with
  | Name x pos =>
    simp only [cG] at h
    split at h
    · rename_i hl
      split at h
      · rename_i i h1
        split at h
        · rename_i hc
          cases h
          exact g_nm (by rw [o.nm]; exact o.nd) (by rw [o.nm]; exact ixOf_get h1) (o.loc hl) (o.fn hl) (by simpa using hc)
        · cases h
      · cases h
    · cases h
  | Tuple es k pos =>
    simp only [cG, Option.map_eq_some_iff] at h
    obtain ⟨is, h1, rfl⟩ := h
    obtain ⟨a, b, c⟩ := cNms_of o h1
    exact g_tup o.ok.k o.calm a b c
  | _ => simp [cG] at h
theorem snL (ih : SN T FT N own m n) (o : XO T FT N own m X sc sto) (tk : Takes X W) {es : List Expr} {t : LA} (h : cL N own (runF FT m) (n + 1) sc es = some t) : PA X es (lL T W t) := by
  cases es with
  | nil => simp only [cL, Option.some.injEq] at h; subst h; exact l_nil
  | cons e es =>
    simp only [cL] at h
    split at h
    · cases h
    · rename_i hs
      split at h
      · rename_i t u h1 h2
        cases h
        exact l_cons (ih.e o tk h1) (ih.l o tk h2) (star_cons (by simpa using hs))
      · cases h
theorem snP (ih : SN T FT N own m n) (o : XO T FT N own m X sc sto) (tk : Takes X W) {pos : Pos} {ks : List (Option Expr)} {vs : List Expr} {ps : List (EA × EA)} (h : cPs N own (runF FT m) (n + 1) sc ks vs = some ps) : PPs X pos ks vs (ps.map fun p => (lE T W p.1, lE T W p.2)) := by
  simp only [cPs] at h
  split at h
  · cases h; exact pps_nil
  · split at h
    · rename_i tk' tv ps' h1 h2 h3
      cases h
      exact pps_cons (ih.e o tk h1) (ih.e o tk h2) (ih.p o tk h3)
    · cases h
  · cases h
theorem snBo (ih : SN T FT N own m n) (o : XO T FT N own m X sc sto) (tk : Takes X W) {op : BoolOp} {es : List Expr} {t : EA} {pos : Pos} (h : cBo N own (runF FT m) (n + 1) sc op es = some t) : PE X (.BoolOp op es pos) (lE T W t) := by
  cases es with
  | nil => simp [cBo] at h
  | cons e es =>
    cases es with
    | nil => simp only [cBo] at h; exact p_one (ih.e o tk h)
    | cons e' es =>
      simp only [cBo] at h
      split at h
      · rename_i ta tb h1 h2
        cases h
        cases op
        · exact p_and o.ok.k (ih.e o tk h1) (ih.bo o tk h2)
        · exact p_or o.ok.k (ih.e o tk h1) (ih.bo o tk h2)
      · cases h
theorem snBb (ih : SN T FT N own m n) (o : XO T FT N own m X sc sto) (tk : Takes X W) {op : BoolOp} {es : List Expr} {t : BA} {pos : Pos} (h : cBb N own (runF FT m) (n + 1) sc op es = some t) : PW X (.BoolOp op es pos) (lB T W t) := by
  cases es with
  | nil => simp [cBb] at h
  | cons e es =>
    cases es with
    | nil =>
      simp only [cBb] at h
      cases op
      · exact q_and1 (ih.b o tk h)
      · exact q_or1 (ih.b o tk h)
    | cons e' es =>
      simp only [cBb] at h
      split at h
      · rename_i ta tb h1 h2
        cases h
        cases op
        · exact q_and (ih.b o tk h1) (ih.bb o tk h2)
        · exact q_or (ih.b o tk h1) (ih.bb o tk h2)
      · cases h
theorem snB (ih : SN T FT N own m n) (o : XO T FT N own m X sc sto) (tk : Takes X W) {e : Expr} {t : BA} (h : cB N own (runF FT m) (n + 1) sc e = some t) : PT X e (lB T W t) := by
  have plain : (if plainTest e = true then (cE N own (runF FT m) n sc e).map bV else none) = some t → PT X e (lB T W t) := fun h => by
    split at h
    · rename_i hp
      simp only [Option.map_eq_some_iff] at h
      obtain ⟨ta, h1, rfl⟩ := h
      exact q_val o.ok.k (ih.e o tk h1) (test_ok hp)
    · cases h
  cases e with
  | UnaryOp op a p =>
    cases op with
    | Not =>
      simp only [cB, Option.map_eq_some_iff] at h
      obtain ⟨ta, h1, rfl⟩ := h
      exact q_not (ih.b o tk h1)
    | _ => simp only [cB] at h; exact plain h
  | BoolOp op es p => simp only [cB] at h; exact (ih.bb o tk h).pt
  | Compare a ops bs p =>
    simp only [cB] at h
    split at h
    · rename_i op b
      split at h
      · cases h
      · rename_i hs
        split at h
        · rename_i ta f tb h1 h2 h3
          cases h
          exact q_cmp (cm_of o h2) (ih.e o tk h1) (ih.e o tk h3) (behind_ok (by simpa using hs))
        · cases h
    · rename_i op op' b b'
      split at h
      · cases h
      · rename_i hs
        split at h
        · rename_i ta f tb f' tc h1 h2 h3 h4 h5
          cases h
          exact q_chain (cm_of o h2) (cm_of o h4) (ih.e o tk h1) (ih.e o tk h3) (ih.e o tk h5) (last_ok (by simpa using hs))
        · cases h
    · cases h
  | _ => simp only [cB] at h; exact plain h
theorem snO (ih : SN T FT N own m n) (o : XO T FT N own m X sc sto) (tk : Takes X W) {e : Option Expr} {t : OA} (h : cO N own (runF FT m) (n + 1) sc e = some t) : PO X e (lO T W t) := by
  cases e with
  | none => simp only [cO, Option.some.injEq] at h; subst h; exact o_no
  | some e =>
    simp only [cO, Option.map_eq_some_iff] at h
    obtain ⟨ta, h1, rfl⟩ := h
    exact o_some (ih.e o tk h1)
theorem snT (ih : SN T FT N own m n) (o : XO T FT N own m X sc sto) (tk : Takes X W) {es : List Expr} {t : BA} (h : cT N own (runF FT m) (n + 1) sc es = some t) : PTs X es (lB T W t) := by
  simp only [cT] at h
  split at h
  · cases h; exact ts_nil
  · exact ts_one (ih.b o tk h)
  · cases h
theorem snI (ih : SN T FT N own m n) (o : XO T FT N own m X sc sto) (tk : Takes X W) {tg e : Expr} {t : IA} (h : cI N own (runF FT m) (n + 1) sc e = some t) (hs : isSet e = false) : PI X tg e (lI T W t) := by
  have seq : ∀ {e : Expr}, (cE N own (runF FT m) n sc e).map iSeq = some t → PI X tg e (lI T W t) := fun {e} h => by
    simp only [Option.map_eq_some_iff] at h
    obtain ⟨ta, h1, rfl⟩ := h
    exact i_seq o.ok.k (ih.e o tk h1)
  simp only [cI] at h
  split at h
  · rename_i x p a pos
    split at h
    · rename_i hx
      subst hx
      split at h
      · rename_i hb
        simp only [Bool.and_eq_true, Bool.not_eq_true'] at hb
        obtain ⟨g1, g2, g3⟩ := isBlt_of o hb.1
        simp only [Option.map_eq_some_iff] at h
        obtain ⟨ta, h1, rfl⟩ := h
        exact i_rng1 g1 g2 (ih.e o tk h1) (star_cons hb.2)
      · cases h
    · exact seq h
  · rename_i x p a b pos
    split at h
    · rename_i hx
      subst hx
      split at h
      · rename_i hb
        simp only [Bool.and_eq_true, Bool.not_eq_true'] at hb
        obtain ⟨g1, g2, g3⟩ := isBlt_of o hb.1.1
        split at h
        · rename_i ta tb h1 h2
          cases h
          exact i_rng2 g1 g2 (ih.e o tk h1) (ih.e o tk h2) (by rw [star_cons hb.1.2, star_cons hb.2]; rfl) (star_cons hb.2)
        · cases h
      · cases h
    · exact seq h
  · exact seq h
end
end Q
/-! Q17: the compile step is right: expressions, all; statements. -/
namespace Q
open PySem PySem.Spec PyProof.Rows L2
section
variable {T : Tx} {FT : FTab} {N : List Str} {own : Pg} {m n : Nat} {X : Cx} {sc sto : Scope} {W : L2.WX}
theorem snCall (ih : SN T FT N own m n) (o : XO T FT N own m X sc sto) (tk : Takes X W) {x : Str} {p pos : Pos} {es : List Expr} {t : EA} (h : cE N own (runF FT m) (n + 1) sc (.Call (.Name x p) es [] pos) = some t) : PE X (.Call (.Name x p) es [] pos) (lE T W t) := by
  simp only [cE] at h
  split at h
  · rename_i hst
    split at h
    · rename_i F hF
      obtain ⟨g1, g2, g3⟩ := isOwn_of o hF
      obtain ⟨d1, _, _⟩ := nmOk_d g3
      obtain ⟨f, fd, ps, FN, hm, hk, hb⟩ := o.fns x F g2
      simp only [Option.map_eq_some_iff] at h
      obtain ⟨u, h1, rfl⟩ := h
      cases es with
      | nil =>
        have hl := ih.l o tk h1
        have e : u = lNil := by
          cases n with
          | zero => simp [cL] at h1
          | succ k => simpa [cL] using h1.symm
        subst e
        exact p_call0 FN o.room o.gd g1 hm hk hb tk d1
      | cons e es =>
        simp only [List.all_cons, Bool.and_eq_true] at hst
        exact p_call FN o.room o.gd g1 hm hk hb tk (ih.l o tk h1) d1 (star_cons (by simpa using hst.1)) (back_plain hst.2)
    · split at h
      · rename_i hB
        obtain ⟨g1, g2, g3⟩ := isBlt_of o hB
        obtain ⟨d1, _, d3⟩ := nmOk_d g3
        split at h
        · rename_i hx
          subst hx
          split at h
          · rename_i e t0 pt
            split at h
            · rename_i hB2
              obtain ⟨k1, k2, k3⟩ := isBlt_of o hB2
              obtain ⟨l1, _, l3⟩ := nmOk_d k3
              split at h
              · rename_i ta mm h1 h2
                cases h
                obtain ⟨b1, b2⟩ := ty_of h2
                simp only [List.all_cons, Bool.and_eq_true] at hst
                exact p_isi1 o.ok.k (ih.e o tk h1) g1 g2 k1 k2 b1 b2 l3 l1 (star_cons (by simpa using hst.1))
              · cases h
            · cases h
          · rename_i e t0 pt t1 pt1 x1 pp
            split at h
            · rename_i hB2
              simp only [Bool.and_eq_true] at hB2
              obtain ⟨k1, k2, k3⟩ := isBlt_of o hB2.1
              obtain ⟨l1, _, l3⟩ := nmOk_d k3
              obtain ⟨k1', k2', k3'⟩ := isBlt_of o hB2.2
              obtain ⟨l1', _, l3'⟩ := nmOk_d k3'
              split at h
              · rename_i ta mm mm' h1 h2 h3
                cases h
                obtain ⟨b1, b2⟩ := ty_of h2
                obtain ⟨b1', b2'⟩ := ty_of h3
                simp only [List.all_cons, Bool.and_eq_true] at hst
                exact p_isi2 o.ok.k (ih.e o tk h1) g1 g2 k1 k2 b1 b2 l3 l1 k1' k2' b1' b2' l3' l1' (star_cons (by simpa using hst.1))
              · cases h
            · cases h
          · cases h
        · split at h
          · rename_i hx
            subst hx
            split at h
            · rename_i z pz a b posz
              split at h
              · rename_i hz
                subst hz
                split at h
                · rename_i hc
                  simp only [Bool.and_eq_true, Bool.not_eq_true'] at hc
                  obtain ⟨k1, k2, k3⟩ := isBlt_of o hc.1.1
                  simp only [Option.map_eq_some_iff] at h
                  obtain ⟨u, h1, rfl⟩ := h
                  exact p_dz o.calm g1 g2 k1 k2 (ih.l o tk h1) (star_cons hc.1.2) (back_plain (by simp [hc.2]))
                · cases h
              · cases h
            · cases h
          split at h
          · cases h
          · rename_i hne
            split at h
            · rename_i ty id f u h1 h2
              cases h
              cases es with
              | nil => simp at hne
              | cons e es =>
                simp only [List.all_cons, Bool.and_eq_true] at hst
                rcases bi_of (T := T) o h1 with ⟨_, c1, c2⟩ | ⟨_, c1, c2⟩
                · exact p_bi c1 g1 g2 c2 (ih.l o tk h2) d3 d1 (star_cons (by simpa using hst.1)) (back_plain hst.2)
                · exact p_bt c1 g1 g2 c2 (ih.l o tk h2) d3 d1 (star_cons (by simpa using hst.1)) (back_plain hst.2)
            · cases h
      · cases h
  · cases h
theorem snMeth (ih : SN T FT N own m n) (o : XO T FT N own m X sc sto) (tk : Takes X W) {ob : Expr} {mn : Str} {apos pos : Pos} {es : List Expr} {t : EA} (h : cE N own (runF FT m) (n + 1) sc (.Call (.Attribute ob mn apos) es [] pos) = some t) : PE X (.Call (.Attribute ob mn apos) es [] pos) (lE T W t) := by
  simp only [cE] at h
  split at h
  · rename_i hc
    simp only [Bool.and_eq_true, decide_eq_true_eq] at hc
    obtain ⟨⟨⟨hst, hb⟩, hl⟩, hlen⟩ := hc
    split at h
    · rename_i he
      split at h
      · rename_i ty id f to h1 h2
        cases h
        cases es with
        | cons e es => simp at he
        | nil =>
          obtain ⟨a1, a2, a3, a4⟩ := mt0_of o h1
          exact p_m0 o.ok.k a1 a2 a3 a4 (ih.e o tk h2) (base_ok hb) hl
      · cases h
    · rename_i he
      split at h
      · rename_i ty id f to u h1 h2 h3
        cases h
        cases es with
        | nil => simp at he
        | cons e es =>
          obtain ⟨a1, a2, a3, a4⟩ := mt_of o h1
          have hst' := hst
          simp only [List.all_cons, Bool.and_eq_true] at hst
          exact p_m o.ok.k a1 a2 a3 a4 (ih.e o tk h2) (ih.l o tk h3) (base_ok hb) (few_ok hst' (by simp at hlen; omega)) hl (star_cons (by simpa using hst.1)) (back_plain hst.2)
      · cases h
  · cases h
theorem snLc (ih : SN T FT N own m n) (o : XO T FT N own m X sc sto) (tk : Takes X W) {elt : Expr} {gens : List Comprehension} {scope : Scope} {pos : Pos} {t : EA} (h : cE N own (runF FT m) (n + 1) sc (.ListComp elt gens scope pos) = some t) :
    ∃ tg iter ifs it g tt te, gens = [⟨tg, iter, ifs, 0⟩] ∧ t = eLc (own.mu.contains pos) it g tt te ((ownOf N scope).map (·.2)) ∧ PI X tg iter (lI T W it) ∧ BlkOk X.N X.env.scope scope (ownOf N scope) ∧
      (∀ s H C cl fp, PG (X.blk s H scope (compEnvC scope cl C X.env) fp) tg (lG T ((ownOf N scope).map (·.2)) g)) ∧ (∀ s H C cl fp, PTs (X.blk s H scope (compEnvC scope cl C X.env) fp) ifs (lB T W0 tt)) ∧
      (∀ s H C cl fp, PE (X.blk s H scope (compEnvC scope cl C X.env) fp) elt (lE T W0 te)) ∧ (∀ x, foldedSetIterable iter X.env x = pure x) := by
  simp only [cE] at h
  split at h
  · rename_i tg iter ifs
    split at h
    · rename_i hc
      simp only [Bool.and_eq_true, Bool.not_eq_true'] at hc
      split at h
      · rename_i it g tt te h1 h2 h3 h4
        cases h
        exact ⟨tg, iter, ifs, it, g, tt, te, rfl, rfl, ih.i o tk h1 hc.2, by rw [o.nm, o.scp]; exact blkOk_by hc.1, fun s H C cl fp => cG_of (o.blk hc.1 s H C cl fp) h2, fun s H C cl fp => ih.t (o.blk hc.1 s H C cl fp) takes0 h3,
          fun s H C cl fp => ih.e (o.blk hc.1 s H C cl fp) takes0 h4, folded_ok hc.2⟩
      · cases h
    · cases h
  · cases h
theorem snDc (ih : SN T FT N own m n) (o : XO T FT N own m X sc sto) (tk : Takes X W) {k v : Expr} {gens : List Comprehension} {scope : Scope} {pos : Pos} {t : EA} (h : cE N own (runF FT m) (n + 1) sc (.DictComp k v gens scope pos) = some t) :
    PE X (.DictComp k v gens scope pos) (lE T W t) := by
  simp only [cE] at h
  split at h
  · rename_i tg iter ifs
    split at h
    · rename_i hc
      simp only [Bool.and_eq_true, Bool.not_eq_true'] at hc
      split at h
      · rename_i it g tt tk' tv h1 h2 h3 h4 h5
        cases h
        have B := fun s H C cl fp => o.blk hc.1 s H C cl fp
        exact PE.imp (pe_dg (own := ownOf N scope) (by have := o.room.un; omega) ⟨o.calm, by rw [o.nm]; exact o.nd, ih.i o tk h1 hc.2, by rw [o.nm, o.scp]; exact blkOk_by hc.1, fun s H C cl fp => cG_of (B s H C cl fp) h2,
          fun s H C cl fp => ih.t (B s H C cl fp) takes0 h3, fun s H C cl fp => ih.e (B s H C cl fp) takes0 h4, fun s H C cl fp => ih.e (B s H C cl fp) takes0 h5, folded_ok hc.2⟩) fun σ H Q h => dc_lift h
      · cases h
    · cases h
  · cases h
theorem snE (ih : SN T FT N own m n) (o : XO T FT N own m X sc sto) (tk : Takes X W) {e : Expr} {t : EA} (h : cE N own (runF FT m) (n + 1) sc e = some t) : PE X e (lE T W t) := by
  cases e with
  | Name x pos =>
    simp only [cE] at h
    split at h
    · rename_i hc
      simp only [Bool.and_eq_true] at hc
      obtain ⟨d1, d2, _⟩ := nmOk_d hc.2
      simp only [Option.map_eq_some_iff] at h
      obtain ⟨i, h1, rfl⟩ := h
      exact p_var (by rw [o.nm]; exact ixOf_get h1) (o.vis hc.1) d1 d2
    · split at h
      · rename_i hc
        simp only [Bool.and_eq_true] at hc
        obtain ⟨d1, d2, _⟩ := nmOk_d hc.2
        simp only [Option.map_eq_some_iff] at h
        obtain ⟨i, h1, rfl⟩ := h
        obtain ⟨t, e⟩ := o.cs x i h1
        exact p_const (pe_glob (v := .int i) (o.gl hc.1) e ⟨t, rfl⟩ d1) fun G H => rv_i _
      · cases h
  | Constant k j pos =>
    simp only [cE] at h
    split at h <;> first | cases h | skip
    · exact p_const pe_int fun G H => rv_i _
    · exact p_const pe_bl fun G H => rv_b _
    · exact p_const pe_non fun G H => rv_n
    · exact p_const pe_str fun G H => rv_s _
  | Tuple es k pos => simp only [cE, Option.map_eq_some_iff] at h; obtain ⟨u, h1, rfl⟩ := h; exact p_tup (ih.l o tk h1)
  | List es pos => simp only [cE, Option.map_eq_some_iff] at h; obtain ⟨u, h1, rfl⟩ := h; exact p_lst (ih.l o tk h1)
  | Dict ks vs pos =>
    simp only [cE] at h
    split at h
    · rename_i hc
      simp only [Bool.and_eq_true, List.isEmpty_iff] at hc
      cases h
      obtain ⟨rfl, rfl⟩ := hc
      exact p_dct0
    · split at h
      · rename_i hc
        simp only [Bool.and_eq_true, decide_eq_true_eq, Bool.not_eq_true'] at hc
        simp only [Option.map_eq_some_iff] at h
        obtain ⟨u, h1, rfl⟩ := h
        exact p_dis (ih.p o tk h1) hc.1.1.1 hc.1.1.2 (fun z => by rw [z] at hc; simp at hc) hc.2
      · cases h
  | BinOp a op b pos =>
    simp only [cE] at h
    split at h
    · rename_i ta f tb h1 h2 h3
      cases h
      exact p_bin (op_of o.ok.k h2) (ih.e o tk h1) (ih.e o tk h3)
    · cases h
  | UnaryOp op a pos =>
    cases op <;> simp only [cE, reduceCtorEq, Option.map_eq_some_iff] at h
    all_goals (obtain ⟨u, h1, rfl⟩ := h; first | exact p_neg (ih.e o tk h1) | exact p_not o.ok.k (ih.e o tk h1))
  | BoolOp op es pos => simp only [cE] at h; exact ih.bo o tk h
  | Compare a ops bs pos =>
    simp only [cE] at h
    split at h
    · rename_i op b
      split at h
      · cases h
      · rename_i hs
        split at h
        · rename_i ta f tb h1 h2 h3
          cases h
          exact p_cmp (cm_of o h2) (ih.e o tk h1) (ih.e o tk h3) (behind_ok (by simpa using hs))
        · cases h
    · rename_i op op' b b'
      split at h
      · cases h
      · rename_i hs
        split at h
        · rename_i ta f tb f' tc h1 h2 h3 h4 h5
          cases h
          exact p_chain (cm_of o h2) (cm_of o h4) (ih.e o tk h1) (ih.e o tk h3) (ih.e o tk h5) (last_ok (by simpa using hs))
        · cases h
    · cases h
  | IfExp q a b pos =>
    simp only [cE] at h
    split at h
    · rename_i t1 ta tb h1 h2 h3
      cases h
      exact p_if (ih.b o tk h1) (ih.e o tk h2) (ih.e o tk h3)
    · cases h
  | Subscript a s pos =>
    simp only [cE] at h
    split at h
    · rename_i lo hi st p2
      split at h
      · split at h
        · rename_i ta tl th h1 h2 h3
          cases h
          exact p_sl o.ok.k (ih.e o tk h1) (ih.o o tk h2) (ih.o o tk h3)
        · cases h
      · split at h
        · rename_i hc
          simp only [Bool.and_eq_true, Option.isNone_iff_eq_none] at hc
          obtain ⟨rfl, rfl⟩ := hc
          simp only [Option.map_eq_some_iff] at h
          obtain ⟨u, h1, rfl⟩ := h
          exact p_rev o.ok.k (ih.e o tk h1)
        · cases h
      · cases h
    · rename_i hs
      split at h
      · rename_i ta ti h1 h2
        cases h
        refine p_ixD o.ok.k (by have := o.room.un; omega) (ih.e o tk h1) (ih.e o tk h2) (plainIx_ok ?_)
        cases s <;> first | rfl | exact absurd rfl (hs _ _ _ _)
      · cases h
  | Call f es ks pos =>
    cases f with
    | Name x p =>
      cases ks with
      | nil => exact snCall ih o tk h
      | cons _ _ => simp [cE] at h
    | Attribute ob mn apos =>
      cases ks with
      | nil => exact snMeth ih o tk h
      | cons _ _ => simp [cE] at h
    | _ => simp [cE] at h
  | ListComp elt gens scope pos =>
    obtain ⟨tg, iter, ifs, it, g, tt, te, rfl, rfl, a1, a2, a3, a4, a5, a6⟩ := snLc ih o tk h
    exact p_lc o.calm (by rw [o.nm]; exact o.nd) a1 a2 a3 a4 a5 a6
  | DictComp k v gens scope pos => exact snDc ih o tk h
  | _ => simp [cE] at h
theorem sn_zero : SN T FT N own m 0 where
  e := by intro X sc sto W o tk e t h; simp [cE] at h
  l := by intro X sc sto W o tk e t h; simp [cL] at h
  bo := by intro X sc sto W o tk op e t p h; simp [cBo] at h
  b := by intro X sc sto W o tk e t h; simp [cB] at h
  bb := by intro X sc sto W o tk op e t p h; simp [cBb] at h
  o := by intro X sc sto W o tk e t h; simp [cO] at h
  i := by intro X sc sto W o tk tg e t h; simp [cI] at h
  p := by intro X sc sto W o tk pos ks vs ps h; simp [cPs] at h
  t := by intro X sc sto W o tk e t h; simp [cT] at h
theorem sn_all : ∀ n, SN T FT N own m n
  | 0 => sn_zero
  | n + 1 => {
    e := by intro X sc sto W o tk e t h; exact snE (sn_all n) o tk h
    l := by intro X sc sto W o tk e t h; exact snL (sn_all n) o tk h
    bo := by intro X sc sto W o tk op e t p h; exact snBo (sn_all n) o tk h
    b := by intro X sc sto W o tk e t h; exact snB (sn_all n) o tk h
    bb := by intro X sc sto W o tk op e t p h; exact snBb (sn_all n) o tk h
    o := by intro X sc sto W o tk e t h; exact snO (sn_all n) o tk h
    i := by intro X sc sto W o tk tg e t h hs; exact snI (sn_all n) o tk h hs
    p := by intro X sc sto W o tk pos ks vs ps h; exact snP (sn_all n) o tk h
    t := by intro X sc sto W o tk e t h; exact snT (sn_all n) o tk h }
/-! ### statements -/
structure SS (T : Tx) (FT : FTab) (N : List Str) (own : Pg) (m n : Nat) : Prop where
  s : ∀ {X sc W}, XO T FT N own m X sc sc → Takes X W → PassesOwn (model X.prog X.w) X.A X.env X.xe → ∀ {st t}, cS N own (runF FT m) n sc st = some t → PS X st (lS T W t)
  a : ∀ {X sc W}, XO T FT N own m X sc sc → Takes X W → PassesOwn (model X.prog X.w) X.A X.env X.xe → ∀ {tg e pos t}, cA N own (runF FT m) n sc tg e pos = some t → PS X (.Assign [tg] e pos) (lS T W t)
  ss : ∀ {X sc W}, XO T FT N own m X sc sc → Takes X W → PassesOwn (model X.prog X.w) X.A X.env X.xe → ∀ {sts t}, cSs N own (runF FT m) n sc sts = some t → PSs X sts (lS T W t)
theorem ssSs (ih : SS T FT N own m n) (o : XO T FT N own m X sc sc) (tk : Takes X W) (po : PassesOwn (model X.prog X.w) X.A X.env X.xe) {sts : List Stmt} {t : SA} (h : cSs N own (runF FT m) (n + 1) sc sts = some t) : PSs X sts (lS T W t) := by
  cases sts with
  | nil => simp only [cSs, Option.some.injEq] at h; subst h; exact b_nil
  | cons st sts =>
    simp only [cSs] at h
    split at h
    · rename_i t1 t2 h1 h2
      cases h
      exact b_cons (ih.s o tk po h1) (ih.ss o tk po h2)
    · cases h
theorem ssA (o : XO T FT N own m X sc sc) (tk : Takes X W) (po : PassesOwn (model X.prog X.w) X.A X.env X.xe) {tg e : Expr} {pos : Pos} {t : SA} (h : cA N own (runF FT m) (n + 1) sc tg e pos = some t) : PS X (.Assign [tg] e pos) (lS T W t) := by
  have nd : X.N.Nodup := by rw [o.nm]; exact o.nd
  have ie := fun {e t} h => (sn_all (T := T) (FT := FT) (N := N) (own := own) (m := m) n).e o tk (e := e) (t := t) h
  cases tg with
  | Name x px =>
    simp only [cA] at h
    split at h
    · rename_i hl
      split at h
      · rename_i i t1 h1 h2
        have get : X.N[i]? = some x := by rw [o.nm]; exact ixOf_get h1
        split at h
        · rename_i elt gens scope cpos
          split at h
          · rename_i hcell
            cases h
            refine s_set nd get (o.loc hl) (ie h2) (swap_cell ?_) (o.fn hl)
            show X.env.scope.names.lookup x = _
            rw [o.scp]; simpa using hcell
          · rename_i hcell
            split at h
            · rename_i hc
              cases h
              simp only [Bool.and_eq_true, Bool.not_eq_true'] at hc
              have hloc : sc.names.lookup x = some .local := by
                unfold locB at hl
                split at hl
                · rename_i e; exact e
                · rename_i e; rw [e] at hcell; exact absurd (by decide) hcell
                · cases hl
              cases n with
              | zero => simp [cE] at h2
              | succ k =>
                obtain ⟨tg, iter, ifs, it, g, tt, te, rfl, rfl, a1, a2, a3, a4, a5, a6⟩ := snLc (sn_all k) o tk h2
                exact s_setLc o.calm nd get (by rw [o.scp]; exact hloc) (sw_true (by rw [o.scp]; exact o.kind) (by rw [o.scp]; exact hloc) hc.1 hc.2) a1 a2 a3 a4 a5 a6
            · cases h
        · split at h
          · cases h
          · rename_i hc
            cases h
            exact s_set nd get (o.loc hl) (ie h2) (swap_ok (by simpa using hc)) (o.fn hl)
      · cases h
    · cases h
  | Subscript ob i p2 =>
    simp only [cA] at h
    split at h
    · cases h
    · rename_i hc
      simp only [Bool.or_eq_true, not_or, Bool.not_eq_true] at hc
      split at h
      · rename_i to ti te h1 h2 h3
        cases h
        exact s_asg (vs := []) (ie h3) (g_subD (by have := o.room.un; omega) (ie h1) (ie h2) (subStore_ok hc.1)) (swapSole_ok hc.2) (stores_one rfl) (assign1 rfl)
      · cases h
  | Tuple es k p2 =>
    simp only [cA] at h
    split at h
    · rename_i vs k2 pt2
      split at h
      · rename_i hsw
        split at h
        · rename_i t1 g h1 h2
          cases h
          exact s_asg (ie h1) (cG_of o h2) (swapSole_ok rfl) (sw_of (by rw [o.scp]; exact o.kind) (by rw [o.scp]; exact hsw)) (assign1 rfl)
        · cases h
      · rename_i x y hsw
        split at h
        · rename_i x' px y' py a b
          split at h
          · rename_i hc
            simp only [Bool.and_eq_true, decide_eq_true_eq, Bool.not_eq_true'] at hc
            obtain ⟨⟨⟨rfl, rfl⟩, ha⟩, hb⟩ := hc
            split at h
            · rename_i i j t1 h1 h2 h3
              split at h
              · rename_i hd
                cases h
                simp only [Bool.and_eq_true, decide_eq_true_eq, beq_iff_eq] at hd
                exact s_par o.calm nd (by rw [o.nm]; exact ixOf_get h1) (by rw [o.nm]; exact ixOf_get h2) hd.1.1 (by rw [o.scp]; exact hd.1.2) (by rw [o.scp]; exact hd.2) ((sn_all n).l o tk h3)
                  (sw_of (by rw [o.scp]; exact o.kind) (by rw [o.scp]; exact hsw)) (swapSole_ok rfl)
              · cases h
            · cases h
          · cases h
        · cases h
      · cases h
    · rename_i hnt
      split at h
      · cases h
      · rename_i hc
        split at h
        · rename_i t1 g h1 h2
          cases h
          refine s_asg (ie h1) (cG_of o h2) (swapSole_ok (by simpa using hc)) (stores_ok ?_) (assign1 rfl)
          cases e <;> first | rfl | exact absurd rfl (hnt _ _ _)
        · cases h
  | _ => simp [cA] at h
theorem ssS (ih : SS T FT N own m n) (o : XO T FT N own m X sc sc) (tk : Takes X W) (po : PassesOwn (model X.prog X.w) X.A X.env X.xe) {st : Stmt} {t : SA} (h : cS N own (runF FT m) (n + 1) sc st = some t) : PS X st (lS T W t) := by
  have ie := fun {e t} h => (sn_all (T := T) (FT := FT) (N := N) (own := own) (m := m) n).e o tk (e := e) (t := t) h
  cases st with
  | Pass p => simp only [cS, Option.some.injEq] at h; subst h; exact s_pass
  | Break p => simp only [cS, Option.some.injEq] at h; subst h; exact s_brk
  | Continue p => simp only [cS, Option.some.injEq] at h; subst h; exact s_cnt
  | Return e p =>
    simp only [cS] at h
    split at h
    · cases h; exact s_retN
    · simp only [Option.map_eq_some_iff] at h; obtain ⟨u, h1, rfl⟩ := h; exact s_ret (ie h1)
  | Expr e p =>
    simp only [cS] at h
    split at h
    · cases h; exact s_doc (j := none)
    · split at h
      · cases h
      · rename_i hc
        simp only [Option.map_eq_some_iff] at h; obtain ⟨u, h1, rfl⟩ := h; exact s_ex (ie h1) (swap_ok (by simpa using hc))
  | If q a b p =>
    simp only [cS] at h
    split at h
    · rename_i t1 u v h1 h2 h3
      cases h
      exact s_if ((sn_all n).b o tk h1) (ih.ss o tk po h2) (ih.ss o tk po h3)
    · cases h
  | For tg iter body orelse p =>
    simp only [cS] at h
    split at h
    · cases h
    · rename_i hc
      simp only [Bool.or_eq_true, not_or, Bool.not_eq_true, Bool.not_eq_false', List.isEmpty_iff] at hc
      split at h
      · rename_i it g t1 h1 h2 h3
        cases h
        obtain ⟨hs, hor⟩ := hc
        subst hor
        exact s_for po o.calm ((sn_all n).i o tk h1 hs) (cG_of o h2) (ih.ss o tk po h3) (folded_ok hs)
      · cases h
  | AugAssign tg op e p =>
    simp only [cS] at h
    split at h
    · rename_i ob i p2
      split at h
      · cases h
      · rename_i hc
        split at h
        · rename_i to ti te h1 h2 h3
          cases h
          exact s_aug o.ok.k (ie h1) (ie h2) (ie h3) (augStore_ok (by simpa using hc))
        · cases h
    · cases h
  | Assign tgs e p =>
    simp only [cS] at h
    split at h
    · exact ih.a o tk po h
    · cases h
  | _ => simp [cS] at h
theorem ss_all : ∀ n, SS T FT N own m n
  | 0 => {
    s := by intro X sc W o tk po st t h; simp [cS] at h
    a := by intro X sc W o tk po tg e pos t h; simp [cA] at h
    ss := by intro X sc W o tk po sts t h; simp [cSs] at h }
  | n + 1 => {
    s := by intro X sc W o tk po st t h; exact ssS (ss_all n) o tk po h
    a := by intro X sc W o tk po tg e pos t h; exact ssA o tk po h
    ss := by intro X sc W o tk po sts t h; exact ssSs (ss_all n) o tk po h }
end
end Q
/-! Q18: all defs of a text; the law's call. -/
namespace Q
open PySem PySem.Spec PyProof.Rows L2
/-- a def of the text by its compiled body -/
theorem fnG_comp {P : Program} {w : World} {K : PySem.W.Frag} {mg : Str → Option Value} {base : Heap} {T : Tx} {FT : FTab} {n k : Nat} {x qual : Str} {st : Stmt} {f : Addr} {fd : FuncData} {N ps : List Str} {F : String} {d : FD} {own : Pg} (hF : Fun K x qual st f fd) (S : FnScope N ps (defScope st))
    (hd : FT (Str.ofString F) = some d) (h1 : d.ps = ps.length) (h2 : d.slots = N.length) (hT : T.K = K)
    (hc : cSs N own (runF FT n) k (defScope st) (defBody st) = some (d.body (runF FT n)))
    (fns : ∀ x F, own.fn.lookup x = some F → ∃ f fd ps, FnG P w K mg base (L2.CX P w) n f fd ps (spA T FT n F) ∧ mg x = some (.ref f) ∧ PySem.W.keepIn K (.ref f) = true ∧ Binds K fd ps [])
    (bl : ∀ x, own.fn.lookup x = none → x ∈ bltNames → mg x = none) (cs : ∀ x i, own.kc.lookup x = some i → ∃ t, mg x = some (.int i t)) : FnG P w K mg base (L2.CX P w) (n + 1) f fd ps (spA T FT (n + 1) F) := by
  refine fnG_of hF S hd h1 h2 fun cdv A fr s H E hr hg => ?_
  have o : XO T FT N own n (cxOf (L2.CX P w) P w K mg base N qual (defScope st) f cdv A fr s H E) (defScope st) (defScope st) :=
    ⟨⟨hT⟩, rfl, S.nd, rfl, S.kind, rfl, hg, hr, (fun x hx => by
      unfold locB at hx
      split at hx
      · rename_i e; exact ⟨.inl e, .inl rfl⟩
      · rename_i e; exact ⟨.inr e, .inl rfl⟩
      · cases hx), fns, bl, cs⟩
  exact (ss_all k).ss o (takes_of rfl rfl rfl rfl) (passes_of rfl) hc
/-- what a text's def is: name, the place in the top, names by slot, parameters -/
structure DI where
  key : String
  qual : Str
  st : Stmt
  N : List Str
  ps : List Str
/-- one def as the top has left it -/
structure DefAt (K : PySem.W.Frag) (mg : Str → Option Value) (i : DI) (f : Addr) (fd : FuncData) : Prop where
  fn : Fun K (Str.ofString i.key) i.qual i.st f fd
  sc : FnScope i.N i.ps (defScope i.st)
  mg : mg (Str.ofString i.key) = some (.ref f)
  bd : Binds K fd i.ps []
  bd1 : ∀ (s : Shared) (us : List Value), us.length = i.ps.length → BindsTo s fd ⟨us, []⟩ (i.ps.zip us)
/-- all defs keep their promises, at every depth -/
theorem all_defs {P : Program} {w : World} {K : PySem.W.Frag} {mg : Str → Option Value} {base : Heap} {T : Tx} {FT : FTab} {k : Nat} {ds : List DI} {own : Pg} (hT : T.K = K)
    (at_ : ∀ i ∈ ds, ∃ f fd, DefAt K mg i f fd) (hown : ∀ x F, own.fn.lookup x = some F → ∃ i ∈ ds, i.key = F ∧ x = Str.ofString F)
    (hFT : ∀ i ∈ ds, ∃ d, FT (Str.ofString i.key) = some d ∧ d.ps = i.ps.length ∧ d.slots = i.N.length ∧ ∀ c, cSs i.N own c k (defScope i.st) (defBody i.st) = some (d.body c))
    (bl : ∀ x, own.fn.lookup x = none → x ∈ bltNames → mg x = none) (cs : ∀ x i, own.kc.lookup x = some i → ∃ t, mg x = some (.int i t)) :
    ∀ (n : Nat) (i : DI), i ∈ ds → ∀ f fd, DefAt K mg i f fd → FnG P w K mg base (L2.CX P w) n f fd i.ps (spA T FT n i.key)
  | 0, i, hi, f, fd, D => ⟨fun vs H Q E h => by obtain ⟨_, _, _, _, _, _, z, _⟩ := h; exact False.elim z, fun A _ _ fr s H as us vs Q E _ _ _ h => by obtain ⟨_, _, _, _, _, _, z, _⟩ := h; exact False.elim z⟩
  | n + 1, i, hi, f, fd, D => by
    obtain ⟨d, e, e1, e2, hc⟩ := hFT i hi
    refine fnG_comp D.fn D.sc e e1 e2 hT (hc _) (fun x F h => ?_) bl cs
    obtain ⟨j, hj, rfl, rfl⟩ := hown x F h
    obtain ⟨g, gd, Dj⟩ := at_ j hj
    exact ⟨g, gd, j.ps, all_defs hT at_ hown hFT bl cs n j hj g gd Dj, Dj.mg, Dj.fn.kp, Dj.bd⟩
/-- the heap of the law's entry: the script alone, where it is no object of the top -/
def scriptH (K : PySem.W.Frag) (a : Addr) (o : Obj) (xs : List V) : Hp := fun b => if b = a ∧ K.lookup a = none then some (.frz o (.lst xs)) else none
theorem scriptH_cases {K : PySem.W.Frag} {a b : Addr} {o : Obj} {xs : List V} {u : HO} (h : scriptH K a o xs b = some u) : b = a ∧ K.lookup a = none ∧ u = .frz o (.lst xs) := by
  unfold scriptH at h
  split at h
  · rename_i c; cases h; exact ⟨c.1, c.2, rfl⟩
  · cases h
theorem law_run {P : Program} {w : World} {K : PySem.W.Frag} {mg mb : Str → Option Value} {n : Nat} {fa a : Addr} {fd : FuncData} {x : Str} {s₁ : Shared} {vs : List Value} {ns : List Int} {T : Tx} {FT : FTab} {F : String}
    (KX : K.In s₁.heap) (hns : s₁.heap.Ns mainGlobals mg) (hb : s₁.heap.Ns builtinsNs mb) (hbb : ∀ x : Str, x ≠ "__name__" → mb x = bootBuiltins x) (hlim : s₁.heap.NoLimit) (hg : s₁.gens = #[])
    (ha : s₁.heap.get? a = some { cls := .type "list", data := .seq vs.toArray }) (hi : IntsAre vs ns) (hl : ns.length ≤ sizeLine) (hr : Room n callerA) (hT : T.K = K)
    (FN : ∀ base : Heap, FnG P w K mg base (L2.CX P w) n fa fd [x] (spA T FT n F)) (hbind : ∀ (s : Shared) (u : Value), BindsTo s fd ⟨[u], []⟩ [(x, u)])
    (run : runF FT n F [.scr (ns.map A.int)] (fun _ => none) (fun v _ => v = .bl true) (fun _ _ => False)) :
    codeAny (model P w) callerA (.call (.ref fa) ⟨[.ref a], []⟩) (fun r s' => r = .ok (.ret (.bool true)) ∧ OldK s₁.heap s'.heap ∧ s'.os = s₁.os ∧ AllBare s'.gens) s₁ := by
  have rv : Vals (ns.map V.int) vs := vals_of_ints hi
  generalize hH : scriptH K a { cls := .type "list", data := .seq vs.toArray } (ns.map V.int) = H
  have only : ∀ b u, H b = some u → b = a ∧ K.lookup a = none ∧ u = .frz { cls := .type "list", data := .seq vs.toArray } (.lst (ns.map V.int)) := fun b u h => by rw [← hH] at h; exact scriptH_cases h
  have sq : ScrAt T ⟨fun _ => none, fun b => H b ≠ none⟩ H a (ns.map V.int) := by
    cases hk : K.lookup a with
    | none =>
      have e : H a = some (.frz { cls := .type "list", data := .seq vs.toArray } (.lst (ns.map V.int))) := by rw [← hH]; unfold scriptH; rw [if_pos ⟨rfl, hk⟩]
      exact .inl ⟨⟨by show H a ≠ none; rw [e]; simp, rfl⟩, .inr ⟨_, e⟩⟩
    | some o =>
      have e := KX a o hk
      rw [ha] at e
      cases e
      exact .inr (.inr ⟨_, vs.toArray, _, hT ▸ hk, rfl, rfl, rfl, by rw [List.size_toArray, hi.length]; exact hl, by simpa using rv⟩)
  have hok : HOk P w H s₁.heap := fun b u h => by
    obtain ⟨rfl, _, rfl⟩ := only b u h
    exact ⟨ha, by rw [List.length_map]; exact hl, vs, _, rv, ha⟩
  have keepK : ∀ {b : Addr} {o : Obj}, s₁.heap.get? b = some o → (b = a → K.lookup a ≠ none) → (hidT s₁.heap H).get? b = some o := fun {b o} e h => hidT_get e (by
    cases q : H b with
    | none => rfl
    | some u => obtain ⟨z1, z2, _⟩ := only b u q; exact absurd z2 (h z1))
  have keepD : ∀ {b : Addr} {m : Str → Option Value}, s₁.heap.Ns b m → (hidT s₁.heap H).Ns b m := fun {b m} ⟨o, es, ep, e, d, r⟩ => ⟨o, es, ep, hidT_get e (by
    cases q : H b with
    | none => rfl
    | some u =>
      obtain ⟨z1, _, _⟩ := only b u q
      subst z1
      rw [ha] at e
      cases e
      cases d), d, r⟩
  have M : Mod K mg (hidT s₁.heap H) := ⟨fun b o e => keepK (KX b o e) (fun z => by subst z; rw [e]; exact fun q => nomatch q), keepD hns, ⟨mb, keepD hb, hbb⟩, let ⟨mc, h1, h2⟩ := hlim; ⟨mc, keepD h1, h2⟩⟩
  have e0 : Env0 P w K mg (hidT s₁.heap H) callerA [] s₁ H := ⟨rfl, M, fun b o e => of_hidT e, Nat.le_of_eq (hidT_size _ _), trivial, (fun b hb => by cases hb), hok, .of_eq hg⟩
  have prom : spA T FT n F [.ref a] H (fun v _ => v = .bl true) fun _ _ _ => False := by
    refine ⟨[.scr (ns.map A.int)], ⟨fun _ => none, fun b => H b ≠ none⟩, _, _, .one ?_, ⟨(fun b o z => by cases z), fun b z => z⟩, run, fun a' G' v H' z r _ _ => ?_, fun _ _ _ _ _ z _ _ _ => z⟩
    · simp only [RV]
      refine ⟨a, ns.map V.int, rfl, sq, ?_⟩
      clear run hi rv hH only sq hok keepK keepD M e0
      induction ns with
      | nil => simp only [List.map_nil, RVs]
      | cons i is ih => exact .cons (rv_i i) (ih (by simp at hl; omega))
    · subst z; simpa only [RV] using r
  refine codeAny_mono ((FN _).run callerA hr rfl [] s₁ H ⟨[.ref a], []⟩ [.ref a] [.ref a] _ _ e0 (hbind s₁ (.ref a)) (.cons rfl .nil) prom) fun r s' h => ?_
  match r, h with
  | .error e, h =>
    obtain ⟨_, _, _, _, _, _, _, _, _, _, _, _, z⟩ := h
    exact z.elim
  | .ok (.ret u), ⟨v, H', os, bare, un, hok', r', q⟩ =>
    have q' : v = .bl true := q
    subst q'
    obtain rfl : u = Value.bool true := r'
    refine ⟨rfl, OldK.of_keep fun b o e => ?_, os, bare⟩
    cases q : H b with
    | none => exact un.keep b o e q (by intro z; cases z) (by intro z; cases z)
    | some u =>
      obtain ⟨rfl, _, rfl⟩ := only b u q
      obtain ⟨e1, _⟩ := hok' b _ (un.frzs b _ _ q)
      rw [ha] at e
      cases e
      exact e1
end Q
/-! Q19: the end of a law's proof. -/
namespace Q
open PySem PySem.Spec PyProof.Rows L2
theorem all_nil {P : DI → Prop} : ∀ i ∈ ([] : List DI), P i := fun _ h => nomatch h
theorem all_cons {P : DI → Prop} {d : DI} {ds : List DI} (h : P d) (t : ∀ i ∈ ds, P i) : ∀ i ∈ d :: ds, P i := fun i hi => by
  rcases List.mem_cons.mp hi with rfl | hi
  · exact h
  · exact t i hi
theorem lookup_all {P : Str → Int → Prop} : ∀ {l : List (Str × Int)}, (∀ p ∈ l, P p.1 p.2) → ∀ x i, l.lookup x = some i → P x i
  | [], _, _, _, h => by simp at h
  | (y, j) :: l, hp, x, i, h => by
    simp only [List.lookup_cons] at h
    split at h
    · rename_i e
      cases h
      have := hp (y, j) (by simp)
      rwa [show x = y by simpa using e]
    · exact lookup_all (fun q hq => hp q (by simp [hq])) x i h
def ownL (ds : List DI) : List (Str × String) := ds.map fun i => (Str.ofString i.key, i.key)
theorem own_of : ∀ {ds : List DI} {x : Str} {F : String}, (ownL ds).lookup x = some F → ∃ i ∈ ds, i.key = F ∧ x = Str.ofString F
  | [], _, _, h => by simp [ownL] at h
  | d :: ds, x, F, h => by
    simp only [ownL, List.map_cons, List.lookup_cons] at h
    split at h
    · rename_i e
      cases h
      exact ⟨d, by simp, rfl, by simpa using e⟩
    · obtain ⟨i, hi, a, b⟩ := own_of (ds := ds) h
      exact ⟨i, by simp [hi], a, b⟩
theorem def_mk {K : PySem.W.Frag} {mg : Str → Option Value} {h : Heap} {key : String} {qual : Str} {st : Stmt} {N ps : List Str} {f : Addr} {oc : Value} {od an : Option Addr} {osl : Array (Option Value)} {kV doc pm cdv ct : Value} (X : K.In h) (G : h.Ns mainGlobals mg)
    (S : FnScope N ps (defScope st)) (hb : ∀ (kV doc pm : Value) (an : Option Addr) (cdv ct : Value) (us : List Value), us.length = ps.length → bindArgs (PySem.W.fnOf (Str.ofString key) qual (defArgs st) (defBody st) (defScope st) .none kV doc pm an cdv ct) ⟨us, []⟩ = pure (ps.zip us))
    (a : PySem.W.nsIn K mainGlobals (Str.ofString key) = some (some (.ref f))) (l : K.lookup f = some ⟨oc, od, .func (PySem.W.fnOf (Str.ofString key) qual (defArgs st) (defBody st) (defScope st) .none kV doc pm an cdv ct), osl⟩)
    (c : PySem.W.codeIn K cdv qual = true) (k : PySem.W.keepIn K (.ref f) = true) :
    ∃ f fd, DefAt K mg ⟨key, qual, st, N, ps⟩ f fd := by
  have F := fun_mk (st := st) l c k
  exact ⟨f, _, F, S, PySem.W.mg_of X G a, F.binds hb, fun s us hl => .of_eq (hb kV doc pm an cdv ct us hl)⟩
theorem walkG {l : PySem.W.OpenLaw} {n k : Nat} {q : Program} {loose : List Str} {XP : (Str → Option Value) → Heap → Prop} {YP : World → Heap → Prop} {d : DefRec} {K : Params → PySem.W.Frag} {x : Str} {FT : FTab} {F : String} {cm : Str → Option Addr}
    (hn : l.most = some n) (hn2 : n ≤ sizeLine) (hdf : d.params.defaults = []) (hr : Room k callerA) (hY : ∀ (w : World) (h : Heap), YP w h → (K w.params).In h)
    (D : ∀ (w : World) (mg : Str → Option Value) (fa : Addr) (h : Heap), (K w.params).In h → h.Ns mainGlobals mg → mg d.name = some (.ref fa) →
      ∃ fd : FuncData, (∀ (s : Shared) (u : Value), BindsTo s fd ⟨[u], []⟩ [(x, u)]) ∧ ∀ base : Heap, FnG l.prog w (K w.params) mg base (L2.CX l.prog w) k fa fd [x] (spA ⟨K w.params, cm⟩ FT k F))
    (run : ∀ ns : List Int, ns.length ≤ n → runF FT k F [.scr (ns.map A.int)] (fun _ => none) (fun v _ => v = .bl true) (fun _ _ => False)) : PySem.W.WalkO q loose XP YP l.row.toRowW d [] (fun f vs => PySem.call f vs) := by
  refine Att.attach_call hn hdf fun w s₀ s₁ mg mb fa o pm cd doc a vs ns G Y ho hd hcd hmg hobj hints hlen hg => ?_
  have KX := hY w _ Y
  obtain ⟨fd, hb, hF⟩ := D w mg fa _ KX G.T.g hmg
  exact law_run (T := ⟨K w.params, cm⟩) KX G.T.g G.T.b G.T.builtins G.T.nolimit hg hobj hints (Nat.le_trans hlen hn2) hr rfl hF hb (run ns hlen)
end Q
/-! L1: how the combinators compute; the bag and what is drawn from it. -/
namespace Q
open PySem PySem.Spec PyProof.Rows L2
section
variable {G G1 G' : Gp} {a b p : Addr} {o o' : O}
theorem rm_up : rm b (up G b o) = rm b G := by
  funext a
  by_cases h : a = b
  · subst h; rw [rm_self, rm_self]
  · rw [rm_ne h, rm_ne h, up_ne h]
theorem up_up : up (up G b o) b o' = up G b o' := by
  funext a
  by_cases h : a = b
  · subst h; rw [up_same, up_same]
  · rw [up_ne h, up_ne h, up_ne h]
theorem rm_new (h : G p = none) : rm p (up G p o) = G := by
  funext a
  by_cases e : a = p
  · subst e; rw [rm_self, h]
  · rw [rm_ne e, up_ne e]
theorem up_comm {c : Addr} (h : b ≠ c) : up (up G b o) c o' = up (up G c o') b o := by
  funext a
  by_cases e : a = b
  · subst e; rw [up_ne h, up_same, up_same]
  · by_cases e2 : a = c
    · subst e2; rw [up_same, up_ne e, up_same]
    · rw [up_ne e2, up_ne e, up_ne e, up_ne e2]
theorem keep (r : rm b G' = rm b G) (n : a ≠ b) : G' a = G a := by
  have z := congrFun r a
  rwa [rm_ne n, rm_ne n] at z
theorem ne_fresh (e : G a = some o) (h : G p = none) : a ≠ p := fun z => by subst z; rw [e] at h; cases h
end
section
variable {G : Gp} {Q : KA} {a : A} {i j : Int}
theorem eqInt {neg : Bool} : eqA neg (.int i) (.int j) G Q = Q (.bl (if neg then !(i == j) else i == j)) G := by
  unfold eqA
  refine propext ⟨?_, fun h => .inl ⟨_, _, .int, .int, rfl, rfl, by simpa only [PyData.eqv] using h⟩⟩
  rintro (⟨d, e, h1, h2, _, _, q⟩ | ⟨xs, _, h, _⟩ | ⟨_, h, _⟩ | ⟨_, _, h, _⟩)
  · cases h1; cases h2; simpa only [PyData.eqv] using q
  · cases h
  · cases h
  · cases h
theorem eqStr {neg : Bool} {x y : Str} : eqA neg (.str x) (.str y) G Q = Q (.bl (if neg then !(x == y) else x == y)) G := by
  unfold eqA
  refine propext ⟨?_, fun h => .inr (.inr (.inr ⟨_, _, rfl, rfl, by simpa only [bne] using h⟩))⟩
  rintro (⟨d, e, h1, h2, _, _, q⟩ | ⟨xs, _, h, _⟩ | ⟨_, h, _⟩ | ⟨_, _, h1, h2, q⟩)
  · cases h1; cases h2; simpa only [PyData.eqv] using q
  · cases h
  · cases h
  · cases h1; cases h2; simpa only [bne] using q
def atK (xs : List A) (i : Int) (G : Gp) (Q : KA) : Prop := match atI xs i with
  | some x => Q x G
  | none => False
theorem at_k {xs : List A} (h : ∃ ys x, some xs = some ys ∧ atI ys i = some x ∧ Q x G) : atK xs i G Q := by
  obtain ⟨ys, x, e, h, q⟩ := h
  cases e
  unfold atK; rw [h]; exact q
theorem k_at {xs : List A} (h : atK xs i G Q) : ∃ ys x, some xs = some ys ∧ atI ys i = some x ∧ Q x G := by
  unfold atK at h
  split at h
  · rename_i x e; exact ⟨xs, x, rfl, e, h⟩
  · exact h.elim
theorem ixFro {xs : List A} : ixD (.fro xs) (.int i) G Q = atK xs i G Q := propext ⟨at_k, k_at⟩
theorem ixTup {xs : List A} : ixD (.tup xs) (.int i) G Q = atK xs i G Q := propext ⟨at_k, k_at⟩
theorem ixRef {b : Addr} {xs : List A} (h : G b = some (.lst xs)) : ixD (.ref b) (.int i) G Q = atK xs i G Q := by
  refine propext ⟨fun z => at_k ?_, fun z => ?_⟩
  · simpa only [ixD, dctOf, ixA, seqOf, lstOf, h] using z
  · simpa only [ixD, dctOf, ixA, seqOf, lstOf, h] using k_at z
theorem len_fro {xs : List A} : lenD [.fro xs] G Q = Q (.int xs.length) G := propext ⟨fun ⟨ys, e, q⟩ => by cases e; exact q, fun q => ⟨xs, rfl, q⟩⟩
theorem len_tup {xs : List A} : lenD [.tup xs] G Q = Q (.int xs.length) G := propext ⟨fun ⟨ys, e, q⟩ => by cases e; exact q, fun q => ⟨xs, rfl, q⟩⟩
theorem len_ref {b : Addr} {xs : List A} (h : G b = some (.lst xs)) : lenD [.ref b] G Q = Q (.int xs.length) G := by
  simp only [lenD, dctOf, lenA, seqOf, lstOf, h]
  exact propext ⟨fun ⟨ys, e, q⟩ => by cases e; exact q, fun q => ⟨xs, rfl, q⟩⟩
theorem add_fro {m : Bool} {xs ys : List A} : addA m (.fro xs) (.fro ys) G Q = (xs.length + ys.length ≤ sizeLine ∧ new m (.lst (xs ++ ys)) G Q) :=
  propext ⟨fun ⟨_, _, e1, e2, q⟩ => by cases e1; cases e2; exact q, fun q => ⟨xs, ys, rfl, rfl, q⟩⟩
theorem sl_fro {m : Bool} {xs : List A} {lo hi : Option Int} : slA m (.fro xs) lo hi G Q = new m (.lst (cutA xs lo hi)) G Q :=
  propext ⟨fun ⟨_, e1, q⟩ => by cases e1; exact q, fun q => ⟨xs, rfl, q⟩⟩
theorem mul_fro {m : Bool} {xs : List A} {j : Int} : mulA m (.fro xs) (.int j) G Q = (-(2 ^ 63) ≤ j ∧ j < 2 ^ 63 ∧ xs.length * j.toNat ≤ sizeLine ∧ new m (.lst (List.replicate j.toNat xs).flatten) G Q) :=
  propext ⟨fun ⟨_, e1, q⟩ => by cases e1; exact q, fun q => ⟨xs, rfl, q⟩⟩
theorem tupleA_fro {xs : List A} : tupleA [.fro xs] G Q = Q (.tup xs) G :=
  propext ⟨fun ⟨_, _, e, e1, q⟩ => by cases e; cases e1; exact q, fun q => ⟨_, xs, rfl, rfl, q⟩⟩
theorem tupleA_tup {xs : List A} : tupleA [.tup xs] G Q = Q (.tup xs) G :=
  propext ⟨fun ⟨_, _, e, e1, q⟩ => by cases e; cases e1; exact q, fun q => ⟨_, xs, rfl, rfl, q⟩⟩
theorem listA_tup {m : Bool} {xs : List A} : listA m [.tup xs] G Q = new m (.lst xs) G Q :=
  propext ⟨fun ⟨_, _, e, e1, q⟩ => by cases e; cases e1; exact q, fun q => ⟨_, xs, rfl, rfl, q⟩⟩
theorem listA_fro {m : Bool} {xs : List A} : listA m [.fro xs] G Q = new m (.lst xs) G Q :=
  propext ⟨fun ⟨_, _, e, e1, q⟩ => by cases e; cases e1; exact q, fun q => ⟨_, xs, rfl, rfl, q⟩⟩
theorem new_f {o : O} : new false o G Q = Q (frz o) G := rfl
theorem new_t {o : O} : new true o G Q = ∀ p, G p = none → Q (.ref p) (up G p o) := rfl
theorem frz_l {xs : List A} : frz (.lst xs) = .fro xs := rfl
/-- storing at a place -/
theorem gset {b : Addr} {v : A} {ς : En} {xs : List A} {Q : En → Gp → Prop} (h : G b = some (.lst xs)) (q : ∃ j, L2.ixN xs.length i = some j ∧ Q ς (up G b (.lst (xs.set j v)))) :
    ∃ p, A.ref b = .ref p ∧ ((∃ xs k j, A.int i = .int k ∧ G p = some (.lst xs) ∧ L2.ixN xs.length k = some j ∧ Q ς (up G p (.lst (xs.set j v)))) ∨
      ∃ kvs, G p = some (.dct kvs) ∧ keyOk (.int i) kvs = true ∧ kvs.length < sizeLine ∧ Q ς (up G p (.dct (putA kvs (.int i) v)))) := by
  obtain ⟨j, e, q⟩ := q
  exact ⟨b, rfl, .inl ⟨xs, i, j, rfl, h, e, q⟩⟩
theorem at0 {α : Type} {x : α} {xs : List α} : L2.atI (x :: xs) 0 = some x := by
  unfold L2.atI L2.ixN
  rw [if_pos (by omega), if_pos (by simp only [List.length_cons]; omega)]; rfl
theorem at1 {α : Type} {x y : α} {xs : List α} : L2.atI (x :: y :: xs) 1 = some y := by
  unfold L2.atI L2.ixN
  rw [if_pos (by omega), if_pos (by simp only [List.length_cons]; omega)]; rfl
theorem at2 {α : Type} {x y z : α} {xs : List α} : L2.atI (x :: y :: z :: xs) 2 = some z := by
  unfold L2.atI L2.ixN
  rw [if_pos (by omega), if_pos (by simp only [List.length_cons]; omega)]; rfl
theorem at3 {α : Type} {x y z w : α} {xs : List α} : L2.atI (x :: y :: z :: w :: xs) 3 = some w := by
  unfold L2.atI L2.ixN
  rw [if_pos (by omega), if_pos (by simp only [List.length_cons]; omega)]; rfl
theorem atI_nat {α : Type} {xs : List α} {i : Nat} (h : i < xs.length) : L2.atI xs (i : Int) = some xs[i] := by
  unfold L2.atI L2.ixN
  rw [if_pos (by omega), if_pos (by omega)]
  simp [h]
theorem atI_mem {α : Type} {xs : List α} {i : Int} (h0 : 0 ≤ i) (h1 : i < xs.length) : ∃ x ∈ xs, L2.atI xs i = some x := by
  obtain ⟨k, rfl⟩ : ∃ k : Nat, i = k := ⟨i.toNat, by omega⟩
  exact ⟨_, List.getElem_mem _, atI_nat (by omega)⟩
/-- an item, whichever it is -/
theorem at_any {xs : List A} (h0 : 0 ≤ i) (h1 : i < xs.length) (q : ∀ x ∈ xs, Q x G) : atK xs i G Q := by
  obtain ⟨x, m, e⟩ := atI_mem h0 h1
  unfold atK; rw [e]; exact q x m
theorem ix_any {xs : List A} (h0 : 0 ≤ i) (h1 : i < xs.length) (q : ∀ x ∈ xs, Q x G) : ixD (.fro xs) (.int i) G Q := by rw [ixFro]; exact at_any h0 h1 q
theorem seq_i {t u : SA} {D : Fl} {ς : En} (h : ∀ R : En → Gp → Prop, (∀ ς G, u D ς G → R ς G) → t { D with nx := R } ς G) : sSeq t u D ς G := h _ fun _ _ h => .done h
/-- with leave to take places for unchanged from here on -/
theorem seq_f {t u : SA} {D : Fl} {ς : En} (h : ∀ R : En → Gp → Prop, (∀ ς G, Fz (u D) ς G → R ς G) → t { D with nx := R } ς G) : sSeq t u D ς G := h _ fun _ _ h => h
end
/-! ### the bag -/
def tk_bag (c : Cal) : SA := (sSeq (sRet (eLst true (lCons (eC (.int 0)) (lCons (eC (.int 1234567891)) (lCons (eC (.int 0)) (lCons (eLc false (iSeq (eSl false (eVar 0) oNo (oSome (eC (.int 63))))) (gNm 1) bYes (eBi absA (lCons (eVar 1) lNil)) [1]) lNil))))))
  sNx)
def tk_take (c : Cal) : SA := (sSeq (sIf (bB (eBin (eqA false) (eBin ixD (eVar 0) (eC (.int 0))) (eC (.int 0)))) (sSeq (sSet (eC (.int 0)) (gNm 2))
  (sSeq (sIf (bB (eBin ltA (eBin ixD (eVar 0) (eC (.int 2))) (eBi lenD (lCons (eBin ixD (eVar 0) (eC (.int 3))) lNil)))) (sSeq (sSet (eBin ixD (eBin ixD (eVar 0) (eC (.int 3))) (eBin ixD (eVar 0) (eC (.int 2)))) (gNm 2))
  sNx) sNx)
  (sSeq (sAug (eVar 0) (eC (.int 2)) (eC (.int 1)))
  (sSeq (sIf (bB (eBin geA (eVar 2) (eC (.int 1000000000000000000)))) (sSeq (sSet (eVar 2) (gSubD (eVar 0) (eC (.int 0))))
  sNx) sNx)
  (sSeq (sSet (eBin (addA false) (eBin modA (eBi intOfA (lCons (eVar 2) lNil)) (eC (.int 2147483647))) (eBin (mulA false) (eC (.int 7919)) (eBin ixD (eVar 0) (eC (.int 2))))) (gNm 3))
  (sSeq (sSet (eBin modA (eBi intOfA (lCons (eBin (addA false) (eBin (mulA false) (eBin ixD (eVar 0) (eC (.int 1))) (eC (.int 48271))) (eVar 3)) lNil)) (eC (.int 2147483647))) (gSubD (eVar 0) (eC (.int 1))))
  sNx)))))) sNx)
  (sSeq (sIf (bB (eBin gtA (eBin ixD (eVar 0) (eC (.int 0))) (eC (.int 0)))) (sSeq (sSet (eBin modA (eBi intOfA (lCons (eBin ixD (eVar 0) (eC (.int 0))) lNil)) (eVar 1)) (gNm 4))
  (sSeq (sSet (eBin fdivA (eBin ixD (eVar 0) (eC (.int 0))) (eVar 1)) (gSubD (eVar 0) (eC (.int 0))))
  (sSeq (sRet (eVar 4))
  sNx))) sNx)
  (sSeq (sSet (eBin modA (eBi intOfA (lCons (eBin (mulA false) (eBin (addA false) (eBin ixD (eVar 0) (eC (.int 1))) (eC (.int 1))) (eC (.int 39373))) lNil)) (eC (.int 1000000007))) (gNm 5))
  (sSeq (sSet (eBin modA (eBi intOfA (lCons (eBin (mulA false) (eBin modA (eBi intOfA (lCons (eBin (mulA false) (eVar 5) (eVar 5)) lNil)) (eC (.int 998244353))) (eC (.int 30011))) lNil)) (eC (.int 998244353))) (gNm 6))
  (sSeq (sIf (bB (eBin gtA (eVar 1) (eC (.int 1000000)))) (sSeq (sRet (eBin modA (eBi intOfA (lCons (eBin (addA false) (eBin (mulA false) (eVar 6) (eC (.int 1000000007))) (eVar 5)) lNil)) (eVar 1)))
  sNx) sNx)
  (sSeq (sRet (eBin modA (eBi intOfA (lCons (eBin fdivA (eVar 6) (eC (.int 7))) lNil)) (eVar 1)))
  sNx))))))
/-- the bag at b, P takes or fewer so far -/
def Bag (b : Addr) (P : Int) (G : Gp) : Prop := ∃ (w s p : Int) (cells : List Int), G b = some (.lst [.int w, .int s, .int p, .fro (cells.map A.int)]) ∧ 0 ≤ w ∧ 0 ≤ s ∧ s < 2147483647 ∧ 0 ≤ p ∧ p ≤ P
section
variable {G G' : Gp} {b p a : Addr} {P : Int} {o : O}
theorem Bag.more {P' : Int} (h : Bag b P G) (l : P ≤ P') : Bag b P' G := by
  obtain ⟨w, s, q, cells, h1, h4, h5, h6, h7, h8⟩ := h
  exact ⟨w, s, q, cells, h1, h4, h5, h6, h7, by omega⟩
theorem Bag.at (h : Bag b P G) : G b ≠ none := by
  obtain ⟨w, s', q, cells, h1, h4, h5, h6, h7, h8⟩ := h
  rw [h1]; simp
theorem Bag.ne (h : Bag b P G) (hp : G p = none) : p ≠ b := fun z => by subst z; exact h.at hp
theorem Bag.same (h : Bag b P G) (e : G' b = G b) : Bag b P G' := by
  obtain ⟨w, s', q, cells, h1, h4, h5, h6, h7, h8⟩ := h
  exact ⟨w, s', q, cells, e.trans h1, h4, h5, h6, h7, h8⟩
theorem Bag.new (h : Bag b P G) (hp : p ≠ b) : Bag b P (up G p o) := h.same (up_ne (Ne.symm hp))
end
theorem small_mul {i j : Int} (h1 : i.natAbs < 2 ^ 64) (h2 : j.natAbs < 2 ^ 64) : CMulW i j := by
  have f : ∀ n : Nat, n < 2 ^ 64 → n.log2 < 64 := fun n h => by
    by_cases z : n = 0
    · subst z; decide
    · exact (Nat.log2_lt z).mpr h
  have := f _ h1
  have := f _ h2
  unfold CMulW; omega
theorem take_ok {FT : FTab} {n : Nat} {b : Addr} {P many : Int} {G : Gp} {Q : KA} {X : KX} (hF : FT (Str.ofString "_law_take") = some ⟨2, 7, tk_take⟩) (B : Bag b P G) (hP : P ≤ 2 ^ 60) (h0 : 0 < many) (h1 : many.natAbs < 2 ^ 64)
    (q : ∀ d G', 0 ≤ d → d < many → Bag b (P + 1) G' → rm b G' = rm b G → Q (.int d) G') : runF FT (n + 1) "_law_take" [.ref b, .int many] G Q X := by
  obtain ⟨w, s, p, cells, hb, w0, s0, s1, p0, p1⟩ := B
  refine ⟨_, hF, rfl, ?_⟩
  show tk_take (runF FT n) _ [some (.ref b), some (.int many), none, none, none, none, none] G
  unfold tk_take
  refine seq_i fun R hR => ?_
  have tail : ∀ (x y : Option A) (w s p : Int) (G' : Gp), G' b = some (.lst [.int w, .int s, .int p, .fro (cells.map A.int)]) → rm b G' = rm b G → 0 ≤ w → 0 ≤ s → s < 2147483647 → 0 ≤ p → p ≤ P + 1 →
      R [some (.ref b), some (.int many), x, y, none, none, none] G' := by
    intro x y w s p G' hb hr w0 s0 s1 p0 p1
    refine hR _ _ ?_
    refine seq_i fun R2 h2 => ?_
    have bag : ∀ (w' : Int) (G2 : Gp), 0 ≤ w' → G2 b = some (.lst [.int w', .int s, .int p, .fro (cells.map A.int)]) → Bag b (P + 1) G2 := fun w' G2 hw e => ⟨w', s, p, cells, e, hw, s0, s1, p0, p1⟩
    have rest : R2 [some (.ref b), some (.int many), x, y, none, none, none] G' := by
      refine h2 _ _ ?_
      refine seq_i fun R3 h3 => ?_
      simp only [sSet, gNm, eBi, lCons, lNil, bB, eBin, eVar, eC, List.getElem?_cons_zero, List.getElem?_cons_succ, List.set_cons_zero, List.set_cons_succ, ixRef hb, atK, at0, at1, at2, at3, intOfA, addA, mulA, modA, intA]
      refine ⟨small_mul (by omega) (by decide), by decide, h3 _ _ ?_⟩
      refine seq_i fun R4 h4 => ?_
      generalize hf : (s + 1) * 39373 % 1000000007 = f
      have f0 : 0 ≤ f := by rw [← hf]; exact Int.emod_nonneg _ (by decide)
      have f1 : f < 1000000007 := by rw [← hf]; exact Int.emod_lt_of_pos _ (by decide)
      simp only [sSet, gNm, eBi, lCons, lNil, bB, eBin, eVar, eC, List.getElem?_cons_zero, List.getElem?_cons_succ, List.set_cons_zero, List.set_cons_succ, intOfA, addA, mulA, modA, intA]
      have g0 : 0 ≤ f * f % 998244353 := Int.emod_nonneg _ (by decide)
      have g1 : f * f % 998244353 < 998244353 := Int.emod_lt_of_pos _ (by decide)
      refine ⟨small_mul (by omega) (by omega), by decide, small_mul (by omega) (by decide), by decide, h4 _ _ ?_⟩
      generalize hg : f * f % 998244353 * 30011 % 998244353 = g
      have k0 : 0 ≤ g := by rw [← hg]; exact Int.emod_nonneg _ (by decide)
      have k1 : g < 998244353 := by rw [← hg]; exact Int.emod_lt_of_pos _ (by decide)
      refine seq_i fun R5 h5 => ?_
      simp only [sIf, sNx, eBi, lCons, lNil, bB, eBin, eVar, eC, gtA, List.getElem?_cons_zero, List.getElem?_cons_succ, intOfA, addA, mulA, modA, intA, decide_eq_true_eq]
      have fin : ∀ z : Int, Q (.int (z % many)) G' := fun z => q _ _ (Int.emod_nonneg _ (by omega)) (Int.emod_lt_of_pos _ h0) (bag w G' w0 hb) hr
      by_cases hm : 1000000 < many
      · rw [if_pos hm]
        refine seq_i fun R6 _ => ?_
        simp only [sRet, eBi, lCons, lNil, eBin, eVar, eC, List.getElem?_cons_zero, List.getElem?_cons_succ, intOfA, addA, mulA, modA, intA]
        exact ⟨small_mul (by omega) (by decide), h0, fin _⟩
      · rw [if_neg hm]
        refine h5 _ _ ?_
        refine seq_i fun R6 _ => ?_
        simp only [sRet, eBi, lCons, lNil, eBin, eVar, eC, List.getElem?_cons_zero, List.getElem?_cons_succ, intOfA, modA, fdivA, intA]
        exact ⟨⟨by decide, by decide⟩, h0, fin _⟩
    simp only [sIf, sNx, eBi, lCons, lNil, bB, eBin, eVar, eC, gtA, List.getElem?_cons_zero, List.getElem?_cons_succ, ixRef hb, atK, at0, intOfA, fdivA, modA, intA, decide_eq_true_eq]
    by_cases hw : 0 < w
    · rw [if_pos hw]
      refine seq_i fun R6 h6 => ?_
      simp only [sSet, gNm, eBi, lCons, lNil, eBin, eVar, eC, List.getElem?_cons_zero, List.getElem?_cons_succ, List.set_cons_zero, List.set_cons_succ, ixRef hb, atK, at0, intOfA, modA, intA]
      refine ⟨h0, h6 _ _ ?_⟩
      refine seq_i fun R7 h7 => ?_
      simp only [sSet, gSubD, eBin, eVar, eC, List.getElem?_cons_zero, List.getElem?_cons_succ, ixRef hb, atK, at0, fdivA, intA]
      refine ⟨⟨h0, ?_⟩, ?_⟩
      · by_cases z : many.natAbs = 0
        · rw [z]; decide
        · have := (Nat.log2_lt z).mpr h1; omega
      · refine gset hb ⟨0, rfl, h7 _ _ ?_⟩
        refine seq_i fun R8 _ => ?_
        simp only [sRet, eVar, List.getElem?_cons_zero, List.getElem?_cons_succ, List.set_cons_zero]
        refine q _ _ (Int.emod_nonneg _ (by omega)) (Int.emod_lt_of_pos _ h0) (bag (w / many) _ (Int.ediv_nonneg w0 (by omega)) up_same) (rm_up.trans hr)
    · rw [if_neg hw]; exact rest
  simp only [sIf, sNx, bB, eBin, eVar, eC, List.getElem?_cons_zero, List.getElem?_cons_succ, ixRef hb, atK, at0, eqInt, Bool.false_eq_true, if_false]
  by_cases hw : (w == 0) = true
  · rw [if_pos hw]
    refine seq_i fun R2 h2 => ?_
    simp only [sSet, gNm, eC, List.set_cons_zero, List.set_cons_succ]
    refine h2 _ _ ?_
    refine seq_i fun R3 h3 => ?_
    have go : ∀ z : Int, R3 [some (.ref b), some (.int many), some (.int z), none, none, none, none] G := by
      intro z
      refine h3 _ _ ?_
      refine seq_i fun R4 h4 => ?_
      simp only [sAug, eVar, eC, List.getElem?_cons_zero]
      refine ⟨b, _, 2, p, rfl, rfl, hb, by decide, rfl, 1, _, rfl, hb, (by show 2 < 4; decide), h4 _ _ ?_⟩
      refine seq_i fun R5 h5 => ?_
      have go2 : ∀ w' G2, 0 ≤ w' → G2 b = some (.lst [.int w', .int s, .int (p + 1), .fro (cells.map A.int)]) → rm b G2 = rm b G → R5 [some (.ref b), some (.int many), some (.int z), none, none, none, none] G2 := by
        intro w' G2 hw' e2 r2
        refine h5 _ _ ?_
        refine seq_i fun R6 h6 => ?_
        simp only [sSet, gNm, eBi, lCons, lNil, eBin, eVar, eC, List.getElem?_cons_zero, List.getElem?_cons_succ, List.set_cons_zero, List.set_cons_succ, ixRef e2, atK, at0, at1, at2, at3, intOfA, addA, mulA, modA, intA]
        refine ⟨by decide, small_mul (by decide) (by omega), h6 _ _ ?_⟩
        refine seq_i fun R7 h7 => ?_
        have m0 : 0 ≤ z % 2147483647 := Int.emod_nonneg _ (by decide)
        simp only [sSet, gNm, gSubD, eBi, lCons, lNil, eBin, eVar, eC, List.getElem?_cons_zero, List.getElem?_cons_succ, List.set_cons_zero, List.set_cons_succ, ixRef e2, atK, at0, at1, at2, at3, intOfA, addA, mulA, modA, intA]
        refine ⟨small_mul (by omega) (by decide), by decide, gset e2 ⟨1, rfl, ?_⟩⟩
        simp only [List.set_cons_zero, List.set_cons_succ]
        refine h7 _ _ ?_
        simp only [sNx]
        exact tail _ _ w' _ (p + 1) _ up_same (rm_up.trans r2) hw' (Int.emod_nonneg _ (by decide)) (Int.emod_lt_of_pos _ (by decide)) (by omega) (by omega)
      simp only [sIf, sNx, bB, eBin, eVar, eC, geA, List.getElem?_cons_zero, List.getElem?_cons_succ, decide_eq_true_eq]
      by_cases hz : 1000000000000000000 ≤ z
      · rw [if_pos hz]
        refine seq_i fun R6 h6 => ?_
        simp only [sSet, gSubD, eVar, eC, List.getElem?_cons_zero, List.getElem?_cons_succ]
        refine gset (xs := [A.int w, .int s, .int (p + 1), .fro (cells.map A.int)]) up_same ⟨0, rfl, h6 _ _ ?_⟩
        simp only [up_up, sNx]
        exact go2 z _ (by omega) up_same rm_up
      · rw [if_neg hz]
        exact go2 w _ w0 up_same rm_up
    simp only [sIf, sNx, eBi, lCons, lNil, bB, eBin, eVar, eC, List.getElem?_cons_zero, List.getElem?_cons_succ, ixRef hb, atK, at0, at2, at3, ltA, len_fro, List.length_map, decide_eq_true_eq]
    by_cases hl : p < cells.length
    · rw [if_pos hl]
      refine seq_i fun R4 h4 => ?_
      have e : L2.atI (cells.map A.int) p = some (.int (cells[p.toNat]'(by omega))) := by
        obtain ⟨i, rfl⟩ : ∃ i : Nat, p = i := ⟨p.toNat, by omega⟩
        rw [atI_nat (by simp; omega)]
        simp
      simp only [sSet, gNm, eBin, eVar, eC, List.getElem?_cons_zero, List.getElem?_cons_succ, List.set_cons_zero, List.set_cons_succ, ixRef hb, ixFro, atK, at2, at3, e]
      refine h4 _ _ ?_
      simp only [sNx]
      exact go _
    · rw [if_neg hl]
      exact go _
  · rw [if_neg hw]
    exact tail _ _ w s p G hb rfl w0 s0 s1 p0 (by omega)
end Q
/-! P3: texts: of which signs, how long. -/
namespace Q
open PySem PySem.Spec PyProof.Rows L2
/-- a text of signs with q, L or fewer -/
def Cs (q : Nat → Prop) (L : Nat) (z : Str) : Prop := z.length ≤ L ∧ ∀ c ∈ z.cps.toList, q c
section
variable {q : Nat → Prop} {L M : Nat} {x y : Str}
theorem lenStr (z : Str) : z.length = z.cps.toList.length := rfl
theorem Cs.more (h : Cs q L x) (l : L ≤ M) : Cs q M x := ⟨Nat.le_trans h.1 l, h.2⟩
theorem Cs.imp {r : Nat → Prop} (h : Cs q L x) (k : ∀ c, q c → r c) : Cs r L x := ⟨h.1, fun c m => k c (h.2 c m)⟩
theorem app_list (x y : Str) : (x ++ y).cps.toList = x.cps.toList ++ y.cps.toList := by
  show (x.cps ++ y.cps).toList = _
  simp
theorem len_app (x y : Str) : (x ++ y).length = x.length + y.length := by
  rw [lenStr, lenStr, lenStr, app_list, List.length_append]
theorem Cs.app (h : Cs q L x) (k : Cs q M y) : Cs q (L + M) (x ++ y) := by
  refine ⟨by rw [len_app]; exact Nat.add_le_add h.1 k.1, fun c m => ?_⟩
  rw [app_list] at m
  rcases List.mem_append.mp m with m | m
  · exact h.2 c m
  · exact k.2 c m
theorem Cs.cut {lo hi : Option Int} (h : Cs q L x) : Cs q L (cutS x lo hi) := by
  unfold cutS
  refine ⟨?_, fun c m => h.2 c (List.mem_of_mem_drop (List.mem_of_mem_take m))⟩
  have := h.1
  rw [lenStr] at this ⊢
  simp only [List.length_take, List.length_drop]
  omega
theorem Cs.one {c : Nat} (h : q c) : Cs q 1 ⟨#[c]⟩ := ⟨Nat.le_refl _, fun d m => by simp at m; subst m; exact h⟩
theorem Cs.nil : Cs q 0 Str.empty := ⟨Nat.le_refl _, fun c m => by simp [Str.empty] at m⟩
theorem rep_list (a : Array Nat) : ∀ (n : Nat) (acc : Array Nat), ((List.replicate n a).foldl (· ++ ·) acc).toList = acc.toList ++ (List.replicate n a.toList).flatten
  | 0, acc => by simp
  | n + 1, acc => by
    rw [List.replicate_succ, List.foldl_cons, rep_list a n, List.replicate_succ, List.flatten_cons]
    simp
theorem Cs.mul {n : Nat} {k : Int} (h : Cs q L x) (hk : k ≤ n) : Cs q (n * L) (Txt.mul x k) := by
  unfold Txt.mul
  split
  · exact Cs.nil.more (Nat.zero_le _)
  · rename_i h1
    have hn : 1 ≤ n := by omega
    split
    · exact h.more (by calc L = 1 * L := (Nat.one_mul _).symm
                           _ ≤ n * L := Nat.mul_le_mul_right _ hn)
    · have e := rep_list x.cps k.toNat #[]
      refine ⟨?_, fun c m => ?_⟩
      · rw [lenStr, e]
        simp only [List.nil_append, List.length_flatten, List.map_replicate, List.sum_replicate_nat]
        exact Nat.mul_le_mul (by omega) h.1
      · rw [e] at m
        simp only [List.nil_append, List.mem_flatten, List.mem_replicate] at m
        obtain ⟨l, ⟨_, rfl⟩, m⟩ := m
        exact h.2 c m
theorem MulOk.small {k : Int} (h : x.length ≤ 1000) (h1 : k ≤ 1000) (h0 : -1000 ≤ k) : MulOk x k := by
  have e : (2 : Int) ^ 63 = 9223372036854775808 := by decide
  refine ⟨?_, fun a _ => ?_, fun a _ => ?_⟩
  · simp; omega
  · have hp : 0 < k := by omega
    have : (2 ^ 63 - 1) / 1000 ≤ (2 ^ 63 - 1 : Int) / k := by
      apply Int.le_ediv_of_mul_le hp
      have : ((2 ^ 63 - 1 : Int) / 1000) * k ≤ ((2 ^ 63 - 1) / 1000) * 1000 := Int.mul_le_mul_of_nonneg_left h1 (by decide)
      refine Int.le_trans this (by decide)
    have e2 : (2 ^ 63 - 1 : Int) / 1000 = 9223372036854775 := by decide
    omega
  · have : x.length * k.toNat ≤ 1000 * 1000 := Nat.mul_le_mul h (by omega)
    unfold PySem.Builtin.Str.tooLong sizeLine
    simp; omega
theorem glue_list : ∀ (ps : List Str) (acc : Array Nat), (ps.foldl (fun acc p => acc ++ (#[] : Array Nat) ++ p.cps) acc).toList = acc.toList ++ (ps.map (·.cps.toList)).flatten
  | [], acc => by simp
  | p :: ps, acc => by
    rw [List.foldl_cons, glue_list ps, List.map_cons, List.flatten_cons]
    simp
theorem join_list (ys : List Str) : (Txt.join (Str.ofString "") ys).cps.toList = (ys.map (·.cps.toList)).flatten := by
  show ((ys.drop 1).foldl (fun acc p => acc ++ (#[] : Array Nat) ++ p.cps) (ys.headD Str.empty).cps).toList = _
  cases ys with
  | nil => rfl
  | cons y ys => rw [glue_list]; rfl
theorem Cs.join {ys : List Str} (h : ∀ y ∈ ys, Cs q 1 y) : Cs q ys.length (Txt.join (Str.ofString "") ys) := by
  refine ⟨?_, fun c m => ?_⟩
  · rw [lenStr, join_list]
    induction ys with
    | nil => exact Nat.le_refl _
    | cons y ys ih =>
      have h1 := (h y (by simp)).1
      have h2 := ih fun z m => h z (by simp [m])
      rw [lenStr] at h1
      simp only [List.map_cons, List.flatten_cons, List.length_append, List.length_cons]
      omega
  · rw [join_list] at m
    simp only [List.mem_flatten, List.mem_map] at m
    obtain ⟨l, ⟨y, hy, rfl⟩, m⟩ := m
    exact (h y hy).2 c m
theorem Cs.lens {ys : List Str} (h : ∀ y ∈ ys, Cs q L y) : (ys.map (·.length)).sum ≤ ys.length * L := by
  induction ys with
  | nil => simp
  | cons y ys ih =>
    have h1 := (h y (by simp)).1
    have h2 := ih fun z m => h z (by simp [m])
    simp only [List.map_cons, List.sum_cons, List.length_cons, Nat.succ_mul]
    omega
end
/-- small letters -/
def low (c : Nat) : Prop := 97 ≤ c ∧ c ≤ 122
def asc (c : Nat) : Prop := c < 128
theorem low_asc {c : Nat} (h : low c) : asc c := by unfold low at h; unfold asc; omega
instance (c : Nat) : Decidable (low c) := by unfold low; infer_instance
instance (c : Nat) : Decidable (asc c) := by unfold asc; infer_instance
def abc : Str := Str.ofString "abcdefghijklmnopqrstuvwxyz"
theorem abc_low : ∀ c ∈ abc.cps.toList, low c := by decide +kernel
theorem abc_len : abc.cps.toList.length = 26 := by decide +kernel
theorem char_at {q : Nat → Prop} {z : Str} (h : ∀ c ∈ z.cps.toList, q c) {i : Int} (h0 : 0 ≤ i) (h1 : i < z.cps.toList.length) : ∃ c, L2.atI z.cps.toList i = some c ∧ q c := by
  obtain ⟨k, rfl⟩ : ∃ k : Nat, i = k := ⟨i.toNat, by omega⟩
  exact ⟨_, atI_nat (by omega), h _ (List.getElem_mem _)⟩
end Q
/-! Y3: comprehensions; the bag's making; the labels. -/
namespace Q
open PySem PySem.Spec PyProof.Rows L2
/-- a comprehension without a test, by an invariant -/
theorem lc_inv {i : Nat} {te : EA} {vs : List Nat} {chk : Gp → Prop} {Qf : List A → Gp → Prop} {ς : En} (N : Nat) (hN : N ≤ sizeLine) (I : List A → Gp → Prop) (hc : ∀ acc G, I acc G → chk G) : ∀ (xs acc : List A) (G : Gp),
    (∀ x ∈ xs, ∀ acc G Q, acc.length < N → I acc G → (∀ y G', I (acc ++ [y]) G' → Q y G') → te ((wipeA ς vs).set i (some x)) G Q (fun _ _ => False)) →
    I acc G → acc.length + xs.length ≤ N → (∀ acc' G', acc'.length = acc.length + xs.length → I acc' G' → Qf acc' G') → lcR (gNm i) bYes te vs chk Qf xs acc ς G
  | [], acc, G, _, h, _, q => ⟨hc acc G h, q acc G rfl h⟩
  | x :: xs, acc, G, st, h, l, q => by
    refine ⟨hc acc G h, ?_⟩
    simp only [gNm, bYes, if_true]
    simp only [List.length_cons] at l
    refine st x (by simp) acc G _ (by omega) h fun y G' h' => ⟨by omega, ?_⟩
    refine lc_inv N hN I hc xs (acc ++ [y]) G' (fun z m => st z (by simp [m])) h' (by simp only [List.length_append, List.length_cons, List.length_nil]; omega) fun acc' G2 l2 h2 => q acc' G2 ?_ h2
    simp only [List.length_cons, List.length_append, List.length_nil] at l2 ⊢
    omega
theorem lc_filt {G : Gp} {i : Nat} {tt : BA} {vs : List Nat} {chk : Gp → Prop} {Qf : List A → Gp → Prop} {ς : En} {p : A → Bool} (hi : i < (wipeA ς vs).length) (hc : chk G) : ∀ (xs acc : List A),
    (∀ x ∈ xs, ∀ Qb : Bool → Gp → Prop, Qb (p x) G → tt ((wipeA ς vs).set i (some x)) G Qb (fun _ _ => False)) → acc.length + xs.length ≤ sizeLine → Qf (acc ++ xs.filter p) G → lcR (gNm i) tt (eVar i) vs chk Qf xs acc ς G
  | [], acc, _, _, q => ⟨hc, by simpa using q⟩
  | x :: xs, acc, st, l, q => by
    refine ⟨hc, ?_⟩
    simp only [gNm]
    simp only [List.length_cons] at l
    refine st x (by simp) _ ?_
    cases hp : p x
    · simp only [Bool.false_eq_true, if_false]
      exact lc_filt hi hc xs acc (fun y m => st y (by simp [m])) (by omega) (by simpa only [List.filter_cons, hp, Bool.false_eq_true, if_false] using q)
    · simp only [if_true, eVar]
      rw [List.getElem?_set_self hi]
      refine ⟨by omega, lc_filt hi hc xs (acc ++ [x]) (fun y m => st y (by simp [m])) (by simp only [List.length_append, List.length_cons, List.length_nil]; omega) ?_⟩
      simpa only [List.filter_cons, hp, if_true, List.append_assoc, List.singleton_append] using q
theorem lc_map {G : Gp} {i : Nat} {te : EA} {vs : List Nat} {chk : Gp → Prop} {Qf : List A → Gp → Prop} {ς : En} {f : A → A} (hc : chk G) : ∀ (xs acc : List A),
    (∀ x ∈ xs, ∀ Q : KA, Q (f x) G → te ((wipeA ς vs).set i (some x)) G Q (fun _ _ => False)) → acc.length + xs.length ≤ sizeLine → Qf (acc ++ xs.map f) G → lcR (gNm i) bYes te vs chk Qf xs acc ς G
  | [], acc, _, _, q => ⟨hc, by simpa using q⟩
  | x :: xs, acc, st, l, q => by
    refine ⟨hc, ?_⟩
    simp only [gNm, bYes, if_true]
    simp only [List.length_cons] at l
    refine st x (by simp) _ ⟨by omega, ?_⟩
    refine lc_map hc xs (acc ++ [f x]) (fun y m => st y (by simp [m])) (by simp only [List.length_append, List.length_cons, List.length_nil]; omega) ?_
    simpa only [List.map_cons, List.append_assoc, List.singleton_append] using q
theorem bag_ok {FT : FTab} {n : Nat} {G : Gp} {ns : List Int} {Q : KA} {X : KX} (hF : FT (Str.ofString "_law_bag") = some ⟨1, 2, tk_bag⟩)
    (q : ∀ b G', G b = none → Bag b 0 G' → rm b G' = rm b G → Q (.ref b) G') : runF FT (n + 1) "_law_bag" [.scr (ns.map .int)] G Q X := by
  refine ⟨_, hF, rfl, ?_⟩
  show tk_bag (runF FT n) _ [some (.scr (ns.map .int)), none] G
  refine seq_i fun R _ => ?_
  simp only [sRet, eLst, lCons, lNil, eC, eLc, iSeq, eSl, oNo, oSome, eVar, List.getElem?_cons_zero, slA, new_f, frz_l, itOf]
  have hl : (cutA (ns.map A.int) none (some 63)).length ≤ 63 := by
    unfold cutA
    simp only [HT.sIx, List.length_take, List.length_drop, List.length_map]
    simp; omega
  have hall : ∀ x ∈ cutA (ns.map A.int) none (some 63), ∃ i : Int, x = .int i := fun x hx => by
    have := List.mem_of_mem_drop (List.mem_of_mem_take hx)
    simp only [List.mem_map] at this
    obtain ⟨i, _, e⟩ := this
    exact ⟨i, e.symm⟩
  generalize cutA (ns.map A.int) none (some 63) = row at hl hall ⊢
  refine lc_inv 63 (by decide) (fun acc G2 => ∃ cells : List Int, acc = cells.map A.int ∧ G2 = G) (fun _ _ _ => trivial) _ _ _ ?_ ⟨[], rfl, rfl⟩ (by simp only [List.length_nil]; omega) ?_
  · rintro x hx acc G2 Q2 _ ⟨cells, rfl, rfl⟩ q2
    obtain ⟨i, rfl⟩ := hall x hx
    simp only [wipeA, eBi, absA, lCons, lNil, eVar, List.set_cons_zero, List.set_cons_succ, List.getElem?_cons_zero, List.getElem?_cons_succ]
    refine ⟨i, rfl, q2 _ _ ⟨cells ++ [if i < 0 then -i else i], by simp, rfl⟩⟩
  · rintro acc G2 hl2 ⟨cells, rfl, rfl⟩
    refine ⟨(by show 4 ≤ sizeLine; decide), fun b hb => q b _ hb ⟨0, 1234567891, 0, cells, up_same, by decide, by decide, by decide, by decide, by decide⟩ rm_up⟩
def tk_labels (c : Cal) : SA := (sSeq (sSet (eC (.str (Str.ofString "abcdefghijklmnopqrstuvwxyz"))) (gNm 2))
  (sSeq (sSet (eM "str" (splitA false) (eC (.str (Str.ofString "a b edge path go put take rule drop back again result facts rules ask why idle bare rounds"))) (lCons (eC (.str (Str.ofString " "))) lNil)) (gNm 3))
  (sSeq (sSet (eBin (addA false) (eVar 3) (eLst false (lCons (eC (.str (Str.ofString "x"))) (lCons (eC (.str (Str.ofString "y"))) (lCons (eC (.str (Str.ofString "va"))) (lCons (eC (.str (Str.ofString "vb"))) (lCons (eC (.str (Str.ofString "wall"))) lNil))))))) (gNm 3))
  (sSeq (sSet (eTup (lCons (eCall c "_law_take" (lCons (eVar 0) (lCons (eC (.int 4)) lNil))) (lCons (eCall c "_law_take" (lCons (eVar 0) (lCons (eC (.int 24)) lNil))) lNil))) (gTup [4, 5]))
  (sSeq (sSet (eM "str" joinA (eC (.str (Str.ofString ""))) (lCons (eLc false (iR1 (eBin (addA false) (eC (.int 1)) (eCall c "_law_take" (lCons (eVar 0) (lCons (eC (.int 7)) lNil))))) (gNm 7) bYes (eBin ixD (eVar 2) (eCall c "_law_take" (lCons (eVar 0) (lCons (eC (.int 26)) lNil)))) [7]) lNil)) (gNm 6))
  (sSeq (sSet (eTup (lCons (eCall c "_law_take" (lCons (eVar 0) (lCons (eBin (addA false) (eBi lenD (lCons (eVar 6) lNil)) (eC (.int 1))) lNil))) (lCons (eBin fdivA (eVar 4) (eC (.int 3))) lNil))) (gTup [8, 9]))
  (sSeq (sIf (bB (eBin (eqA false) (eVar 4) (eC (.int 0)))) (sSeq (sRet (eSl false (eBin (addA false) (eSl false (eVar 3) (oSome (eVar 5)) oNo) (eSl false (eVar 3) oNo (oSome (eVar 5)))) oNo (oSome (eVar 1))))
  sNx) sNx)
  (sSeq (sSet (eLc false (iR1 (eVar 1)) (gNm 7) bYes (eBin (mulA false) (eBin ixD (eVar 2) (eBin modA (eBi intOfA (lCons (eBin (addA false) (eVar 5) (eBin ixD (eLst false (lCons (eBin (mulA false) (eC (.int 3)) (eVar 7)) (lCons (eBin fdivA (eVar 7) (eC (.int 8))) lNil))) (eVar 9))) lNil)) (eC (.int 26)))) (eBin (addA false) (eC (.int 1)) (eBin (mulA false) (eBin modA (eBi intOfA (lCons (eVar 7) lNil)) (eC (.int 8))) (eVar 9)))) [7]) (gNm 10))
  (sSeq (sSet (eBin (mulA false) (eVar 6) (eBi intOfA (lCons (eBin (eqA false) (eVar 4) (eC (.int 2))) lNil))) (gNm 6))
  (sSeq (sRet (eLc false (iR1 (eVar 1)) (gNm 7) bYes (eBin (addA false) (eBin (addA false) (eSl false (eVar 6) oNo (oSome (eVar 8))) (eBin ixD (eVar 10) (eVar 7))) (eSl false (eVar 6) (oSome (eVar 8)) oNo)) [7]))
  sNx))))))))))
def mnu : Str := Str.ofString "a b edge path go put take rule drop back again result facts rules ask why idle bare rounds"
def men : List Str := Txt.split mnu (Str.ofString " ")
def men5 : List Str := ["x", "y", "va", "vb", "wall"].map Str.ofString
instance (q : Nat → Prop) [DecidablePred q] (L : Nat) (z : Str) : Decidable (Cs q L z) := by unfold Cs; infer_instance
/-- a word -/
def Wd (z : Str) : Prop := Cs low 8 z ∧ 1 ≤ z.length
instance (z : Str) : Decidable (Wd z) := by unfold Wd; infer_instance
theorem men_wd : ∀ z ∈ men ++ men5, Wd z := by decide +kernel
theorem men_len : (men ++ men5).length = 24 := by decide +kernel
theorem cut_map {α β : Type} (f : α → β) (xs : List α) (lo hi : Option Int) : cutA (xs.map f) lo hi = (cutA xs lo hi).map f := by
  unfold cutA
  simp only [List.length_map, List.map_take, List.map_drop]
theorem cut_mem {α : Type} {xs : List α} {lo hi : Option Int} {x : α} (h : x ∈ cutA xs lo hi) : x ∈ xs := List.mem_of_mem_drop (List.mem_of_mem_take h)
theorem cut_pre {α : Type} {xs : List α} {k : Int} (h0 : 0 ≤ k) (h1 : k ≤ xs.length) : (cutA xs none (some k)).length = k.toNat := by
  unfold cutA
  simp only [HT.sIx, List.length_take, List.length_drop]
  rw [if_neg (by omega)]; omega
theorem cut_suf {α : Type} {xs : List α} {k : Int} (h0 : 0 ≤ k) (h1 : k ≤ xs.length) : (cutA xs (some k) none).length = xs.length - k.toNat := by
  unfold cutA
  simp only [HT.sIx, List.length_take, List.length_drop]
  rw [if_neg (by omega)]; omega
theorem cutS_len {z : Str} {k : Int} (h0 : 0 ≤ k) : (cutS z none (some k)).length + (cutS z (some k) none).length = z.length := by
  unfold cutS
  rw [lenStr, lenStr, lenStr]
  simp only [HT.sIx, List.length_take, List.length_drop]
  rw [if_neg (by omega)]
  have : z.length = z.cps.toList.length := rfl
  omega
theorem mul_zero (z : Str) : (Txt.mul z 0).length = 0 := rfl
theorem mul_len1 {c : Nat} {k : Int} (h : 1 ≤ k) : 1 ≤ (Txt.mul ⟨#[c]⟩ k).length := by
  unfold Txt.mul
  split
  · rename_i z; omega
  split
  · show 1 ≤ 1; decide
  · have e := rep_list #[c] k.toNat #[]
    rw [lenStr, e]
    simp only [List.nil_append, List.length_flatten, List.map_replicate, List.sum_replicate_nat]
    show 1 ≤ k.toNat * 1
    omega
theorem labels_ok {FT : FTab} {n : Nat} {b : Addr} {P many : Int} {G : Gp} {Q : KA} {X : KX} (hT : FT (Str.ofString "_law_take") = some ⟨2, 7, tk_take⟩) (hF : FT (Str.ofString "_law_labels") = some ⟨2, 11, tk_labels⟩)
    (B : Bag b P G) (hP : P ≤ 2 ^ 59) (h0 : 0 ≤ many) (h1 : many ≤ 24)
    (q : ∀ (ws : List Str) G', (ws.length : Int) = many → (∀ z ∈ ws, Wd z) → Bag b (P + 11) G' → rm b G' = rm b G → Q (.fro (ws.map A.str)) G') : runF FT (n + 2) "_law_labels" [.ref b, .int many] G Q X := by
  refine ⟨_, hF, rfl, ?_⟩
  show tk_labels (runF FT (n + 1)) _ [some (.ref b), some (.int many), none, none, none, none, none, none, none, none, none] G
  have hbn : (2 : Int) ^ 59 = 576460752303423488 := by decide
  have hbm : (2 : Int) ^ 60 = 1152921504606846976 := by decide
  have hz : sizeLine = 16777216 := by decide
  unfold tk_labels
  refine seq_i fun R hR => ?_
  simp only [sSet, eC, gNm, List.set_cons_zero, List.set_cons_succ]
  refine hR _ _ ?_
  clear hR R
  refine seq_i fun R hR => ?_
  simp only [sSet, eM, eC, gNm, lCons, lNil, tyA, splitA, List.set_cons_zero, List.set_cons_succ, new_f, frz_l]
  refine ⟨trivial, _, _, rfl, rfl, by decide +kernel, by decide +kernel, hR _ _ ?_⟩
  clear hR R
  refine seq_i fun R hR => ?_
  simp only [sSet, eBin, eC, eVar, gNm, eLst, lCons, lNil, List.getElem?_cons_zero, List.getElem?_cons_succ, List.set_cons_zero, List.set_cons_succ, new_f, frz_l, add_fro]
  refine ⟨(by show 5 ≤ sizeLine; decide), by decide +kernel, hR _ _ ?_⟩
  clear hR R
  have em : (Txt.split (Str.ofString "a b edge path go put take rule drop back again result facts rules ask why idle bare rounds") (Str.ofString " ")).map A.str ++ [A.str (Str.ofString "x"), .str (Str.ofString "y"), .str (Str.ofString "va"), .str (Str.ofString "vb"), .str (Str.ofString "wall")] = (men ++ men5).map A.str := by
    rw [List.map_append]; rfl
  rw [em]
  clear em
  refine seq_i fun R hR => ?_
  simp only [sSet, eTup, eCall, eC, eVar, gTup, gTs, lCons, lNil, List.getElem?_cons_zero, List.getElem?_cons_succ, List.set_cons_zero, List.set_cons_succ]
  refine take_ok hT B (by omega) (by decide) (by decide) fun way G4 w0 w1 B4 r4 => ?_
  refine take_ok hT B4 (by omega) (by decide) (by decide) fun turn G5 t0 t1 B5 r5 => ?_
  refine ⟨(by show 2 ≤ sizeLine; decide), rfl, hR _ _ ?_⟩
  clear hR R
  have r5 := r5.trans r4
  refine seq_i fun R hR => ?_
  simp only [sSet, eM, eC, eVar, eLc, iR1, eBin, eCall, gNm, addA, lCons, lNil, List.getElem?_cons_zero, List.getElem?_cons_succ, List.set_cons_zero, List.set_cons_succ, tyA, true_and, new_f, frz_l]
  refine take_ok hT B5 (by omega) (by decide) (by decide) fun d6 G6 d60 d61 B6 r6 => ?_
  have r6 := r6.trans r5
  refine ⟨by omega, by omega, ?_⟩
  refine lc_inv 7 (by decide) (fun acc G' => ∃ ys : List Str, acc = ys.map A.str ∧ (∀ y ∈ ys, Cs low 1 y) ∧ Bag b (P + 3 + ys.length) G' ∧ rm b G' = rm b G) (fun _ _ _ => trivial) _ _ _ ?_ ⟨[], rfl, by simp, by simpa using B6.more (by omega), r6⟩ (by simp only [List.length_nil, List.length_map, List.length_range]; omega) ?_
  · rintro x hx acc Gx Qx hl ⟨ys, rfl, hy, Bx, rx⟩ qx
    simp only [List.length_map] at hl
    simp only [wipeA, eBin, eCall, eC, eVar, lCons, lNil, ixD, dctOf, ixA, List.set_cons_zero, List.set_cons_succ, List.getElem?_cons_zero, List.getElem?_cons_succ]
    refine take_ok (many := 26) hT Bx (by omega) (by decide) (by decide) fun d Gy y0 y1 By ry => ?_
    obtain ⟨c, ec, hcl⟩ := char_at abc_low y0 (by rw [abc_len]; omega)
    refine ⟨by decide, c, ec, qx _ _ ⟨ys ++ [⟨#[c]⟩], by simp, ?_, by simpa [Int.add_assoc] using By, ry.trans rx⟩⟩
    intro y my
    rcases List.mem_append.mp my with my | my
    · exact hy y my
    · simp at my; subst my; exact Cs.one hcl
  rintro acc G7 hl7 ⟨ys, rfl, hy, B7, r7⟩
  simp only [List.length_map, List.length_range, List.length_nil, Nat.zero_add] at hl7
  have hys : ys.length ≤ 7 := by omega
  have hlens := Cs.lens hy
  refine ⟨_, _, ys, rfl, rfl, rfl, ?_, ?_⟩
  · have z : (Str.ofString "").length = 0 := by decide +kernel
    rw [z]; omega
  have hstem : Cs low 7 (Txt.join (Str.ofString "") ys) := (Cs.join hy).more hys
  generalize Txt.join (Str.ofString "") ys = stem at hstem ⊢
  have B7' : Bag b (P + 10) G7 := B7.more (by omega)
  refine hR _ _ ?_
  clear hR R
  refine seq_i fun R hR => ?_
  simp only [sSet, eTup, eCall, eBin, eBi, eC, eVar, gTup, gTs, addA, fdivA, intA, lenD, dctOf, lenA, lCons, lNil, List.getElem?_cons_zero, List.getElem?_cons_succ, List.set_cons_zero, List.set_cons_succ]
  have hsl := hstem.1
  refine ⟨by omega, take_ok hT B7' (by omega) (by omega) (by omega) fun at_ G9 a0 a1 B9 r9 => ?_⟩
  have r9 := r9.trans r7
  refine ⟨⟨by decide, by decide⟩, (by show 2 ≤ sizeLine; decide), rfl, hR _ _ ?_⟩
  clear hR R
  refine seq_i fun R hR => ?_
  simp only [sIf, sNx, bB, eBin, eC, eVar, eqInt, Bool.false_eq_true, if_false, List.getElem?_cons_zero, List.getElem?_cons_succ]
  by_cases hw : (way == 0) = true
  · rw [if_pos hw]
    refine seq_i fun R2 _ => ?_
    simp only [sRet, eBin, eVar, eSl, oNo, oSome, sl_fro, add_fro, new_f, frz_l, List.getElem?_cons_zero, List.getElem?_cons_succ]
    have la : (cutA (men ++ men5) (some turn) none).length = 24 - turn.toNat := by rw [cut_suf t0 (by rw [men_len]; omega), men_len]
    have lb : (cutA (men ++ men5) none (some turn)).length = turn.toNat := cut_pre t0 (by rw [men_len]; omega)
    simp only [cut_map]
    refine ⟨by simp only [List.length_map]; omega, ?_⟩
    rw [← List.map_append, cut_map]
    refine q (cutA (cutA (men ++ men5) (some turn) none ++ cutA (men ++ men5) none (some turn)) none (some many)) _ ?_ ?_ (B9.more (by omega)) r9
    · rw [cut_pre h0 (by rw [List.length_append]; omega)]; omega
    · intro z mz
      have mz := cut_mem mz
      rcases List.mem_append.mp mz with mz | mz
      · exact men_wd z (cut_mem mz)
      · exact men_wd z (cut_mem mz)
  · rw [if_neg hw]
    have hw' : way ≠ 0 := by simpa using hw
    refine hR _ _ ?_
    clear hR R
    generalize hfar : way / 3 = far
    have f0 : 0 ≤ far := by omega
    have f1 : far ≤ 1 := by omega
    refine seq_i fun R hR => ?_
    simp only [sSet, eLc, iR1, eVar, gNm, List.getElem?_cons_zero, List.getElem?_cons_succ, List.set_cons_zero, List.set_cons_succ, new_f, frz_l]
    refine ⟨by omega, by omega, ?_⟩
    refine lc_inv 24 (by decide) (fun acc G' => ∃ ys : List Str, acc = ys.map A.str ∧ (∀ y ∈ ys, Cs low (1 + 7 * far.toNat) y ∧ 1 ≤ y.length) ∧ G' = G9) (fun _ _ _ => trivial) _ _ _ ?_ ⟨[], rfl, by simp, rfl⟩ (by simp only [List.length_nil, List.length_map, List.length_range]; omega) ?_
    · rintro x hx acc Gx Qx hl ⟨ys, rfl, hy, rfl⟩ qx
      simp only [List.mem_map, List.mem_range] at hx
      obtain ⟨k, hk, rfl⟩ := hx
      simp only [wipeA, eBin, eBi, eLst, eC, eVar, lCons, lNil, mulA, fdivA, modA, addA, intA, intOfA, List.set_cons_zero, List.set_cons_succ, List.getElem?_cons_zero, List.getElem?_cons_succ, new_f, frz_l, ixFro]
      refine ⟨small_mul (by decide) (by omega), ⟨by decide, by decide⟩, (by show 2 ≤ sizeLine; decide), ?_⟩
      have ix : ∃ v : Int, 0 ≤ v ∧ L2.atI [A.int (3 * (k : Int)), .int ((k : Int) / 8)] far = some (.int v) := by
        rcases (by omega : far = 0 ∨ far = 1) with rfl | rfl
        · exact ⟨_, by omega, at0⟩
        · exact ⟨_, by omega, at1⟩
      obtain ⟨v, v0, ev⟩ := ix
      simp only [atK, ev]
      refine ⟨by decide, ?_⟩
      obtain ⟨c, ec, hcl⟩ := char_at abc_low (i := (turn + v) % 26) (Int.emod_nonneg _ (by decide)) (by rw [abc_len]; exact Int.emod_lt_of_pos _ (by decide))
      refine ⟨by decide, c, ec, by decide, ?_⟩
      have m0 : 0 ≤ (k : Int) % 8 := Int.emod_nonneg _ (by decide)
      have m1 : (k : Int) % 8 < 8 := Int.emod_lt_of_pos _ (by decide)
      have mm : 0 ≤ (k : Int) % 8 * far ∧ (k : Int) % 8 * far ≤ 7 * far := by
        rcases (by omega : far = 0 ∨ far = 1) with rfl | rfl <;> constructor <;> omega
      refine ⟨small_mul (by omega) (by omega), MulOk.small (x := ⟨#[c]⟩) (by show 1 ≤ 1000; decide) (by omega) (by omega), ?_⟩
      refine qx _ _ ⟨ys ++ [Txt.mul ⟨#[c]⟩ (1 + (k : Int) % 8 * far)], by simp, ?_, rfl⟩
      intro y my
      rcases List.mem_append.mp my with my | my
      · exact hy y my
      · simp at my; subst my
        exact ⟨((Cs.one hcl).mul (n := 1 + 7 * far.toNat) (by omega)).more (by omega), mul_len1 (by omega)⟩
    rintro acc G10 hl10 ⟨ys, rfl, hy, rfl⟩
    simp only [List.length_map, List.length_range, List.length_nil, Nat.zero_add] at hl10
    refine hR _ _ ?_
    clear hR R
    refine seq_i fun R hR => ?_
    simp only [sSet, eBin, eBi, eC, eVar, lCons, lNil, gNm, mulA, eqInt, intOfA, Bool.false_eq_true, if_false, List.getElem?_cons_zero, List.getElem?_cons_succ, List.set_cons_zero, List.set_cons_succ]
    refine ⟨MulOk.small (by omega) (by split <;> omega) (by split <;> omega), hR _ _ ?_⟩
    clear hR R
    have hst2 : Cs low (7 - 7 * far.toNat) (Txt.mul stem (if (way == 2) = true then 1 else 0)) := by
      by_cases w2 : (way == 2) = true
      · rw [if_pos w2]
        have : way = 2 := by simpa using w2
        have e : far = 0 := by omega
        subst e
        exact (hstem.mul (n := 1) (by decide)).more (by decide)
      · rw [if_neg w2]
        exact (hstem.mul (n := 0) (by decide)).more (by omega)
    generalize Txt.mul stem (if (way == 2) = true then 1 else 0) = st2 at hst2 ⊢
    refine seq_i fun R _ => ?_
    simp only [sRet, eLc, iR1, eVar, List.getElem?_cons_zero, List.getElem?_cons_succ, new_f, frz_l]
    refine ⟨by omega, by omega, ?_⟩
    refine lc_inv 24 (by decide) (fun acc G' => ∃ zs : List Str, acc = zs.map A.str ∧ (∀ y ∈ zs, Wd y) ∧ G' = G10) (fun _ _ _ => trivial) _ _ _ ?_ ⟨[], rfl, by simp, rfl⟩ (by simp only [List.length_nil, List.length_map, List.length_range]; omega) ?_
    · rintro x hx acc Gx Qx hl ⟨zs, rfl, hzs, rfl⟩ qx
      simp only [List.mem_map, List.mem_range] at hx
      obtain ⟨k, hk, rfl⟩ := hx
      have hk2 : k < (ys.map A.str).length := by simp only [List.length_map]; omega
      simp only [wipeA, eBin, eSl, oNo, oSome, slA, eVar, addA, ixFro, atK, atI_nat hk2, List.getElem_map, List.set_cons_zero, List.set_cons_succ, List.getElem?_cons_zero, List.getElem?_cons_succ]
      have h2l := hst2.1
      obtain ⟨hyk, hy1⟩ := hy (ys[k]'(by simpa using hk2)) (List.getElem_mem _)
      have c1 := hst2.cut (lo := none) (hi := some at_)
      have c2 := hst2.cut (lo := some at_) (hi := none)
      have c3 := (c1.app hyk).app c2
      have d1 := c1.1
      have d2 := c2.1
      have d3 := (c1.app hyk).1
      have d4 := hyk.1
      have d5 := cutS_len (z := st2) a0
      refine ⟨by omega, by omega, by omega, by omega, qx _ _ ⟨zs ++ [cutS st2 none (some at_) ++ ys[k]'(by simpa using hk2) ++ cutS st2 (some at_) none], by simp, ?_, rfl⟩⟩
      intro y my
      rcases List.mem_append.mp my with my | my
      · exact hzs y my
      · simp at my; subst my
        refine ⟨⟨?_, c3.2⟩, ?_⟩ <;> rw [len_app, len_app] <;> omega
    rintro acc G11 hl11 ⟨zs, rfl, hzs, rfl⟩
    simp only [List.length_map, List.length_range, List.length_nil, Nat.zero_add] at hl11
    exact q zs _ (by omega) hzs (B9.more (by omega)) r9
end Q
/-! Y4: the package's kinds: what is an integer, a constant, a word, a fact, a term, an atom. -/
namespace Q
open PySem PySem.Spec PyProof.Rows L2
def tk_is_integer (c : Cal) : SA := (sSeq (sRet (eAnd (eIsi (eVar 0) ["int"]) (eNot (eIsi (eVar 0) ["bool"]))))
  sNx)
def tk_is_constant (c : Cal) : SA := (sSeq (sRet (eAnd (eCall c "is_integer" (lCons (eVar 0) lNil)) (eBin geA (eVar 0) (eC (.int 0)))))
  sNx)
def tk_is_word (c : Cal) : SA := (sSeq (sIf (bOr (bNot (bV (eIsi (eVar 0) ["str"]))) (bNot (bB (eChain leA leA (eC (.int 1)) (eBi lenD (lCons (eVar 0) lNil)) (eC (.int 8)))))) (sSeq (sRet (eC (.bl false)))
  sNx) sNx)
  (sSeq (sRet (eAnd (eM "str" (strB Txt.isascii) (eVar 0) lNil) (eAnd (eM "str" (strB Txt.isalpha) (eVar 0) lNil) (eM "str" (strB Txt.islower) (eVar 0) lNil))))
  sNx))
def tk_is_fact (c : Cal) : SA := (sSeq (sIf (bOr (bNot (bV (eIsi (eVar 0) ["tuple"]))) (bNot (bB (eChain leA leA (eC (.int 1)) (eBi lenD (lCons (eVar 0) lNil)) (eBin (addA false) (eC (.int 1)) (eC (.int 4))))))) (sSeq (sRet (eC (.bl false)))
  sNx) sNx)
  (sSeq (sRet (eAnd (eCall c "is_word" (lCons (eBin ixD (eVar 0) (eC (.int 0))) lNil)) (eBi (allA (·.all id)) (lCons (eLc false (iSeq (eSl false (eVar 0) (oSome (eC (.int 1))) oNo)) (gNm 1) bYes (eCall c "is_constant" (lCons (eVar 1) lNil)) [1]) lNil))))
  sNx))
def tk_is_variable (c : Cal) : SA := (sSeq (sRet (eCall c "is_word" (lCons (eVar 0) lNil)))
  sNx)
def tk_is_term (c : Cal) : SA := (sSeq (sRet (eOr (eCall c "is_constant" (lCons (eVar 0) lNil)) (eCall c "is_word" (lCons (eVar 0) lNil))))
  sNx)
def tk_is_atom (c : Cal) : SA := (sSeq (sIf (bOr (bNot (bV (eIsi (eVar 0) ["tuple"]))) (bNot (bB (eChain leA leA (eC (.int 1)) (eBi lenD (lCons (eVar 0) lNil)) (eBin (addA false) (eC (.int 1)) (eC (.int 4))))))) (sSeq (sRet (eC (.bl false)))
  sNx) sNx)
  (sSeq (sRet (eAnd (eCall c "is_word" (lCons (eBin ixD (eVar 0) (eC (.int 0))) lNil)) (eBi (allA (·.all id)) (lCons (eLc false (iSeq (eSl false (eVar 0) (oSome (eC (.int 1))) oNo)) (gNm 1) bYes (eCall c "is_term" (lCons (eVar 1) lNil)) [1]) lNil))))
  sNx))
def isIntB : A → Bool
  | .int _ => true
  | _ => false
def isConB : A → Bool
  | .int i => decide (0 ≤ i)
  | _ => false
def lowB (z : Str) : Bool := z.cps.toList.all fun c => decide (low c)
def wordB (z : Str) : Bool := decide (1 ≤ z.length) && decide (z.length ≤ 8) && lowB z
def isWordB : A → Bool
  | .str z => wordB z
  | _ => false
def isTermB (a : A) : Bool := isConB a || isWordB a
def isRowB (f : A → Bool) : A → Bool
  | .tup (x :: xs) => decide (xs.length ≤ 4) && (isWordB x && xs.all f)
  | _ => false
def isFactB : A → Bool := isRowB isConB
def isAtomB : A → Bool := isRowB isTermB
theorem word_of {z : Str} (h : Wd z) : wordB z = true := by
  unfold wordB lowB
  simp only [Bool.and_eq_true, decide_eq_true_eq, List.all_eq_true]
  exact ⟨⟨h.2, h.1.1⟩, h.1.2⟩
theorem of_word {z : Str} (h : wordB z = true) : Wd z := by
  unfold wordB lowB at h
  simp only [Bool.and_eq_true, decide_eq_true_eq, List.all_eq_true] at h
  exact ⟨⟨h.1.2, h.2⟩, h.1.1⟩
/-- a value without an address, of a kind that isinstance tells; texts are ascii, not long -/
def ty : A → Option String
  | .non => some "NoneType"
  | .bl _ => some "bool"
  | .int _ => some "int"
  | .str _ => some "str"
  | .tup _ => some "tuple"
  | .fro _ => some "list"
  | .fdc _ _ => some "dict"
  | _ => none
theorem ty_at {a : A} {t : String} (h : ty a = some t) (G : Gp) : tyName G a = some t := by cases a <;> simp only [ty, tyName, reduceCtorEq] at h ⊢ <;> exact h
def Kn (a : A) : Prop := (∃ t, ty a = some t) ∧ ∀ z, a = .str z → Cs asc 300 z
section
variable {FT : FTab} {n : Nat} {G : Gp} {a : A} {Q : KA} {X : KX}
theorem isi_int (h : ∃ t, ty a = some t) (q : Q (.bl (isIntB a)) G) : ∃ t, tyName G a = some t ∧ (if isiB t ["int"] = true then ∃ u, tyName G a = some u ∧ Q (.bl (!isiB u ["bool"])) G else Q (.bl (isiB t ["int"])) G) := by
  obtain ⟨t, e⟩ := h
  refine ⟨t, ty_at e G, ?_⟩
  cases a <;> simp only [ty, Option.some.injEq, reduceCtorEq] at e <;> subst e
  · exact q
  · exact ⟨_, rfl, q⟩
  · exact ⟨_, rfl, q⟩
  all_goals exact q
theorem is_integer_ok (hF : FT (Str.ofString "is_integer") = some ⟨1, 1, tk_is_integer⟩) (h : ∃ t, ty a = some t) (q : Q (.bl (isIntB a)) G) : runF FT (n + 1) "is_integer" [a] G Q X := by
  refine ⟨_, hF, rfl, ?_⟩
  show tk_is_integer (runF FT n) _ [some a] G
  refine seq_i fun R _ => ?_
  simp only [sRet, eAnd, eNot, eIsi, eVar, List.getElem?_cons_zero, truA]
  exact isi_int h q
theorem is_constant_ok (hI : FT (Str.ofString "is_integer") = some ⟨1, 1, tk_is_integer⟩) (hF : FT (Str.ofString "is_constant") = some ⟨1, 1, tk_is_constant⟩) (h : ∃ t, ty a = some t) (q : Q (.bl (isConB a)) G) : runF FT (n + 2) "is_constant" [a] G Q X := by
  refine ⟨_, hF, rfl, ?_⟩
  show tk_is_constant (runF FT (n + 1)) _ [some a] G
  refine seq_i fun R _ => ?_
  simp only [sRet, eAnd, eCall, eBin, eC, lCons, lNil, eVar, List.getElem?_cons_zero]
  refine is_integer_ok hI h ?_
  cases a <;> simp only [isIntB, truA, Bool.false_eq_true, if_false, if_true, geA] <;> exact q
theorem asc_facts : ∀ c : Fin 128, (Unicode.isAlpha c.1 && !(Unicode.isUpper c.1 || Unicode.isTitle c.1)) = decide (low c.1) ∧ (Unicode.isLower c.1 = decide (low c.1)) := by decide +kernel
theorem word_asc {z : Str} (h : Cs asc 300 z) (h1 : 1 ≤ z.length) : (Txt.isascii z && (Txt.isalpha z && Txt.islower z)) = lowB z ∧ Txt.isascii z = true := by
  have f : ∀ c ∈ z.cps.toList, (Unicode.isAlpha c && !(Unicode.isUpper c || Unicode.isTitle c)) = decide (low c) ∧ Unicode.isLower c = decide (low c) := fun c m => asc_facts ⟨c, h.2 c m⟩
  have ha : Txt.isascii z = true := by
    unfold Txt.isascii
    rw [Array.all_eq_true']
    intro c m
    have y : c < 128 := h.2 c (by simpa using m)
    simpa using y
  refine ⟨?_, ha⟩
  rw [ha, Bool.true_and, Bool.eq_iff_iff]
  unfold Txt.isalpha Txt.islower lowB
  simp only [Bool.and_eq_true, decide_eq_true_eq, Array.all_eq_true', Array.any_eq_true', Bool.not_eq_true', List.all_eq_true]
  constructor
  · rintro ⟨⟨_, al⟩, _, an⟩ c m
    have h1 := (f c m).1
    have h2 := al c (by simpa using m)
    have h3 : (Unicode.isUpper c || Unicode.isTitle c) = false := by
      rw [Array.any_eq_false'] at an
      have := an c (by simpa using m)
      simpa using this
    rw [h2, h3] at h1
    simpa using h1
  · intro hl
    have g : ∀ c ∈ z.cps, Unicode.isAlpha c = true ∧ (Unicode.isUpper c || Unicode.isTitle c) = false ∧ Unicode.isLower c = true := by
      intro c m
      have m' : c ∈ z.cps.toList := by simpa using m
      have h1 := f c m'
      have h2 : decide (low c) = true := by simpa using hl c m'
      rw [h2] at h1
      simp only [Bool.and_eq_true, Bool.not_eq_true'] at h1
      exact ⟨h1.1.1, h1.1.2, h1.2⟩
    refine ⟨⟨h1, fun c m => (g c m).1⟩, ?_, ?_⟩
    · have hz : 0 < z.cps.size := h1
      exact ⟨z.cps[0], Array.getElem_mem _, (g _ (Array.getElem_mem _)).2.2⟩
    · rw [Array.any_eq_false']
      intro c m
      have := (g c m).2.1
      simpa using this
theorem not_str {t : String} (e : ty a = some t) (h : ∀ z, a ≠ .str z) : isiB t ["str"] = false := by
  cases a <;> simp only [ty, Option.some.injEq, reduceCtorEq] at e <;> subst e <;> first | decide | exact absurd rfl (h _)
theorem not_tup {t : String} (e : ty a = some t) (h : ∀ z, a ≠ .tup z) : isiB t ["tuple"] = false := by
  cases a <;> simp only [ty, Option.some.injEq, reduceCtorEq] at e <;> subst e <;> first | decide | exact absurd rfl (h _)
theorem is_word_ok (hF : FT (Str.ofString "is_word") = some ⟨1, 1, tk_is_word⟩) (h : Kn a) (q : Q (.bl (isWordB a)) G) : runF FT (n + 1) "is_word" [a] G Q X := by
  refine ⟨_, hF, rfl, ?_⟩
  show tk_is_word (runF FT n) _ [some a] G
  have hz : sizeLine = 16777216 := by decide
  obtain ⟨⟨t, e⟩, hs⟩ := h
  refine seq_i fun R hR => ?_
  simp only [sIf, sNx, bOr, bNot, bV, eIsi, eVar, List.getElem?_cons_zero, truA]
  refine ⟨t, ty_at e G, ?_⟩
  have no : isWordB a = false → sSeq (sRet (eC (.bl false))) sNx { nx := R, rt := Q, ex := fun e _ G' => X e G' } [some a] G := fun w => by
    refine seq_i fun R _ => ?_
    rw [w] at q
    exact q
  by_cases hst : ∃ z, a = .str z
  · obtain ⟨z, rfl⟩ := hst
    cases e
    have hc := hs z rfl
    have hl := hc.1
    have i1 : isiB "str" ["str"] = true := by decide
    simp only [i1, Bool.not_true, Bool.false_eq_true, if_false, bB, eChain, eC, eBi, lCons, lNil, eVar, lenD, dctOf, lenA, leA, List.getElem?_cons_zero]
    refine ⟨by omega, ?_⟩
    by_cases b1 : (1 : Int) ≤ (z.length : Int)
    · rw [decide_eq_true b1]
      simp only [Bool.not_true, Bool.false_eq_true, if_false, if_true]
      by_cases b2 : (z.length : Int) ≤ 8
      · rw [decide_eq_true b2]
        simp only [Bool.not_true, Bool.false_eq_true, if_false]
        refine hR _ _ (seq_i fun R _ => ?_)
        obtain ⟨w1, w2⟩ := word_asc hc (by omega)
        have e1 : isWordB (.str z) = lowB z := by
          simp only [isWordB, wordB]
          rw [decide_eq_true (p := 1 ≤ z.length) (by omega), decide_eq_true (p := z.length ≤ 8) (by omega)]; simp
        rw [e1, ← w1, w2, Bool.true_and] at q
        simp only [sRet, eAnd, eM, eVar, lNil, strB, tyA, List.getElem?_cons_zero]
        refine ⟨trivial, z, rfl, trivial, ?_⟩
        simp only [truA, w2, if_true]
        refine ⟨trivial, z, rfl, trivial, ?_⟩
        cases w3 : Txt.isalpha z
        · rw [w3] at q; simpa only [truA, Bool.false_eq_true, if_false, Bool.false_and] using q
        · rw [w3] at q
          simp only [truA, if_true]
          exact ⟨trivial, z, rfl, trivial, by simpa only [Bool.true_and] using q⟩
      · rw [decide_eq_false b2]
        simp only [Bool.not_false, if_true]
        refine no ?_
        simp only [isWordB, wordB]
        rw [decide_eq_false (p := z.length ≤ 8) (by omega)]; simp
    · rw [decide_eq_false b1]
      simp only [Bool.not_false, if_true]
      refine no ?_
      simp only [isWordB, wordB]
      rw [decide_eq_false (p := 1 ≤ z.length) (by omega)]; simp
  · have i1 := not_str e fun z w => hst ⟨z, w⟩
    simp only [i1, Bool.not_false, if_true]
    exact no (by cases a <;> first | rfl | exact absurd ⟨_, rfl⟩ hst)
theorem is_variable_ok (hW : FT (Str.ofString "is_word") = some ⟨1, 1, tk_is_word⟩) (hF : FT (Str.ofString "is_variable") = some ⟨1, 1, tk_is_variable⟩) (h : Kn a) (q : Q (.bl (isWordB a)) G) : runF FT (n + 2) "is_variable" [a] G Q X := by
  refine ⟨_, hF, rfl, ?_⟩
  show tk_is_variable (runF FT (n + 1)) _ [some a] G
  refine seq_i fun R _ => ?_
  simp only [sRet, eCall, lCons, lNil, eVar, List.getElem?_cons_zero]
  exact is_word_ok hW h q
theorem is_term_ok (hI : FT (Str.ofString "is_integer") = some ⟨1, 1, tk_is_integer⟩) (hC : FT (Str.ofString "is_constant") = some ⟨1, 1, tk_is_constant⟩) (hW : FT (Str.ofString "is_word") = some ⟨1, 1, tk_is_word⟩)
    (hF : FT (Str.ofString "is_term") = some ⟨1, 1, tk_is_term⟩) (h : Kn a) (q : Q (.bl (isTermB a)) G) : runF FT (n + 3) "is_term" [a] G Q X := by
  refine ⟨_, hF, rfl, ?_⟩
  show tk_is_term (runF FT (n + 2)) _ [some a] G
  refine seq_i fun R _ => ?_
  simp only [sRet, eOr, eCall, lCons, lNil, eVar, List.getElem?_cons_zero]
  refine is_constant_ok hI hC h.1 ?_
  unfold isTermB at q
  cases w : isConB a
  · rw [w] at q
    simp only [truA, Bool.false_eq_true, if_false]
    exact is_word_ok hW h (by simpa only [Bool.false_or] using q)
  · rw [w] at q
    simp only [truA, if_true]
    simpa only [Bool.true_or] using q
theorem cut1 {α : Type} (x : α) (r : List α) : cutA (x :: r) (some 1) none = r := by
  unfold cutA
  simp only [HT.sIx, List.length_cons]
  rw [if_neg (by decide)]
  have e : min (Int.toNat 1) (r.length + 1) = 1 := by show min 1 (r.length + 1) = 1; omega
  rw [e]
  simp
/-- what may be asked for a row -/
def KnT (a : A) : Prop := Kn a ∧ ∀ xs, a = .tup xs → xs.length ≤ 1000 ∧ ∀ x ∈ xs, Kn x
/-- a row of a word and parts -/
theorem row_ok {f : A → Bool} {F : String} {name : String} {t : Cal → SA} (ht : ∀ c, t c = (sSeq (sIf (bOr (bNot (bV (eIsi (eVar 0) ["tuple"]))) (bNot (bB (eChain leA leA (eC (.int 1)) (eBi lenD (lCons (eVar 0) lNil)) (eBin (addA false) (eC (.int 1)) (eC (.int 4))))))) (sSeq (sRet (eC (.bl false)))
    sNx) sNx) (sSeq (sRet (eAnd (eCall c "is_word" (lCons (eBin ixD (eVar 0) (eC (.int 0))) lNil)) (eBi (allA (·.all id)) (lCons (eLc false (iSeq (eSl false (eVar 0) (oSome (eC (.int 1))) oNo)) (gNm 1) bYes (eCall c F (lCons (eVar 1) lNil)) [1]) lNil)))) sNx)))
    (hW : FT (Str.ofString "is_word") = some ⟨1, 1, tk_is_word⟩) (hf : ∀ x (G : Gp) (Q : KA) (X : KX), Kn x → Q (.bl (f x)) G → runF FT (n + 1) F [x] G Q X)
    (hF : FT (Str.ofString name) = some ⟨1, 2, t⟩) (h : KnT a) (q : Q (.bl (isRowB f a)) G) : runF FT (n + 2) name [a] G Q X := by
  refine ⟨_, hF, rfl, ?_⟩
  show t (runF FT (n + 1)) _ [some a, none] G
  rw [ht]
  obtain ⟨⟨⟨t, e⟩, hs⟩, hx⟩ := h
  refine seq_i fun R hR => ?_
  simp only [sIf, sNx, bOr, bNot, bV, eIsi, eVar, List.getElem?_cons_zero, truA]
  refine ⟨t, ty_at e G, ?_⟩
  have no : isRowB f a = false → sSeq (sRet (eC (.bl false))) sNx { nx := R, rt := Q, ex := fun e _ G' => X e G' } [some a, none] G := fun w => by
    refine seq_i fun R _ => ?_
    rw [w] at q
    exact q
  by_cases hst : ∃ z, a = .tup z
  · obtain ⟨xs, rfl⟩ := hst
    cases e
    have i1 : isiB "tuple" ["tuple"] = true := by decide
    obtain ⟨hl, hk⟩ := hx xs rfl
    simp only [i1, Bool.not_true, Bool.false_eq_true, if_false, bB, eChain, eBin, eC, eBi, lCons, lNil, eVar, len_tup, leA, addA, List.getElem?_cons_zero]
    cases xs with
    | nil => exact no rfl
    | cons x r =>
      have b1 : (1 : Int) ≤ ((x :: r).length : Int) := by simp only [List.length_cons]; omega
      rw [decide_eq_true b1]
      simp only [Bool.not_true, Bool.false_eq_true, if_false, if_true]
      by_cases b2 : ((x :: r).length : Int) ≤ 1 + 4
      · rw [decide_eq_true b2]
        have b3 : r.length ≤ 4 := by simp only [List.length_cons] at b2; omega
        simp only [Bool.not_true, Bool.false_eq_true, if_false]
        refine hR _ _ (seq_i fun R _ => ?_)
        simp only [sRet, eAnd, eCall, eBin, eC, eBi, lCons, lNil, eVar, ixTup, atK, at0, List.getElem?_cons_zero]
        refine is_word_ok hW (hk x (by simp)) ?_
        have ef : isRowB f (.tup (x :: r)) = (isWordB x && r.all f) := by simp only [isRowB]; simp [b3]
        rw [ef] at q
        cases w : isWordB x
        · rw [w] at q
          simpa only [truA, Bool.false_eq_true, if_false, Bool.false_and] using q
        · rw [w] at q
          simp only [truA, if_true, eLc, iSeq, eSl, oNo, oSome, eC, slA, eVar, itOf, cut1, List.getElem?_cons_zero, new_f, frz_l]
          refine lc_map (f := fun y => .bl (f y)) trivial r [] ?_ (by simp only [List.length_nil]; unfold sizeLine; omega) ?_
          · intro y my Q2 q2
            simp only [wipeA, eCall, lCons, lNil, eVar, List.set_cons_zero, List.set_cons_succ, List.getElem?_cons_zero, List.getElem?_cons_succ]
            exact hf y _ _ _ (hk y (by simp [my])) q2
          · refine ⟨_, r.map f, rfl, ?_, ?_⟩
            · simp only [lstOf, List.nil_append, List.map_map]; rfl
            · have z : (r.map f).all id = r.all f := by rw [List.all_map]; rfl
              show Q (.bl ((r.map f).all id)) _
              rw [z]
              simpa only [Bool.true_and] using q
      · rw [decide_eq_false b2]
        have b3 : ¬ r.length ≤ 4 := by simp only [List.length_cons] at b2; omega
        simp only [Bool.not_false, if_true]
        exact no (by simp only [isRowB]; simp [b3])
  · have i1 := not_tup e fun z w => hst ⟨z, w⟩
    simp only [i1, Bool.not_false, if_true]
    exact no (by cases a <;> first | rfl | exact absurd ⟨_, rfl⟩ hst)
theorem is_fact_ok (hI : FT (Str.ofString "is_integer") = some ⟨1, 1, tk_is_integer⟩) (hC : FT (Str.ofString "is_constant") = some ⟨1, 1, tk_is_constant⟩) (hW : FT (Str.ofString "is_word") = some ⟨1, 1, tk_is_word⟩)
    (hF : FT (Str.ofString "is_fact") = some ⟨1, 2, tk_is_fact⟩) (h : KnT a) (q : Q (.bl (isFactB a)) G) : runF FT (n + 3) "is_fact" [a] G Q X :=
  row_ok (n := n + 1) (fun _ => rfl) hW (fun x G Q X k q => is_constant_ok hI hC k.1 q) hF h q
theorem is_atom_ok (hI : FT (Str.ofString "is_integer") = some ⟨1, 1, tk_is_integer⟩) (hC : FT (Str.ofString "is_constant") = some ⟨1, 1, tk_is_constant⟩) (hW : FT (Str.ofString "is_word") = some ⟨1, 1, tk_is_word⟩)
    (hT : FT (Str.ofString "is_term") = some ⟨1, 1, tk_is_term⟩) (hF : FT (Str.ofString "is_atom") = some ⟨1, 2, tk_is_atom⟩) (h : KnT a) (q : Q (.bl (isAtomB a)) G) : runF FT (n + 4) "is_atom" [a] G Q X :=
  row_ok (n := n + 2) (fun _ => rfl) hW (fun x G Q X k q => is_term_ok hI hC hW hT k q) hF h q
end
end Q
/-! Y5: data that print short; alike. -/
namespace Q
open PySem PySem.Spec PyProof.Rows L2
def tk_alike (c : Cal) : SA := (sSeq (sRet (eAnd (eBin (eqA false) (eVar 0) (eVar 1)) (eBin (eqA false) (eBi reprA (lCons (eVar 0) lNil)) (eBi reprA (lCons (eVar 1) lNil)))))
  sNx)
/-- data that print, not long -/
def Sm (D W : Nat) (d : PyData) : Prop := d.leavesShort 300 = true ∧ d.showable = true ∧ d.depth ≤ D ∧ d.weight ≤ W
def Sms (D W : Nat) (ds : List PyData) : Prop := PyData.leavesShortAll 300 ds = true ∧ PyData.showableAll ds = true ∧ PyData.depthAll ds ≤ D ∧ PyData.weightAll ds ≤ W
theorem Sm.more {D W D' W' : Nat} {d : PyData} (h : Sm D W d) (l : D ≤ D') (k : W ≤ W') : Sm D' W' d := ⟨h.1, h.2.1, Nat.le_trans h.2.2.1 l, Nat.le_trans h.2.2.2 k⟩
/-- a value without an address that prints, not long -/
def Ok (D W : Nat) (a : A) : Prop := ∃ d, pyd a = some d ∧ Sm D W d
section
variable {D W D' W' : Nat}
theorem Ok.more {a : A} (h : Ok D W a) (l : D ≤ D') (k : W ≤ W') : Ok D' W' a := let ⟨d, e, s⟩ := h; ⟨d, e, s.more l k⟩
theorem Ok.non : Ok D (W + 1) .non := ⟨_, rfl, rfl, rfl, by simp [PyData.depth], by simp [PyData.weight]⟩
theorem Ok.bl {b : Bool} : Ok D (W + 1) (.bl b) := ⟨_, rfl, rfl, rfl, by simp [PyData.depth], by simp [PyData.weight]⟩
theorem Ok.int {i : Int} (h : i.natAbs < 10 ^ 62) : Ok D (W + 207) (.int i) := by
  have hl : i.natAbs.log2 < 206 := by
    by_cases z : i.natAbs = 0
    · rw [z]; decide
    · refine (Nat.log2_lt z).mpr (Nat.lt_of_lt_of_le h (by decide))
  have l1 := int_text_length_le (a := i) (k := 206) (by decide) hl
  refine ⟨_, rfl, ?_, ?_, by simp [PyData.depth], ?_⟩
  · have l2 : (PyData.int i).shown.length ≤ 300 := by
      have e : (PyData.int i).shown = Str.ofString (toString i) := by simp only [PyData.shown]
      rw [e, PySem.ofString_length]; omega
    simp only [PyData.leavesShort]
    exact decide_eq_true l2
  · simp only [PyData.showable, decide_eq_true_eq]; omega
  · simp only [PyData.weight]; (try split) <;> omega
theorem Ok.str {z : Str} {L : Nat} (h : Cs asc L z) (hL : L + 1 ≤ W) : Ok D W (.str z) := by
  refine ⟨_, rfl, ?_, rfl, by simp [PyData.depth], ?_⟩
  · simp only [PyData.leavesShort, List.all_eq_true, decide_eq_true_eq]
    intro c m
    have : c < 128 := h.2 c m
    exact Nat.lt_of_lt_of_le this (by decide)
  · have := h.1
    simp only [PyData.weight]
    unfold Str.length at this; omega
theorem oks : ∀ xs : List A, (∀ x ∈ xs, Ok D W x) → ∃ ds, pyds xs = some ds ∧ ds.length = xs.length ∧ Sms D ((W + 1) * xs.length) ds
  | [], _ => ⟨[], rfl, rfl, rfl, rfl, by simp [PyData.depthAll], by simp [PyData.weightAll]⟩
  | x :: xs, h => by
    obtain ⟨ds, h1, hl, h2, h3, h4, h5⟩ := oks xs fun y m => h y (by simp [m])
    obtain ⟨d, k1, k2, k3, k4, k5⟩ := h x (by simp)
    refine ⟨d :: ds, by simp only [pyds, k1, h1], by simp [hl], ?_, ?_, ?_, ?_⟩
    · simp only [PyData.leavesShortAll, k2, h2, Bool.and_self]
    · simp only [PyData.showableAll, k3, h3, Bool.and_self]
    · simp only [PyData.depthAll]; omega
    · simp only [PyData.weightAll, List.length_cons, Nat.mul_succ]; omega
theorem Ok.tup {xs : List A} {L : Nat} (h : ∀ x ∈ xs, Ok D W x) (hl : xs.length ≤ L) (hW : (W + 1) * L + 2 ≤ W') (hD : D + 1 ≤ D') : Ok D' W' (.tup xs) := by
  obtain ⟨ds, h1, _, h2, h3, h4, h5⟩ := oks xs h
  have hm : (W + 1) * xs.length ≤ (W + 1) * L := Nat.mul_le_mul_left _ hl
  refine ⟨.tuple ds, by simp only [pyd, h1, Option.map_some], ?_, ?_, ?_, ?_⟩
  · simpa only [PyData.leavesShort] using h2
  · simpa only [PyData.showable] using h3
  · simp only [PyData.depth]; omega
  · simp only [PyData.weight]; (try split) <;> omega
theorem Ok.fro {xs : List A} {L : Nat} (h : ∀ x ∈ xs, Ok D W x) (hl : xs.length ≤ L) (hW : (W + 1) * L + 2 ≤ W') (hD : D + 1 ≤ D') : Ok D' W' (.fro xs) := by
  obtain ⟨ds, h1, _, h2, h3, h4, h5⟩ := oks xs h
  have hm : (W + 1) * xs.length ≤ (W + 1) * L := Nat.mul_le_mul_left _ hl
  refine ⟨.list ds, by simp only [pyd, h1, Option.map_some], ?_, ?_, ?_, ?_⟩
  · simpa only [PyData.leavesShort] using h2
  · simpa only [PyData.showable] using h3
  · simp only [PyData.depth]; omega
  · simp only [PyData.weight]; (try split) <;> omega
theorem Ok.fdc0 (hD : 1 ≤ D) (hW : 2 ≤ W) : Ok D W (.fdc [] []) := ⟨.dict [], rfl, rfl, rfl, by show 1 ≤ D; exact hD, by simp [PyData.weight, PyData.weightKv]⟩
end
section
variable {G : Gp} {a : A} {Q : KA} {X : KX} {d : PyData} {D W : Nat}
theorem Sm.short (h : Sm D W d) (hW : W ≤ 50000) : d.shown.length ≤ sizeLine := by
  have := PyData.shown_le 300 (by decide) d h.1
  have hz : sizeLine = 16777216 := by decide
  have := h.2.2.2
  omega
theorem repr_ok (e : pyd a = some d) (s : Sm D W d) (hD : D ≤ 60) (hW : W ≤ 50000) (q : Q (.str d.shown) G) : reprA [a] G Q :=
  ⟨a, d, rfl, .of e, s.2.1, s.short hW, Nat.le_trans s.2.2.1 hD, q⟩
theorem alike_ok {FT : FTab} {n : Nat} (hF : FT (Str.ofString "_law_alike") = some ⟨2, 2, tk_alike⟩) {x y : A} (hx : Dt G x d) (hy : Dt G y d) (s : Sm D W d) (hD : D ≤ 60) (hW : W ≤ 50000) (hs : SeqAt.shaped d = true) (he : PyData.eqv d d = true)
    (q : Q (.bl true) G) : runF FT (n + 1) "_law_alike" [x, y] G Q X := by
  refine ⟨_, hF, rfl, ?_⟩
  show tk_alike (runF FT n) _ [some x, some y] G
  refine seq_i fun R _ => ?_
  simp only [sRet, eAnd, eBin, eBi, eVar, lCons, lNil, List.getElem?_cons_zero, List.getElem?_cons_succ]
  refine .inl ⟨d, d, hx, hy, hs, hs, ?_⟩
  rw [he]
  simp only [Bool.false_eq_true, if_false, truA, if_true]
  refine ⟨x, d, rfl, hx, s.2.1, s.short hW, Nat.le_trans s.2.2.1 hD, y, d, rfl, hy, s.2.1, s.short hW, Nat.le_trans s.2.2.1 hD, ?_⟩
  show eqA false (.str d.shown) (.str d.shown) G Q
  rw [eqStr]
  simpa using q
/-- a for, by an invariant of the turn -/
theorem for_ix {g : GA} {tb : SA} {chk : Gp → Prop} {D : Fl} (I : Nat → En → Gp → Prop) (hc : ∀ k ς G, I k ς G → chk G) : ∀ (xs : List A) (k : Nat) (ς : En) (G : Gp),
    (∀ j x, xs[j]? = some x → ∀ ς G, I (k + j) ς G → ∀ D' : Fl, (∀ ς' G', I (k + j + 1) ς' G' → D'.nx ς' G') → (∀ ς' G', I (k + j + 1) ς' G' → D'.ct ς' G') → D'.rt = D.rt → D'.ex = D.ex → D'.bk = D.nx → g x ς G fun ς2 G2 => tb D' ς2 G2) →
    I k ς G → (∀ ς' G', I (k + xs.length) ς' G' → D.nx ς' G') → forR g tb chk xs D ς G
  | [], k, ς, G, _, h, q => ⟨hc _ _ _ h, q _ _ h⟩
  | x :: xs, k, ς, G, st, h, q => by
    refine ⟨hc _ _ _ h, ?_⟩
    have nx : ∀ ς' G', I (k + 1) ς' G' → forR g tb chk xs D ς' G' := fun ς' G' i => for_ix I hc xs (k + 1) ς' G'
      (fun j y m ς G a D' b c => st (j + 1) y (by simpa using m) ς G (by simpa only [Nat.add_assoc, Nat.add_comm 1] using a) D' (fun ς2 G2 z => b ς2 G2 (by simpa only [Nat.add_assoc, Nat.add_comm 1] using z)) (fun ς2 G2 z => c ς2 G2 (by simpa only [Nat.add_assoc, Nat.add_comm 1] using z))) i
      (fun ς2 G2 z => q ς2 G2 (by simpa only [List.length_cons, Nat.add_assoc, Nat.add_comm 1] using z))
    exact st 0 x rfl ς G h _ nx nx rfl rfl rfl
theorem all_take {f : A → Bool} {r : List A} {k : Nat} {y : A} (h : r[k]? = some y) : (r.take (k + 1)).all f = ((r.take k).all f && f y) := by
  rw [List.take_add_one, h]
  simp [List.all_append]
end
end Q
/-! Y6: a row in a drawn order. -/
namespace Q
open PySem PySem.Spec PyProof.Rows
def tk_mixed (c : Cal) : SA := (sSeq (sSet (eLst true lNil) (gNm 2))
  (sSeq (sFor (iSeq (eVar 1)) (gNm 3) (sSeq (sEx (eM "list" insertA (eVar 2) (lCons (eCall c "_law_take" (lCons (eVar 0) (lCons (eBin (addA false) (eBi lenD (lCons (eVar 2) lNil)) (eC (.int 1))) lNil))) (lCons (eVar 3) lNil))))
  sNx))
  (sSeq (sRet (eVar 2))
  sNx)))
theorem rm_comm {p b : Addr} {G : Gp} : rm b (rm p G) = rm p (rm b G) := by
  funext a
  by_cases h1 : a = b
  · subst h1
    by_cases h2 : a = p
    · subst h2; rfl
    · rw [rm_self, rm_ne h2, rm_self]
  · by_cases h2 : a = p
    · subst h2; rw [rm_ne h1, rm_self, rm_self]
    · rw [rm_ne h1, rm_ne h2, rm_ne h2, rm_ne h1]
theorem perm_ins {α : Type} (xs : List α) (i : Nat) (y : α) : (xs.take i ++ [y] ++ xs.drop i).Perm (xs ++ [y]) := by
  have h1 : (xs.take i ++ [y] ++ xs.drop i).Perm (xs.take i ++ (xs.drop i ++ [y])) := by
    rw [List.append_assoc]
    exact List.Perm.append_left _ List.perm_append_comm
  rwa [← List.append_assoc, List.take_append_drop] at h1
/-- what stays: all but the bag and a list of one's own -/
def Own (b p : Addr) (G0 G : Gp) : Prop := rm b (rm p G) = rm b G0
theorem Own.up {b p : Addr} {G0 G : Gp} {o : O} (h : Own b p G0 G) : Own b p G0 (up G p o) := by unfold Own; rw [rm_up]; exact h
theorem Own.take {b p : Addr} {G0 G G' : Gp} (h : Own b p G0 G) (r : rm b G' = rm b G) : Own b p G0 G' := by
  unfold Own at *
  rw [rm_comm, r, ← rm_comm]; exact h
theorem Own.new {b p : Addr} {G0 : Gp} {o : O} (h : G0 p = none) : Own b p G0 (Q.up G0 p o) := by unfold Own; rw [rm_new h]
theorem mixed_ok {FT : FTab} {n : Nat} {b : Addr} {P : Int} {G : Gp} {xs : List A} {Q : KA} {X : KX} (hT : FT (Str.ofString "_law_take") = some ⟨2, 7, tk_take⟩) (hM : FT (Str.ofString "_law_mixed") = some ⟨2, 4, tk_mixed⟩) (B : Bag b P G) (hP : P + 1000 ≤ 2 ^ 60) (hl : xs.length ≤ 1000)
    (q : ∀ ys G', ys.Perm xs → Bag b (P + xs.length) G' → rm b G' = rm b G → Q (.fro ys) G') : runF FT (n + 2) "_law_mixed" [.ref b, .fro xs] G Q X := by
  have hz : sizeLine = 16777216 := by decide
  refine ⟨_, hM, rfl, ?_⟩
  show tk_mixed (runF FT (n + 1)) _ [some (.ref b), some (.fro xs), none, none] G
  refine seq_i fun R hR => ?_
  simp only [sSet, eLst, lNil, gNm, new_t, List.set_cons_zero, List.set_cons_succ]
  refine ⟨by simp, fun p hp => hR _ _ ?_⟩
  have pb : p ≠ b := B.ne hp
  clear hR R
  refine seq_f fun R hR => ?_
  simp only [sFor, iSeq, eVar, itOf, List.getElem?_cons_zero, List.getElem?_cons_succ]
  refine for_ix (fun k ς G' => ∃ acc x, ς = [some (.ref b), some (.fro xs), some (.ref p), x] ∧ G' p = some (.lst acc) ∧ acc.Perm (xs.take k) ∧ Bag b (P + k) G' ∧ Own b p G G') (fun _ _ _ _ => trivial) xs 0 _ _ ?_ ⟨[], none, rfl, up_same, by simp, by simpa using B.new pb, Own.new hp⟩ ?_
  · rintro k y my ς G2 ⟨acc, x, rfl, g2, pm, B2, o2⟩ D' nx _ rt ex _
    simp only [Nat.zero_add] at g2 pm B2 o2 nx ⊢
    have hk : k < xs.length := (List.getElem?_eq_some_iff.mp my).1
    have la : acc.length = k := by rw [pm.length_eq, List.length_take]; omega
    simp only [gNm, List.set_cons_zero, List.set_cons_succ]
    refine seq_i fun R5 h5 => ?_
    simp only [sEx, eM, tyA, g2, eVar, eCall, eBin, eBi, eC, lCons, lNil, List.getElem?_cons_zero, List.getElem?_cons_succ, len_ref g2, addA]
    refine ⟨by simp, take_ok hT B2 (by omega) (by omega) (by omega) fun d G3 d0 d1 B3 r3 => ?_⟩
    have g3 : G3 p = some (.lst acc) := (keep r3 pb).trans g2
    refine ⟨p, acc, d, y, rfl, rfl, g3, by omega, d0, by omega, h5 _ _ (nx _ _ ⟨_, some y, rfl, up_same, ?_, ?_, (o2.take r3).up⟩)⟩
    · rw [List.take_add_one, my]
      exact (perm_ins acc _ y).trans (pm.append_right _)
    · exact (B3.new pb).more (by omega)
  · rintro ς G2 ⟨acc, x, rfl, g2, pm, B2, o2⟩
    simp only [Nat.zero_add, List.take_length] at g2 pm B2 o2
    refine hR _ _ (.frz 2 p (.lst acc) rfl g2 (.done ?_))
    refine seq_i fun R6 _ => ?_
    simp only [sRet, eVar, List.set_cons_zero, List.set_cons_succ, List.getElem?_cons_zero, List.getElem?_cons_succ]
    exact q acc _ pm (B2.same (rm_ne (Ne.symm pb))) o2
end Q
/-! Y7: comprehensions by an invariant of the turn; dicts that print; data without dicts. -/
namespace Q
open PySem PySem.Spec PyProof.Rows
/-- a list comprehension by an invariant of the turn -/
theorem lc_ix {g : GA} {tt : BA} {te : EA} {vs : List Nat} {chk : Gp → Prop} {Qf : List A → Gp → Prop} {ς : En} (I : Nat → List A → Gp → Prop) (hc : ∀ k acc G, I k acc G → chk G) : ∀ (xs : List A) (k : Nat) (acc : List A) (G : Gp),
    (∀ j x, xs[j]? = some x → ∀ acc G, I (k + j) acc G → ∀ N : List A → Gp → Prop, (∀ acc' G', I (k + j + 1) acc' G' → N acc' G') → g x (wipeA ς vs) G fun ς2 G2 => tt ς2 G2 (fun b G3 => if b = true then te ς2 G3 (fun y G4 => acc.length < sizeLine ∧ N (acc ++ [y]) G4) (fun _ _ => False) else N acc G3) (fun _ _ => False)) →
    I k acc G → (∀ acc' G', I (k + xs.length) acc' G' → Qf acc' G') → lcR g tt te vs chk Qf xs acc ς G
  | [], k, acc, G, _, h, q => ⟨hc _ _ _ h, q _ _ h⟩
  | x :: xs, k, acc, G, st, h, q => by
    refine ⟨hc _ _ _ h, ?_⟩
    refine st 0 x rfl acc G h (fun acc' G' => lcR g tt te vs chk Qf xs acc' ς G') fun acc' G' i => lc_ix I hc xs (k + 1) acc' G'
      (fun j y m acc G a N b => st (j + 1) y (by simpa using m) acc G (by simpa only [Nat.add_assoc, Nat.add_comm 1] using a) N (fun acc2 G2 z => b acc2 G2 (by simpa only [Nat.add_assoc, Nat.add_comm 1] using z))) i
      (fun acc2 G2 z => q acc2 G2 (by simpa only [List.length_cons, Nat.add_assoc, Nat.add_comm 1] using z))
/-- a dict comprehension by an invariant of the turn -/
theorem dc_ix {g : GA} {tt : BA} {tk tv : EA} {vs : List Nat} {chk : Gp → Prop} {Qf : List (A × A) → Gp → Prop} {ς : En} (I : Nat → List (A × A) → Gp → Prop) (hc : ∀ k acc G, I k acc G → chk G) : ∀ (xs : List A) (k : Nat) (acc : List (A × A)) (G : Gp),
    (∀ j x, xs[j]? = some x → ∀ acc G, I (k + j) acc G → ∀ N : List (A × A) → Gp → Prop, (∀ acc' G', I (k + j + 1) acc' G' → N acc' G') →
      g x (wipeA ς vs) G fun ς2 G2 => tt ς2 G2 (fun b G3 => if b = true then tk ς2 G3 (fun y G4 => tv ς2 G4 (fun z G5 => keyOk y acc = true ∧ acc.length < sizeLine ∧ N (putA acc y z) G5) (fun _ _ => False)) (fun _ _ => False) else N acc G3) (fun _ _ => False)) →
    I k acc G → (∀ acc' G', I (k + xs.length) acc' G' → Qf acc' G') → dcR g tt tk tv vs chk Qf xs acc ς G
  | [], k, acc, G, _, h, q => ⟨hc _ _ _ h, q _ _ h⟩
  | x :: xs, k, acc, G, st, h, q => by
    refine ⟨hc _ _ _ h, ?_⟩
    refine st 0 x rfl acc G h (fun acc' G' => dcR g tt tk tv vs chk Qf xs acc' ς G') fun acc' G' i => dc_ix I hc xs (k + 1) acc' G'
      (fun j y m acc G a N b => st (j + 1) y (by simpa using m) acc G (by simpa only [Nat.add_assoc, Nat.add_comm 1] using a) N (fun acc2 G2 z => b acc2 G2 (by simpa only [Nat.add_assoc, Nat.add_comm 1] using z))) i
      (fun acc2 G2 z => q acc2 G2 (by simpa only [List.length_cons, Nat.add_assoc, Nat.add_comm 1] using z))
/-- a dict as a tree -/
def dtr (kvs : List (A × A)) : A := .fdc (kvs.map (·.1)) (kvs.map (·.2))
theorem frz_d {kvs : List (A × A)} : frz (.dct kvs) = dtr kvs := rfl
theorem dct_dtr {G : Gp} {kvs : List (A × A)} : dctOf G (dtr kvs) = some kvs := by
  show some _ = some _
  rw [zip_maps]
theorem dct_ref {G : Gp} {p : Addr} {kvs : List (A × A)} (h : G p = some (.dct kvs)) : dctOf G (.ref p) = some kvs := by simp only [dctOf, h]
theorem dct_lst {G : Gp} {p : Addr} {xs : List A} (h : G p = some (.lst xs)) : dctOf G (.ref p) = none := by simp only [dctOf, h]
section
variable {D W D' W' : Nat}
theorem oks_kv : ∀ {ks vs : List A} {cs ds : List PyData}, pyds ks = some cs → pyds vs = some ds → ks.length = vs.length → (∀ x ∈ ks, Ok D W x) → (∀ x ∈ vs, Ok D W x) →
    PyData.leavesShortKv 300 (cs.zip ds) = true ∧ PyData.showableKv (cs.zip ds) = true ∧ PyData.depthKv (cs.zip ds) ≤ D ∧ PyData.weightKv (cs.zip ds) ≤ (2 * W + 2) * ks.length
  | [], [], cs, ds, h1, h2, _, _, _ => by
    simp only [pyds, Option.some.injEq] at h1; subst h1
    exact ⟨rfl, rfl, by simp [PyData.depthKv], by simp [PyData.weightKv]⟩
  | k :: ks, v :: vs, cs, ds, h1, h2, hl, hk, hv => by
    obtain ⟨c, e1, s1⟩ := hk k (by simp)
    obtain ⟨d, e2, s2⟩ := hv v (by simp)
    simp only [pyds, e1] at h1
    simp only [pyds, e2] at h2
    cases q1 : pyds ks with
    | none => rw [q1] at h1; cases h1
    | some cs' =>
      cases q2 : pyds vs with
      | none => rw [q2] at h2; cases h2
      | some ds' =>
        rw [q1] at h1; rw [q2] at h2
        cases h1; cases h2
        obtain ⟨a1, a2, a3, a4⟩ := oks_kv q1 q2 (by simpa using hl) (fun x m => hk x (by simp [m])) (fun x m => hv x (by simp [m]))
        obtain ⟨b1, b2, b3, b4⟩ := s1
        obtain ⟨c1, c2, c3, c4⟩ := s2
        refine ⟨?_, ?_, ?_, ?_⟩
        · simp only [List.zip_cons_cons, PyData.leavesShortKv, b1, c1, a1, Bool.and_self]
        · simp only [List.zip_cons_cons, PyData.showableKv, b2, c2, a2, Bool.and_self]
        · simp only [List.zip_cons_cons, PyData.depthKv]; omega
        · simp only [List.zip_cons_cons, PyData.weightKv, List.length_cons, Nat.mul_succ]; omega
  | [], _ :: _, _, _, _, _, h, _, _ => by simp at h
  | _ :: _, [], _, _, _, _, h, _, _ => by simp at h
theorem Ok.dtr {kvs : List (A × A)} {L : Nat} (h : ∀ p ∈ kvs, Ok D W p.1 ∧ Ok D W p.2) (hl : kvs.length ≤ L) (hW : (2 * W + 2) * L ≤ W') (hD : D + 1 ≤ D') : Ok D' W' (dtr kvs) := by
  have hk : ∀ x ∈ kvs.map (·.1), Ok D W x := fun x m => by obtain ⟨p, mp, rfl⟩ := List.mem_map.mp m; exact (h p mp).1
  have hv : ∀ x ∈ kvs.map (·.2), Ok D W x := fun x m => by obtain ⟨p, mp, rfl⟩ := List.mem_map.mp m; exact (h p mp).2
  obtain ⟨cs, h1, _, _⟩ := oks _ hk
  obtain ⟨ds, h2, _, _⟩ := oks _ hv
  obtain ⟨a1, a2, a3, a4⟩ := oks_kv h1 h2 (by simp) hk hv
  have hm : (2 * W + 2) * (kvs.map (·.1)).length ≤ (2 * W + 2) * L := Nat.mul_le_mul_left _ (by simpa using hl)
  refine ⟨.dict (cs.zip ds), by simp only [Q.dtr, pyd, h1, h2, List.length_map, if_true], ?_, ?_, ?_, ?_⟩
  · simpa only [PyData.leavesShort] using a1
  · simpa only [PyData.showable] using a2
  · simp only [PyData.depth]; omega
  · simp only [PyData.weight]; omega
end
/-! data without dicts -/
/-- a datum without dicts, of texts that may be -/
def Pl (d : PyData) : Prop := PySem.W.alike d d = true ∧ d.canLay0 = true
def Pls (ds : List PyData) : Prop := PySem.W.alikeAll ds ds = true ∧ PyData.canLayAll0 ds = true
/-- a tree that prints, not long, without dicts -/
def Okp (D W : Nat) (a : A) : Prop := ∃ d, pyd a = some d ∧ Sm D W d ∧ Pl d
section
variable {D W D' W' : Nat}
theorem Okp.ok {a : A} (h : Okp D W a) : Ok D W a := let ⟨d, e, s, _⟩ := h; ⟨d, e, s⟩
theorem Okp.more {a : A} (h : Okp D W a) (l : D ≤ D') (k : W ≤ W') : Okp D' W' a := let ⟨d, e, s, z⟩ := h; ⟨d, e, s.more l k, z⟩
theorem Okp.non : Okp D (W + 1) .non := let ⟨d, e, s⟩ := Ok.non; ⟨d, e, s, by cases e; exact ⟨rfl, rfl⟩⟩
theorem Okp.bl {b : Bool} : Okp D (W + 1) (.bl b) := let ⟨d, e, s⟩ := Ok.bl; ⟨d, e, s, by cases e; exact ⟨rfl, rfl⟩⟩
theorem Okp.int {i : Int} (h : i.natAbs < 10 ^ 62) : Okp D (W + 207) (.int i) := let ⟨d, e, s⟩ := Ok.int h; ⟨d, e, s, by cases e; exact ⟨rfl, rfl⟩⟩
theorem lay_str {z : Str} {L : Nat} (h : Cs asc L z) : (PyData.str z).canLay0 = true := by
  simp only [PyData.canLay0, PyData.strOk, Array.all_eq_true_iff_forall_mem, decide_eq_true_eq]
  intro c m
  have : c < 128 := h.2 c (by simpa using m)
  omega
theorem Okp.str {z : Str} {L : Nat} (h : Cs asc L z) (hL : L + 1 ≤ W) : Okp D W (.str z) := let ⟨d, e, s⟩ := Ok.str h hL; ⟨d, e, s, by cases e; exact ⟨rfl, lay_str h⟩⟩
theorem okps : ∀ {xs : List A} {ds : List PyData}, pyds xs = some ds → (∀ x ∈ xs, Okp D W x) → Pls ds
  | [], ds, h, _ => by simp only [pyds, Option.some.injEq] at h; subst h; exact ⟨rfl, rfl⟩
  | x :: xs, ds, h, hx => by
    obtain ⟨d, e, _, z⟩ := hx x (by simp)
    simp only [pyds, e] at h
    cases q : pyds xs with
    | none => rw [q] at h; cases h
    | some ds' =>
      rw [q] at h; cases h
      obtain ⟨z1, z2⟩ := okps q fun y m => hx y (by simp [m])
      exact ⟨by simp only [PySem.W.alikeAll, z.1, z1, Bool.and_self], by simp only [PyData.canLayAll0, z.2, z2, Bool.and_self]⟩
theorem Okp.tup {xs : List A} {L : Nat} (h : ∀ x ∈ xs, Okp D W x) (hl : xs.length ≤ L) (hW : (W + 1) * L + 2 ≤ W') (hD : D + 1 ≤ D') : Okp D' W' (.tup xs) := by
  obtain ⟨d, e, s⟩ := Ok.tup (fun x m => (h x m).ok) hl hW hD
  refine ⟨d, e, s, ?_⟩
  simp only [pyd, Option.map_eq_some_iff] at e
  obtain ⟨ds, e1, rfl⟩ := e
  obtain ⟨z1, z2⟩ := okps e1 h
  exact ⟨by simpa only [PySem.W.alike] using z1, by simpa only [PyData.canLay0] using z2⟩
theorem Okp.fro {xs : List A} {L : Nat} (h : ∀ x ∈ xs, Okp D W x) (hl : xs.length ≤ L) (hW : (W + 1) * L + 2 ≤ W') (hD : D + 1 ≤ D') : Okp D' W' (.fro xs) := by
  obtain ⟨d, e, s⟩ := Ok.fro (fun x m => (h x m).ok) hl hW hD
  refine ⟨d, e, s, ?_⟩
  simp only [pyd, Option.map_eq_some_iff] at e
  obtain ⟨ds, e1, rfl⟩ := e
  obtain ⟨z1, z2⟩ := okps e1 h
  exact ⟨by simpa only [PySem.W.alike] using z1, by simpa only [PyData.canLay0] using z2⟩
end
/-- two values of the same data, without dicts -/
theorem alike_ok2 {FT : FTab} {n : Nat} {G : Gp} {Q : KA} {X : KX} {d : PyData} {D W : Nat} (hF : FT (Str.ofString "_law_alike") = some ⟨2, 2, tk_alike⟩) {x y : A} (hx : Dt G x d) (hy : Dt G y d) (s : Sm D W d) (hD : D ≤ 60) (hW : W ≤ 50000) (al : Pl d)
    (q : Q (.bl true) G) : runF FT (n + 1) "_law_alike" [x, y] G Q X := by
  refine alike_ok hF hx hy s hD hW ?_ (PySem.W.eqv_refl_alike d al.1) q
  unfold SeqAt.shaped
  rw [al.2, decide_eq_true (Nat.le_trans s.2.2.1 (by omega))]; rfl
/-! what is sorted -/
theorem srt_strs {zs : List Str} (hl : zs.length ≤ sizeLine) : SrtOk (zs.map A.str) := by
  have md : ∀ d ∈ (zs.map A.str).map dOf, ∃ z, d = .str z := fun d m => by
    simp only [List.map_map, List.mem_map] at m
    obtain ⟨z, _, rfl⟩ := m
    exact ⟨z, rfl⟩
  refine ⟨fun x m => ?_, fun d m e n => ?_, .inr fun d m => ?_, fun x m => ?_, by simpa using hl⟩
  · obtain ⟨z, _, rfl⟩ := List.mem_map.mp m; rfl
  · obtain ⟨z, rfl⟩ := md d m
    obtain ⟨z', rfl⟩ := md e n
    rfl
  · obtain ⟨z, rfl⟩ := md d m
    exact ⟨by simp, by simp⟩
  · obtain ⟨z, _, rfl⟩ := List.mem_map.mp m
    exact Nat.zero_le _
theorem srt_mem {xs : List A} {x : A} : x ∈ srt xs ↔ x ∈ xs := (List.mergeSort_perm xs aLe).mem_iff
theorem srt_len {xs : List A} : (srt xs).length = xs.length := List.length_mergeSort ..
end Q
/-! Y8: atoms: their rows, changes, the three functions. -/
namespace Q
open PySem PySem.Spec PyProof.Rows
abbrev Key := L2.Key
/-- a term: a constant, a word -/
def Tm : Key → Prop
  | .inl i => 0 ≤ i ∧ i.natAbs < 10 ^ 62
  | .inr z => Wd z
theorem wd_asc {z : Str} (h : Wd z) : Cs asc 8 z := h.1.imp fun _ => low_asc
theorem tm_ok {k : Key} (h : Tm k) : Okp 0 207 (keyA k) := by
  cases k with
  | inl i => exact Okp.int (W := 0) h.2
  | inr z => exact Okp.str (wd_asc h) (by decide)
theorem keyA_int {i : Int} : keyA (.inl i) = .int i := rfl
theorem keyA_str {z : Str} : keyA (.inr z) = .str z := rfl
/-- an atom's row -/
def arow (w : Str) (ks : List Key) : A := .tup (.str w :: ks.map keyA)
theorem arow_ok {w : Str} {ks : List Key} {L : Nat} (hw : Wd w) (hk : ∀ k ∈ ks, Tm k) (hl : ks.length ≤ L) : Okp 1 (208 * (L + 1) + 2) (arow w ks) := by
  refine Okp.tup (D := 0) (W := 207) (L := L + 1) (fun x m => ?_) (by simpa using hl) (by omega) (by decide)
  rcases List.mem_cons.mp m with rfl | m
  · exact Okp.str (wd_asc hw) (by decide)
  · obtain ⟨k, mk, rfl⟩ := List.mem_map.mp m
    exact tm_ok (hk k mk)
/-- changes: words to terms -/
def Chg (kvs : List (A × A)) : Prop := ∀ p ∈ kvs, ∃ z k, p = (.str z, keyA k) ∧ Wd z ∧ Tm k
theorem valA_cons {p : A × A} {kvs : List (A × A)} {k : A} : valA (p :: kvs) k = if p.1 = k then some p.2 else valA kvs k := by
  unfold valA
  by_cases h : p.1 = k <;> simp [List.find?_cons, h]
theorem chg_key {kvs : List (A × A)} (h : Chg kvs) (k : Key) : keyOk (keyA k) kvs = true := by
  have a : (kvs.all fun p => (isK p.1).isSome) = true := by
    rw [List.all_eq_true]
    intro p m
    obtain ⟨z, k, rfl, _⟩ := h p m
    rfl
  cases k <;> simp only [keyA, keyOk, isK, Option.isSome_some, Bool.true_and] <;> exact a
theorem chg_int {kvs : List (A × A)} (h : Chg kvs) (i : Int) : valA kvs (.int i) = none := by
  induction kvs with
  | nil => rfl
  | cons p kvs ih =>
    obtain ⟨z, k, rfl, _⟩ := h p (by simp)
    rw [valA_cons, if_neg (by simp), ih fun q m => h q (by simp [m])]
theorem chg_val {kvs : List (A × A)} (h : Chg kvs) {k x : A} (e : valA kvs k = some x) : ∃ t, x = keyA t ∧ Tm t := by
  induction kvs with
  | nil => cases e
  | cons p kvs ih =>
    obtain ⟨z, t, rfl, _, ht⟩ := h p (by simp)
    rw [valA_cons] at e
    split at e
    · cases e; exact ⟨t, rfl, ht⟩
    · exact ih (fun q m => h q (by simp [m])) e
theorem chg_put {kvs : List (A × A)} (h : Chg kvs) {z : Str} {k : Key} (hz : Wd z) (hk : Tm k) : Chg (putA kvs (.str z) (keyA k)) := by
  unfold putA
  split
  · intro p m
    obtain ⟨q, mq, rfl⟩ := List.mem_map.mp m
    obtain ⟨z', k', rfl, h1, h2⟩ := h q mq
    split
    · exact ⟨z', k, rfl, h1, hk⟩
    · exact ⟨z', k', rfl, h1, h2⟩
  · intro p m
    rcases List.mem_append.mp m with m | m
    · exact h p m
    · simp only [List.mem_singleton] at m
      subst m; exact ⟨z, k, rfl, hz, hk⟩
theorem putA_len (kvs : List (A × A)) (k v : A) : (putA kvs k v).length ≤ kvs.length + 1 := by
  unfold putA
  split <;> simp
theorem chg_puts : ∀ {zs : List Str} {ks : List Key} {acc : List (A × A)}, Chg acc → (∀ z ∈ zs, Wd z) → (∀ k ∈ ks, Tm k) → Chg (putsA acc ((zs.map A.str).zip (ks.map keyA))) ∧ (putsA acc ((zs.map A.str).zip (ks.map keyA))).length ≤ acc.length + zs.length
  | [], ks, acc, h, _, _ => ⟨h, by simp [putsA]⟩
  | z :: zs, [], acc, h, _, _ => ⟨h, by simp [putsA]⟩
  | z :: zs, k :: ks, acc, h, hz, hk => by
    obtain ⟨a, b⟩ := chg_puts (zs := zs) (ks := ks) (chg_put h (hz z (by simp)) (hk k (by simp))) (fun y m => hz y (by simp [m])) (fun y m => hk y (by simp [m]))
    refine ⟨a, ?_⟩
    have := putA_len acc (.str z) (keyA k)
    refine Nat.le_trans b ?_
    simp only [List.length_cons]
    omega
theorem chg_ok {kvs : List (A × A)} {L : Nat} (h : Chg kvs) (hl : kvs.length ≤ L) : Ok 1 (416 * L) (dtr kvs) :=
  Ok.dtr (D := 0) (W := 207) (fun p m => by
    obtain ⟨z, k, rfl, h1, h2⟩ := h p m
    exact ⟨Ok.str (wd_asc h1) (by decide), (tm_ok h2).ok⟩) hl (by omega) (by decide)
/-- a term, changed -/
def subA' (kvs : List (A × A)) (k : Key) : A := (valA kvs (keyA k)).getD (keyA k)
theorem sub_key {kvs : List (A × A)} (h : Chg kvs) {k : Key} (hk : Tm k) : ∃ t, subA' kvs k = keyA t ∧ Tm t := by
  unfold subA'
  cases e : valA kvs (keyA k) with
  | none => exact ⟨k, rfl, hk⟩
  | some x => obtain ⟨t, rfl, ht⟩ := chg_val h e; exact ⟨t, rfl, ht⟩
/-- the variables, one each, as they come -/
def vrF (acc : List Str) : Key → List Str
  | .inl _ => acc
  | .inr z => if z ∈ acc then acc else acc ++ [z]
def vrs (ks : List Key) : List Str := ks.foldl vrF []
theorem vrs_take {ks : List Key} {k : Nat} {t : Key} (h : ks[k]? = some t) : vrs (ks.take (k + 1)) = vrF (vrs (ks.take k)) t := by
  unfold vrs
  rw [List.take_add_one, h, List.foldl_append]; rfl
theorem vrs_len : ∀ (ks : List Key) (acc : List Str), (ks.foldl vrF acc).length ≤ acc.length + ks.length
  | [], acc => by simp
  | k :: ks, acc => by
    have h := vrs_len ks (vrF acc k)
    have : (vrF acc k).length ≤ acc.length + 1 := by
      cases k with
      | inl _ => exact Nat.le_succ _
      | inr z => simp only [vrF]; split <;> simp
    simp only [List.foldl_cons, List.length_cons]
    omega
theorem vrs_mem : ∀ (ks : List Key) (acc : List Str) (z : Str), z ∈ ks.foldl vrF acc → z ∈ acc ∨ Sum.inr z ∈ ks
  | [], acc, z, h => .inl h
  | k :: ks, acc, z, h => by
    rcases vrs_mem ks _ z h with h | h
    · cases k with
      | inl _ => exact .inl h
      | inr y =>
        simp only [vrF] at h
        split at h
        · exact .inl h
        · rcases List.mem_append.mp h with h | h
          · exact .inl h
          · simp only [List.mem_singleton] at h; subst h; exact .inr (by simp)
    · exact .inr (by simp [h])
def vkv (ss : List Str) : List (A × A) := ss.map fun z => (.str z, .bl true)
theorem vkv_put (ss : List Str) (z : Str) : putA (vkv ss) (.str z) (.bl true) = vkv (vrF ss (.inr z)) := by
  have e : ((vkv ss).any fun p => decide (p.1 = A.str z)) = decide (z ∈ ss) := by
    unfold vkv
    induction ss with
    | nil => simp
    | cons y ys ih =>
      rw [List.map_cons, List.any_cons, ih]
      by_cases h : y = z
      · subst h; simp
      · simp [h, Ne.symm h, eq_comm]
  unfold putA
  rw [e]
  simp only [vrF]
  by_cases h : z ∈ ss
  · rw [if_pos (by simpa using h), if_pos h]
    unfold vkv
    rw [List.map_map]
    apply List.map_congr_left
    intro y _
    show (if A.str y = A.str z then (A.str y, A.bl true) else (A.str y, A.bl true)) = (A.str y, A.bl true)
    split <;> rfl
  · rw [if_neg (by simpa using h), if_neg h]
    simp [vkv]
theorem vkv_key (ss : List Str) (z : Str) : keyOk (.str z) (vkv ss) = true := by
  simp only [keyOk, isK, Option.isSome_some, Bool.true_and, List.all_eq_true]
  intro p m
  obtain ⟨y, _, rfl⟩ := List.mem_map.mp m
  rfl
theorem vkv_keys (ss : List Str) : (vkv ss).map (·.1) = ss.map A.str := by
  unfold vkv; rw [List.map_map]; rfl
/-! ### the functions -/
def tk_name_of (c : Cal) : SA := (sSeq (sRet (eTup (lCons (eBin ixD (eVar 0) (eC (.int 0))) (lCons (eBin subA (eBi lenD (lCons (eVar 0) lNil)) (eC (.int 1))) lNil))))
  sNx)
def tk_variables_of (m : Bool) (c : Cal) : SA := (sSeq (sRet (eBi (sortA m) (lCons (eDc false (iSeq (eSl false (eVar 0) (oSome (eC (.int 1))) oNo)) (gNm 1) (bV (eIsi (eVar 1) ["str"])) (eVar 1) (eC (.bl true)) [1]) lNil)))
  sNx)
def tk_replaced (c : Cal) : SA := (sSeq (sRet (eBin (addA false) (eTup (lCons (eBin ixD (eVar 0) (eC (.int 0))) lNil)) (eBi tupleA (lCons (eLc false (iSeq (eSl false (eVar 0) (oSome (eC (.int 1))) oNo)) (gNm 2) bYes (eM "dict" getA (eVar 1) (lCons (eVar 2) (lCons (eVar 2) lNil))) [2]) lNil))))
  sNx)
theorem cut1' {α : Type} {x : α} {r : List α} : cutA (x :: r) (some 1) none = r := by
  unfold cutA
  simp only [HT.sIx, List.length_cons]
  rw [if_neg (by omega)]
  have : min (1 : Int).toNat (r.length + 1) = 1 := by simp
  simp
section
variable {FT : FTab} {n : Nat} {G : Gp} {Q : KA} {X : KX} {w : Str} {ks : List Key}
theorem isi_term (k : Key) {ς : En} {i : Nat} (hi : ς[i]? = some (some (keyA k))) {R : A → Gp → Prop} {X : KX} : eIsi (eVar i) ["str"] ς G R X = R (.bl (match k with | .inl _ => false | .inr _ => true)) G := by
  have i1 : isiB "str" ["str"] = true := by decide
  have i2 : isiB "int" ["str"] = false := by decide
  cases k <;> simp only [eIsi, eVar, hi, keyA, tyName, Option.some.injEq, exists_eq_left', i1, i2]
theorem name_of_ok (hF : FT (Str.ofString "name_of") = some ⟨1, 1, tk_name_of⟩) (q : Q (.tup [.str w, .int ks.length]) G) : runF FT (n + 1) "name_of" [arow w ks] G Q X := by
  refine ⟨_, hF, rfl, ?_⟩
  show tk_name_of (runF FT n) _ [some (arow w ks)] G
  refine seq_i fun R _ => ?_
  have e : (((ks.map keyA).length + 1 : Nat) : Int) - 1 = (ks.length : Int) := by simp
  simp only [arow, sRet, eTup, eBin, eBi, eC, eVar, lCons, lNil, subA, intA, List.getElem?_cons_zero, ixD, dctOf, ixA, seqOf, lenD, lenA]
  refine ⟨_, _, rfl, at0, _, rfl, trivial, by show 2 ≤ sizeLine; decide, ?_⟩
  rw [List.length_cons, e]
  exact q
theorem variables_of_ok {m : Bool} (hF : FT (Str.ofString "variables_of") = some ⟨1, 2, tk_variables_of m⟩) (hl : ks.length ≤ 1000) (q : new m (.lst (srt ((vrs ks).map A.str))) G Q) : runF FT (n + 1) "variables_of" [arow w ks] G Q X := by
  refine ⟨_, hF, rfl, ?_⟩
  show tk_variables_of m (runF FT n) _ [some (arow w ks), none] G
  refine seq_i fun R _ => ?_
  have hz : sizeLine = 16777216 := by decide
  simp only [arow, sRet, eBi, lCons, lNil, eDc, iSeq, eSl, oNo, oSome, eC, eVar, slA, itOf, List.getElem?_cons_zero, cut1', new_f, frz_d]
  refine dc_ix (fun k acc G' => G' = G ∧ acc = vkv (vrs (ks.take k))) (fun _ _ _ _ => trivial) _ 0 _ _ ?_ ⟨rfl, rfl⟩ ?_
  · rintro j x mx acc G' ⟨rfl, rfl⟩ N nx
    rw [List.getElem?_map] at mx
    obtain ⟨k, mk, rfl⟩ := Option.map_eq_some_iff.mp mx
    simp only [Nat.zero_add] at nx ⊢
    have lv := vrs_len (ks.take j) []
    have hj : j < ks.length := (List.getElem?_eq_some_iff.mp mk).1
    have ll : (vkv (vrs (ks.take j))).length < sizeLine := by
      simp only [vkv, List.length_map]
      simp only [List.length_nil, List.length_take] at lv
      show (List.foldl vrF [] (List.take j ks)).length < _
      omega
    simp only [gNm, wipeA, bV, List.set_cons_zero, List.set_cons_succ]
    rw [isi_term k (i := 1) rfl]
    have e := vrs_take mk
    cases k with
    | inl i =>
      simp only [truA, Bool.false_eq_true, if_false]
      exact nx _ _ ⟨rfl, by rw [e]; rfl⟩
    | inr z =>
      simp only [truA, if_true, eVar, eC, keyA, List.getElem?_cons_zero, List.getElem?_cons_succ]
      exact ⟨vkv_key _ _, ll, nx _ _ ⟨rfl, by rw [e, vkv_put]⟩⟩
  · rintro acc G' ⟨rfl, rfl⟩
    simp only [Nat.zero_add, List.length_map, List.take_length]
    refine ⟨_, (vkv (vrs ks)).map (·.1), rfl, by simp only [itmOf, dct_dtr], ?_, by rw [vkv_keys]; exact q⟩
    rw [vkv_keys]
    refine srt_strs ?_
    have := vrs_len ks []
    simp only [List.length_nil] at this
    show (List.foldl vrF [] ks).length ≤ _
    omega
theorem replaced_ok {kvs : List (A × A)} {d : A} (hF : FT (Str.ofString "replaced") = some ⟨2, 3, tk_replaced⟩) (hd : ∃ k v, d = .fdc k v) (e : ∀ G, dctOf G d = some kvs) (hk : ∀ k ∈ ks, keyOk (keyA k) kvs = true) (hl : ks.length ≤ 1000) (q : Q (.tup (.str w :: ks.map (subA' kvs))) G) :
    runF FT (n + 1) "replaced" [arow w ks, d] G Q X := by
  refine ⟨_, hF, rfl, ?_⟩
  show tk_replaced (runF FT n) _ [some (arow w ks), some d, none] G
  refine seq_i fun R _ => ?_
  have hz : sizeLine = 16777216 := by decide
  obtain ⟨dk, dv, rfl⟩ := hd
  simp only [arow, sRet, eBin, eBi, eTup, lCons, lNil, eLc, iSeq, eSl, oNo, oSome, eC, eVar, slA, itOf, List.getElem?_cons_zero, List.getElem?_cons_succ, cut1', new_f, frz_l, ixTup, atK, at0]
  refine ⟨by show 1 ≤ sizeLine; decide, ?_⟩
  refine lc_map (f := fun x => (valA kvs x).getD x) trivial _ [] ?_ (by simp; omega) ?_
  · intro x mx Q' q'
    obtain ⟨k, mk, rfl⟩ := List.mem_map.mp mx
    simp only [wipeA, eM, tyA, eVar, lCons, lNil, getA, e, List.set_cons_zero, List.set_cons_succ, List.getElem?_cons_zero, List.getElem?_cons_succ]
    exact ⟨trivial, hk k mk, q'⟩
  · rw [tupleA_fro]
    simp only [addA, List.nil_append, List.map_map]
    exact ⟨by simp; omega, q⟩
end
end Q
namespace G
open PySem PySem.Spec PyProof.Rows L2 Q
def top (i : Nat) : Stmt := PySem.Challenge.pw_frozenbodies_k19_atoms_told.main.body.getD i (.Pass ⟨0, 0, 0, 0⟩)
def t_name_of (c : Cal) : SA := (sSeq (sRet (eTup (lCons (eBin ixD (eVar 0) (eC (.int 0))) (lCons (eBin subA (eBi lenD (lCons (eVar 0) lNil)) (eC (.int 1))) lNil))))
  sNx)
def i_name_of : DI := ⟨"name_of", Str.ofString "name_of", top 1, [Str.ofString "atom"], [Str.ofString "atom"]⟩
def t_variables_of (c : Cal) : SA := (sSeq (sRet (eBi (sortA true) (lCons (eDc false (iSeq (eSl false (eVar 0) (oSome (eC (.int 1))) oNo)) (gNm 1) (bV (eIsi (eVar 1) ["str"])) (eVar 1) (eC (.bl true)) [1]) lNil)))
  sNx)
def i_variables_of : DI := ⟨"variables_of", Str.ofString "variables_of", top 2, [Str.ofString "atom", Str.ofString "term"], [Str.ofString "atom"]⟩
def t_replaced (c : Cal) : SA := (sSeq (sRet (eBin (addA false) (eTup (lCons (eBin ixD (eVar 0) (eC (.int 0))) lNil)) (eBi tupleA (lCons (eLc false (iSeq (eSl false (eVar 0) (oSome (eC (.int 1))) oNo)) (gNm 2) bYes (eM "dict" getA (eVar 1) (lCons (eVar 2) (lCons (eVar 2) lNil))) [2]) lNil))))
  sNx)
def i_replaced : DI := ⟨"replaced", Str.ofString "replaced", top 3, [Str.ofString "atom", Str.ofString "changes", Str.ofString "term"], [Str.ofString "atom", Str.ofString "changes"]⟩
def t_bag (c : Cal) : SA := (sSeq (sRet (eLst true (lCons (eC (.int 0)) (lCons (eC (.int 1234567891)) (lCons (eC (.int 0)) (lCons (eLc false (iSeq (eSl false (eVar 0) oNo (oSome (eC (.int 63))))) (gNm 1) bYes (eBi absA (lCons (eVar 1) lNil)) [1]) lNil))))))
  sNx)
def i_bag : DI := ⟨"_law_bag", Str.ofString "_law_bag", top 5, [Str.ofString "_law_script", Str.ofString "_law_cell"], [Str.ofString "_law_script"]⟩
def t_take (c : Cal) : SA := (sSeq (sIf (bB (eBin (eqA false) (eBin ixD (eVar 0) (eC (.int 0))) (eC (.int 0)))) (sSeq (sSet (eC (.int 0)) (gNm 2))
  (sSeq (sIf (bB (eBin ltA (eBin ixD (eVar 0) (eC (.int 2))) (eBi lenD (lCons (eBin ixD (eVar 0) (eC (.int 3))) lNil)))) (sSeq (sSet (eBin ixD (eBin ixD (eVar 0) (eC (.int 3))) (eBin ixD (eVar 0) (eC (.int 2)))) (gNm 2))
  sNx) sNx)
  (sSeq (sAug (eVar 0) (eC (.int 2)) (eC (.int 1)))
  (sSeq (sIf (bB (eBin geA (eVar 2) (eC (.int 1000000000000000000)))) (sSeq (sSet (eVar 2) (gSubD (eVar 0) (eC (.int 0))))
  sNx) sNx)
  (sSeq (sSet (eBin (addA false) (eBin modA (eBi intOfA (lCons (eVar 2) lNil)) (eC (.int 2147483647))) (eBin (mulA false) (eC (.int 7919)) (eBin ixD (eVar 0) (eC (.int 2))))) (gNm 3))
  (sSeq (sSet (eBin modA (eBi intOfA (lCons (eBin (addA false) (eBin (mulA false) (eBin ixD (eVar 0) (eC (.int 1))) (eC (.int 48271))) (eVar 3)) lNil)) (eC (.int 2147483647))) (gSubD (eVar 0) (eC (.int 1))))
  sNx)))))) sNx)
  (sSeq (sIf (bB (eBin gtA (eBin ixD (eVar 0) (eC (.int 0))) (eC (.int 0)))) (sSeq (sSet (eBin modA (eBi intOfA (lCons (eBin ixD (eVar 0) (eC (.int 0))) lNil)) (eVar 1)) (gNm 4))
  (sSeq (sSet (eBin fdivA (eBin ixD (eVar 0) (eC (.int 0))) (eVar 1)) (gSubD (eVar 0) (eC (.int 0))))
  (sSeq (sRet (eVar 4))
  sNx))) sNx)
  (sSeq (sSet (eBin modA (eBi intOfA (lCons (eBin (mulA false) (eBin (addA false) (eBin ixD (eVar 0) (eC (.int 1))) (eC (.int 1))) (eC (.int 39373))) lNil)) (eC (.int 1000000007))) (gNm 5))
  (sSeq (sSet (eBin modA (eBi intOfA (lCons (eBin (mulA false) (eBin modA (eBi intOfA (lCons (eBin (mulA false) (eVar 5) (eVar 5)) lNil)) (eC (.int 998244353))) (eC (.int 30011))) lNil)) (eC (.int 998244353))) (gNm 6))
  (sSeq (sIf (bB (eBin gtA (eVar 1) (eC (.int 1000000)))) (sSeq (sRet (eBin modA (eBi intOfA (lCons (eBin (addA false) (eBin (mulA false) (eVar 6) (eC (.int 1000000007))) (eVar 5)) lNil)) (eVar 1)))
  sNx) sNx)
  (sSeq (sRet (eBin modA (eBi intOfA (lCons (eBin fdivA (eVar 6) (eC (.int 7))) lNil)) (eVar 1)))
  sNx))))))
def i_take : DI := ⟨"_law_take", Str.ofString "_law_take", top 6, [Str.ofString "_law_bag_here", Str.ofString "_law_many", Str.ofString "_law_cell", Str.ofString "_law_more", Str.ofString "_law_drawn", Str.ofString "_law_first", Str.ofString "_law_second"], [Str.ofString "_law_bag_here", Str.ofString "_law_many"]⟩
def t_alike (c : Cal) : SA := (sSeq (sRet (eAnd (eBin (eqA false) (eVar 0) (eVar 1)) (eBin (eqA false) (eBi reprA (lCons (eVar 0) lNil)) (eBi reprA (lCons (eVar 1) lNil)))))
  sNx)
def i_alike : DI := ⟨"_law_alike", Str.ofString "_law_alike", top 7, [Str.ofString "_law_found", Str.ofString "_law_due_here"], [Str.ofString "_law_found", Str.ofString "_law_due_here"]⟩
def t_mixed (c : Cal) : SA := (sSeq (sSet (eLst true lNil) (gNm 2))
  (sSeq (sFor (iSeq (eVar 1)) (gNm 3) (sSeq (sEx (eM "list" insertA (eVar 2) (lCons (eCall c "_law_take" (lCons (eVar 0) (lCons (eBin (addA false) (eBi lenD (lCons (eVar 2) lNil)) (eC (.int 1))) lNil))) (lCons (eVar 3) lNil))))
  sNx))
  (sSeq (sRet (eVar 2))
  sNx)))
def i_mixed : DI := ⟨"_law_mixed", Str.ofString "_law_mixed", top 8, [Str.ofString "_law_bag_here", Str.ofString "_law_some", Str.ofString "_law_found", Str.ofString "_law_one"], [Str.ofString "_law_bag_here", Str.ofString "_law_some"]⟩
def t_labels (c : Cal) : SA := (sSeq (sSet (eC (.str (Str.ofString "abcdefghijklmnopqrstuvwxyz"))) (gNm 2))
  (sSeq (sSet (eM "str" (splitA false) (eC (.str (Str.ofString "a b edge path go put take rule drop back again result facts rules ask why idle bare rounds"))) (lCons (eC (.str (Str.ofString " "))) lNil)) (gNm 3))
  (sSeq (sSet (eBin (addA false) (eVar 3) (eLst false (lCons (eC (.str (Str.ofString "x"))) (lCons (eC (.str (Str.ofString "y"))) (lCons (eC (.str (Str.ofString "va"))) (lCons (eC (.str (Str.ofString "vb"))) (lCons (eC (.str (Str.ofString "wall"))) lNil))))))) (gNm 3))
  (sSeq (sSet (eTup (lCons (eCall c "_law_take" (lCons (eVar 0) (lCons (eC (.int 4)) lNil))) (lCons (eCall c "_law_take" (lCons (eVar 0) (lCons (eC (.int 24)) lNil))) lNil))) (gTup [4, 5]))
  (sSeq (sSet (eM "str" joinA (eC (.str (Str.ofString ""))) (lCons (eLc false (iR1 (eBin (addA false) (eC (.int 1)) (eCall c "_law_take" (lCons (eVar 0) (lCons (eC (.int 7)) lNil))))) (gNm 7) bYes (eBin ixD (eVar 2) (eCall c "_law_take" (lCons (eVar 0) (lCons (eC (.int 26)) lNil)))) [7]) lNil)) (gNm 6))
  (sSeq (sSet (eTup (lCons (eCall c "_law_take" (lCons (eVar 0) (lCons (eBin (addA false) (eBi lenD (lCons (eVar 6) lNil)) (eC (.int 1))) lNil))) (lCons (eBin fdivA (eVar 4) (eC (.int 3))) lNil))) (gTup [8, 9]))
  (sSeq (sIf (bB (eBin (eqA false) (eVar 4) (eC (.int 0)))) (sSeq (sRet (eSl false (eBin (addA false) (eSl false (eVar 3) (oSome (eVar 5)) oNo) (eSl false (eVar 3) oNo (oSome (eVar 5)))) oNo (oSome (eVar 1))))
  sNx) sNx)
  (sSeq (sSet (eLc false (iR1 (eVar 1)) (gNm 7) bYes (eBin (mulA false) (eBin ixD (eVar 2) (eBin modA (eBi intOfA (lCons (eBin (addA false) (eVar 5) (eBin ixD (eLst false (lCons (eBin (mulA false) (eC (.int 3)) (eVar 7)) (lCons (eBin fdivA (eVar 7) (eC (.int 8))) lNil))) (eVar 9))) lNil)) (eC (.int 26)))) (eBin (addA false) (eC (.int 1)) (eBin (mulA false) (eBin modA (eBi intOfA (lCons (eVar 7) lNil)) (eC (.int 8))) (eVar 9)))) [7]) (gNm 10))
  (sSeq (sSet (eBin (mulA false) (eVar 6) (eBi intOfA (lCons (eBin (eqA false) (eVar 4) (eC (.int 2))) lNil))) (gNm 6))
  (sSeq (sRet (eLc false (iR1 (eVar 1)) (gNm 7) bYes (eBin (addA false) (eBin (addA false) (eSl false (eVar 6) oNo (oSome (eVar 8))) (eBin ixD (eVar 10) (eVar 7))) (eSl false (eVar 6) (oSome (eVar 8)) oNo)) [7]))
  sNx))))))))))
def i_labels : DI := ⟨"_law_labels", Str.ofString "_law_labels", top 9, [Str.ofString "_law_bag_here", Str.ofString "_law_many", Str.ofString "_law_letters", Str.ofString "_law_menu", Str.ofString "_law_way", Str.ofString "_law_turn", Str.ofString "_law_stem", Str.ofString "_law_k", Str.ofString "_law_at", Str.ofString "_law_far", Str.ofString "_law_some"], [Str.ofString "_law_bag_here", Str.ofString "_law_many"]⟩
def t_row (c : Cal) : SA := (sSeq (sSet (eLst true (lCons (eBin ixD (eVar 1) (eCall c "_law_take" (lCons (eVar 0) (lCons (eBi lenD (lCons (eVar 1) lNil)) lNil)))) lNil)) (gNm 3))
  (sSeq (sFor (iR1 (eCall c "_law_take" (lCons (eVar 0) (lCons (eC (.int 5)) lNil)))) (gNm 4) (sSeq (sSet (eLst false (lCons (eBin ixD (eVar 2) (eCall c "_law_take" (lCons (eVar 0) (lCons (eC (.int 3)) lNil)))) (lCons (eBin ixD (eVar 1) (eCall c "_law_take" (lCons (eVar 0) (lCons (eBi lenD (lCons (eVar 1) lNil)) lNil)))) lNil))) (gNm 5))
  (sSeq (sEx (eM "list" appendA (eVar 3) (lCons (eBin ixD (eVar 5) (eBi intOfA (lCons (eBin gtA (eCall c "_law_take" (lCons (eVar 0) (lCons (eC (.int 3)) lNil))) (eC (.int 0))) lNil))) lNil)))
  sNx)))
  (sSeq (sRet (eBi tupleA (lCons (eVar 3) lNil)))
  sNx)))
def i_row : DI := ⟨"_law_row", Str.ofString "_law_row", top 10, [Str.ofString "_law_bag_here", Str.ofString "_law_labels_here", Str.ofString "_law_constants", Str.ofString "_law_row_here", Str.ofString "_law_k", Str.ofString "_law_some"], [Str.ofString "_law_bag_here", Str.ofString "_law_labels_here", Str.ofString "_law_constants"]⟩
def t_changes (c : Cal) : SA := (sSeq (sPar 3 4 (lCons (eCall c "_law_mixed" (lCons (eVar 0) (lCons (eVar 1) lNil))) (lCons (eCall c "_law_take" (lCons (eVar 0) (lCons (eC (.int 4)) lNil))) lNil)))
  (sSeq (sIf (bB (eBin (eqA false) (eVar 4) (eC (.int 0)))) (sSeq (sRet (eDz false (lCons (eVar 1) (lCons (eVar 3) lNil))))
  sNx) sNx)
  (sSeq (sSet (eDis true [((eC (.str (Str.ofString "none"))), (eBin ixD (eVar 1) (eC (.int 0))))]) (gNm 5))
  (sSeq (sFor (iSeq (eSl false (eVar 3) oNo (oSome (eCall c "_law_take" (lCons (eVar 0) (lCons (eBin (addA false) (eBi lenD (lCons (eVar 3) lNil)) (eC (.int 1))) lNil)))))) (gNm 6) (sSeq (sSet (eBin ixD (eLst false (lCons (eBin ixD (eVar 2) (eCall c "_law_take" (lCons (eVar 0) (lCons (eC (.int 3)) lNil)))) (lCons (eBin ixD (eVar 3) (eC (.int 0))) (lCons (eBin ixD (eVar 3) (eNeg (eC (.int 1)))) (lCons (eVar 6) lNil))))) (eCall c "_law_take" (lCons (eVar 0) (lCons (eC (.int 4)) lNil)))) (gSubD (eVar 5) (eVar 6)))
  sNx))
  (sSeq (sRet (eVar 5))
  sNx)))))
def i_changes : DI := ⟨"_law_changes", Str.ofString "_law_changes", top 11, [Str.ofString "_law_bag_here", Str.ofString "_law_labels_here", Str.ofString "_law_constants", Str.ofString "_law_mixed_here", Str.ofString "_law_way", Str.ofString "_law_found", Str.ofString "_law_label"], [Str.ofString "_law_bag_here", Str.ofString "_law_labels_here", Str.ofString "_law_constants"]⟩
def t_due (c : Cal) : SA := (sSeq (sPar 2 3 (lCons (eLst true lNil) (lCons (eLst true (lCons (eBin ixD (eVar 0) (eC (.int 0))) lNil)) lNil)))
  (sSeq (sFor (iSeq (eSl false (eVar 0) (oSome (eC (.int 1))) oNo)) (gNm 4) (sSeq (sIf (bAnd (bV (eIsi (eVar 4) ["str"])) (bB (eBin (inD true) (eVar 4) (eVar 2)))) (sSeq (sEx (eM "list" appendA (eVar 2) (lCons (eVar 4) lNil)))
  sNx) sNx)
  (sSeq (sEx (eM "list" appendA (eVar 3) (lCons (eIf (bAnd (bV (eIsi (eVar 4) ["str"])) (bB (eBin (inD false) (eVar 4) (eVar 1)))) (eBin ixD (eVar 1) (eVar 4)) (eVar 4)) lNil)))
  sNx)))
  (sSeq (sRet (eLst false (lCons (eTup (lCons (eBin ixD (eVar 0) (eC (.int 0))) (lCons (eBin subA (eBi lenD (lCons (eVar 0) lNil)) (eC (.int 1))) lNil))) (lCons (eBi (sortA false) (lCons (eVar 2) lNil)) (lCons (eBi tupleA (lCons (eVar 3) lNil)) lNil)))))
  sNx)))
def i_due : DI := ⟨"_law_due", Str.ofString "_law_due", top 12, [Str.ofString "_law_row_here", Str.ofString "_law_changes_here", Str.ofString "_law_seen", Str.ofString "_law_later", Str.ofString "_law_term"], [Str.ofString "_law_row_here", Str.ofString "_law_changes_here"]⟩
def t_law (c : Cal) : SA := (sSeq (sSet (eCall c "_law_bag" (lCons (eVar 0) lNil)) (gNm 1))
  (sSeq (sFor (iR1 (eC (.int 6))) (gNm 2) (sSeq (sSet (eTup (lCons (eCall c "_law_labels" (lCons (eVar 1) (lCons (eC (.int 4)) lNil))) (lCons (eLst false (lCons (eC (.int 0)) (lCons (eBin (addA false) (eC (.int 1)) (eCall c "_law_take" (lCons (eVar 1) (lCons (eC (.int 9)) lNil)))) (lCons (eBin powA (eC (.int 10)) (eC (.int 38))) lNil)))) lNil))) (gTup [3, 4]))
  (sSeq (sSet (eLc false (iR1 (eC (.int 3))) (gNm 6) bYes (eCall c "_law_row" (lCons (eVar 1) (lCons (eVar 3) (lCons (eVar 4) lNil)))) [6]) (gNm 5))
  (sSeq (sSet (eLst false (lCons (eCall c "_law_changes" (lCons (eVar 1) (lCons (eVar 3) (lCons (eVar 4) lNil)))) (lCons (eDct0 false) (lCons (eCall c "_law_changes" (lCons (eVar 1) (lCons (eVar 3) (lCons (eVar 4) lNil)))) lNil)))) (gNm 7))
  (sSeq (sSet (eBi reprA (lCons (eLst false (lCons (eVar 5) (lCons (eVar 7) lNil))) lNil)) (gNm 8))
  (sSeq (sFor (iSeq (eLst false (lCons (eC (.int 0)) (lCons (eC (.int 1)) (lCons (eC (.int 2)) (lCons (eC (.int 0)) (lCons (eC (.int 2)) (lCons (eC (.int 1)) lNil)))))))) (gNm 9) (sSeq (sFor (iSeq (eVar 7)) (gNm 10) (sSeq (sSet (eLst false (lCons (eCall c "name_of" (lCons (eBin ixD (eVar 5) (eVar 9)) lNil)) (lCons (eCall c "variables_of" (lCons (eBin ixD (eVar 5) (eVar 9)) lNil)) (lCons (eCall c "replaced" (lCons (eBin ixD (eVar 5) (eVar 9)) (lCons (eVar 10) lNil))) lNil)))) (gNm 11))
  (sSeq (sIf (bNot (bV (eCall c "_law_alike" (lCons (eVar 11) (lCons (eCall c "_law_due" (lCons (eBin ixD (eVar 5) (eVar 9)) (lCons (eVar 10) lNil))) lNil))))) (sSeq (sRet (eC (.bl false)))
  sNx) sNx)
  (sSeq (sEx (eM "list" appendA (eBin ixD (eVar 11) (eC (.int 1))) (lCons (eC (.str (Str.ofString "x"))) lNil)))
  (sSeq (sEx (eM "list" reverseA (eBin ixD (eVar 11) (eC (.int 1))) lNil))
  sNx)))))
  sNx))
  (sSeq (sIf (bB (eBin (eqA true) (eBi reprA (lCons (eLst false (lCons (eVar 5) (lCons (eVar 7) lNil))) lNil)) (eVar 8))) (sSeq (sRet (eC (.bl false)))
  sNx) sNx)
  sNx)))))))
  (sSeq (sRet (eC (.bl true)))
  sNx)))
def i_law : DI := ⟨"law", Str.ofString "law", top 13, [Str.ofString "_law_script", Str.ofString "_law_bag_here", Str.ofString "_law_turn", Str.ofString "_law_labels_here", Str.ofString "_law_constants", Str.ofString "_law_rows", Str.ofString "_law_k", Str.ofString "_law_some", Str.ofString "_law_kept", Str.ofString "_law_at", Str.ofString "_law_changes_here", Str.ofString "_law_found"], [Str.ofString "_law_script"]⟩
def all : List DI := [i_name_of, i_variables_of, i_replaced, i_bag, i_take, i_alike, i_mixed, i_labels, i_row, i_changes, i_due, i_law]
def ft : List (Str × FD) := [(Str.ofString "name_of", ⟨1, 1, t_name_of⟩), (Str.ofString "variables_of", ⟨1, 2, t_variables_of⟩), (Str.ofString "replaced", ⟨2, 3, t_replaced⟩), (Str.ofString "_law_bag", ⟨1, 2, t_bag⟩), (Str.ofString "_law_take", ⟨2, 7, t_take⟩), (Str.ofString "_law_alike", ⟨2, 2, t_alike⟩), (Str.ofString "_law_mixed", ⟨2, 4, t_mixed⟩), (Str.ofString "_law_labels", ⟨2, 11, t_labels⟩), (Str.ofString "_law_row", ⟨3, 6, t_row⟩), (Str.ofString "_law_changes", ⟨3, 7, t_changes⟩), (Str.ofString "_law_due", ⟨2, 5, t_due⟩), (Str.ofString "law", ⟨1, 12, t_law⟩)]
def FT : FTab := fun x => ft.lookup x
def pg : Pg := ⟨ownL all, [], [⟨5, 11, 5, 77⟩, ⟨10, 11, 10, 81⟩, ⟨33, 17, 33, 19⟩, ⟨50, 20, 50, 87⟩, ⟨59, 17, 59, 46⟩, ⟨64, 29, 64, 31⟩, ⟨64, 33, 64, 51⟩]⟩
theorem s_name_of : FnScope i_name_of.N i_name_of.ps (defScope i_name_of.st) := ⟨rfl, rfl, rfl, by decide +kernel, rfl, by decide +kernel, by decide +kernel⟩
theorem k_name_of (c : Cal) : cSs i_name_of.N pg c 100 (defScope i_name_of.st) (defBody i_name_of.st) = some (t_name_of c) := by kernel_rfl
theorem s_variables_of : FnScope i_variables_of.N i_variables_of.ps (defScope i_variables_of.st) := ⟨rfl, rfl, rfl, by decide +kernel, rfl, by decide +kernel, by decide +kernel⟩
theorem k_variables_of (c : Cal) : cSs i_variables_of.N pg c 100 (defScope i_variables_of.st) (defBody i_variables_of.st) = some (t_variables_of c) := by kernel_rfl
theorem s_replaced : FnScope i_replaced.N i_replaced.ps (defScope i_replaced.st) := ⟨rfl, rfl, rfl, by decide +kernel, rfl, by decide +kernel, by decide +kernel⟩
theorem k_replaced (c : Cal) : cSs i_replaced.N pg c 100 (defScope i_replaced.st) (defBody i_replaced.st) = some (t_replaced c) := by kernel_rfl
theorem s_bag : FnScope i_bag.N i_bag.ps (defScope i_bag.st) := ⟨rfl, rfl, rfl, by decide +kernel, rfl, by decide +kernel, by decide +kernel⟩
theorem k_bag (c : Cal) : cSs i_bag.N pg c 100 (defScope i_bag.st) (defBody i_bag.st) = some (t_bag c) := by kernel_rfl
theorem s_take : FnScope i_take.N i_take.ps (defScope i_take.st) := ⟨rfl, rfl, rfl, by decide +kernel, rfl, by decide +kernel, by decide +kernel⟩
theorem k_take (c : Cal) : cSs i_take.N pg c 100 (defScope i_take.st) (defBody i_take.st) = some (t_take c) := by kernel_rfl
theorem s_alike : FnScope i_alike.N i_alike.ps (defScope i_alike.st) := ⟨rfl, rfl, rfl, by decide +kernel, rfl, by decide +kernel, by decide +kernel⟩
theorem k_alike (c : Cal) : cSs i_alike.N pg c 100 (defScope i_alike.st) (defBody i_alike.st) = some (t_alike c) := by kernel_rfl
theorem s_mixed : FnScope i_mixed.N i_mixed.ps (defScope i_mixed.st) := ⟨rfl, rfl, rfl, by decide +kernel, rfl, by decide +kernel, by decide +kernel⟩
theorem k_mixed (c : Cal) : cSs i_mixed.N pg c 100 (defScope i_mixed.st) (defBody i_mixed.st) = some (t_mixed c) := by kernel_rfl
theorem s_labels : FnScope i_labels.N i_labels.ps (defScope i_labels.st) := ⟨rfl, rfl, rfl, by decide +kernel, rfl, by decide +kernel, by decide +kernel⟩
theorem k_labels (c : Cal) : cSs i_labels.N pg c 100 (defScope i_labels.st) (defBody i_labels.st) = some (t_labels c) := by kernel_rfl
theorem s_row : FnScope i_row.N i_row.ps (defScope i_row.st) := ⟨rfl, rfl, rfl, by decide +kernel, rfl, by decide +kernel, by decide +kernel⟩
theorem k_row (c : Cal) : cSs i_row.N pg c 100 (defScope i_row.st) (defBody i_row.st) = some (t_row c) := by kernel_rfl
theorem s_changes : FnScope i_changes.N i_changes.ps (defScope i_changes.st) := ⟨rfl, rfl, rfl, by decide +kernel, rfl, by decide +kernel, by decide +kernel⟩
theorem k_changes (c : Cal) : cSs i_changes.N pg c 100 (defScope i_changes.st) (defBody i_changes.st) = some (t_changes c) := by kernel_rfl
theorem s_due : FnScope i_due.N i_due.ps (defScope i_due.st) := ⟨rfl, rfl, rfl, by decide +kernel, rfl, by decide +kernel, by decide +kernel⟩
theorem k_due (c : Cal) : cSs i_due.N pg c 100 (defScope i_due.st) (defBody i_due.st) = some (t_due c) := by kernel_rfl
theorem s_law : FnScope i_law.N i_law.ps (defScope i_law.st) := ⟨rfl, rfl, rfl, by decide +kernel, rfl, by decide +kernel, by decide +kernel⟩
theorem k_law (c : Cal) : cSs i_law.N pg c 100 (defScope i_law.st) (defBody i_law.st) = some (t_law c) := by kernel_rfl
theorem hFT : ∀ i ∈ all, ∃ d, FT (Str.ofString i.key) = some d ∧ d.ps = i.ps.length ∧ d.slots = i.N.length ∧ ∀ c, cSs i.N pg c 100 (defScope i.st) (defBody i.st) = some (d.body c) :=
  all_cons ⟨_, rfl, rfl, rfl, k_name_of⟩ (
  all_cons ⟨_, rfl, rfl, rfl, k_variables_of⟩ (
  all_cons ⟨_, rfl, rfl, rfl, k_replaced⟩ (
  all_cons ⟨_, rfl, rfl, rfl, k_bag⟩ (
  all_cons ⟨_, rfl, rfl, rfl, k_take⟩ (
  all_cons ⟨_, rfl, rfl, rfl, k_alike⟩ (
  all_cons ⟨_, rfl, rfl, rfl, k_mixed⟩ (
  all_cons ⟨_, rfl, rfl, rfl, k_labels⟩ (
  all_cons ⟨_, rfl, rfl, rfl, k_row⟩ (
  all_cons ⟨_, rfl, rfl, rfl, k_changes⟩ (
  all_cons ⟨_, rfl, rfl, rfl, k_due⟩ (
  all_cons ⟨_, rfl, rfl, rfl, k_law⟩ (
  all_nil))))))))))))
theorem mem_law : i_law ∈ all := by simp [all]
end G
/-! R_k19: k19's law holds. -/
namespace G
open PySem PySem.Spec PyProof.Rows Q
theorem f_take : FT (Str.ofString "_law_take") = some ⟨2, 7, tk_take⟩ := rfl
theorem f_bag : FT (Str.ofString "_law_bag") = some ⟨1, 2, tk_bag⟩ := rfl
theorem f_alike : FT (Str.ofString "_law_alike") = some ⟨2, 2, tk_alike⟩ := rfl
theorem f_mixed : FT (Str.ofString "_law_mixed") = some ⟨2, 4, tk_mixed⟩ := rfl
theorem f_labels : FT (Str.ofString "_law_labels") = some ⟨2, 11, tk_labels⟩ := rfl
theorem f_row : FT (Str.ofString "_law_row") = some ⟨3, 6, t_row⟩ := rfl
theorem f_changes : FT (Str.ofString "_law_changes") = some ⟨3, 7, t_changes⟩ := rfl
theorem f_due : FT (Str.ofString "_law_due") = some ⟨2, 5, t_due⟩ := rfl
theorem f_name : FT (Str.ofString "name_of") = some ⟨1, 1, tk_name_of⟩ := rfl
theorem f_vars : FT (Str.ofString "variables_of") = some ⟨1, 2, tk_variables_of true⟩ := rfl
theorem f_repl : FT (Str.ofString "replaced") = some ⟨2, 3, tk_replaced⟩ := rfl
theorem hz : sizeLine = 16777216 := by decide
theorem le_sz {m : Nat} (h : m ≤ 1000) : m ≤ sizeLine := by have := hz; omega
theorem h60 : (2 : Int) ^ 60 = 1152921504606846976 := by decide
theorem h59 : (2 : Int) ^ 59 = 576460752303423488 := by decide
section
variable {n : Nat} {G : Gp} {b : Addr} {P : Int} {Q : KA} {X : KX} {ws : List Str} {cs : List Int}
theorem label_at {Q : KA} {G : Gp} {d : Int} (hw : ∀ z ∈ ws, Wd z) (d0 : 0 ≤ d) (d1 : d < ws.length) (q : ∀ w ∈ ws, Wd w → Q (.str w) G) : ixD (.fro (ws.map A.str)) (.int d) G Q :=
  ix_any d0 (by simpa using d1) fun x m => by
    obtain ⟨w, mw, rfl⟩ := List.mem_map.mp m
    exact q w mw (hw w mw)
/-- constants -/
def Cns (cs : List Int) : Prop := cs.length = 3 ∧ ∀ c ∈ cs, 0 ≤ c ∧ c.natAbs < 10 ^ 62
theorem con_at {Q : KA} {G : Gp} {d : Int} (hc : Cns cs) (d0 : 0 ≤ d) (d1 : d < 3) (q : ∀ c, 0 ≤ c ∧ c.natAbs < 10 ^ 62 → Q (.int c) G) : ixD (.fro (cs.map A.int)) (.int d) G Q :=
  ix_any d0 (by simpa [hc.1] using d1) fun x m => by
    obtain ⟨c, mc, rfl⟩ := List.mem_map.mp m
    exact q c (hc.2 c mc)
theorem row_ok (B : Bag b P G) (hP : P ≤ 2 ^ 59) (hw : ∀ z ∈ ws, Wd z) (hl : ws.length = 4) (hc : Cns cs)
    (q : ∀ w ks G', Wd w → (∀ k ∈ ks, Tm k) → ks.length ≤ 4 → Bag b (P + 14) G' → rm b G' = rm b G → Q (arow w ks) G') : runF FT (n + 2) "_law_row" [.ref b, .fro (ws.map .str), .fro (cs.map .int)] G Q X := by
  have := hz
  have := h60
  have := h59
  refine ⟨_, f_row, rfl, ?_⟩
  show t_row (runF FT (n + 1)) _ [some (.ref b), some (.fro (ws.map .str)), some (.fro (cs.map .int)), none, none, none] G
  refine seq_i fun R hR => ?_
  simp only [sSet, eLst, eBin, eBi, eCall, eVar, lCons, lNil, len_fro, ixFro, gNm, new_t, List.length_map, List.getElem?_cons_zero, List.getElem?_cons_succ, List.set_cons_zero, List.set_cons_succ]
  refine take_ok f_take B (by omega) (by omega) (by omega) fun d G1 d0 d1 B1 r1 => label_at hw d0 d1 fun w _ hw1 => ⟨le_sz (by simp), fun p hp => hR _ _ ?_⟩
  have pb : p ≠ b := B1.ne hp
  clear hR R
  refine seq_f fun R hR => ?_
  simp only [sFor, iR1, eCall, eVar, eC, lCons, lNil, List.getElem?_cons_zero]
  refine take_ok (many := 5) f_take (B1.new pb) (by omega) (by decide) (by decide) fun m G2 m0 m1 B2 r2 => ⟨by omega, by omega, ?_⟩
  have g2 : G2 p = some (.lst [.str w]) := (keep r2 pb).trans up_same
  have o2 : Own b p G1 G2 := (Own.new hp).take r2
  refine for_ix (fun k ς G' => ∃ x4 x5 ks, ς = [some (.ref b), some (.fro (ws.map .str)), some (.fro (cs.map .int)), some (.ref p), x4, x5] ∧ Bag b (P + 2 + 3 * k) G' ∧ G' p = some (.lst (.str w :: ks.map keyA)) ∧ ks.length = k ∧ (∀ t ∈ ks, Tm t) ∧ Own b p G1 G')
    (fun _ _ _ _ => trivial) _ 0 _ _ ?_ ⟨none, none, [], rfl, B2.more (by omega), g2, rfl, by simp, o2⟩ ?_
  · rintro k y my ς G3 ⟨x4, x5, ks, rfl, B3, g3, l3, h3, o3⟩ D' nx _ rt ex _
    simp only [Nat.zero_add] at nx l3 B3
    have hk : k < 4 := by
      have := (List.getElem?_eq_some_iff.mp my).1
      simp only [List.length_map, List.length_range] at this
      omega
    simp only [gNm, List.set_cons_zero, List.set_cons_succ]
    refine seq_i fun R2 h2 => ?_
    simp only [sSet, gNm, eLst, eBin, eBi, eCall, eVar, eC, lCons, lNil, len_fro, ixFro, new_f, frz_l, List.length_map, List.getElem?_cons_zero, List.getElem?_cons_succ, List.set_cons_zero, List.set_cons_succ]
    refine take_ok (many := 3) f_take B3 (by omega) (by decide) (by decide) fun d4 G4 d40 d41 B4 r4 => con_at hc d40 d41 fun c hc1 => ?_
    refine take_ok f_take B4 (by omega) (by omega) (by omega) fun d5 G5 d50 d51 B5 r5 => label_at hw d50 d51 fun w5 _ hw5 => ⟨le_sz (by simp), h2 _ _ ?_⟩
    refine seq_i fun R3 h3' => ?_
    have g5 : G5 p = some (.lst (.str w :: ks.map keyA)) := (keep (r5.trans r4) pb).trans g3
    simp only [sEx, eM, tyA, g5, eBin, eBi, eCall, eVar, eC, lCons, lNil, gtA, intOfA, List.getElem?_cons_zero, List.getElem?_cons_succ]
    refine ⟨by simp, take_ok (many := 3) f_take B5 (by omega) (by decide) (by decide) fun d6 G6 d60 d61 B6 r6 => ?_⟩
    have g6 : G6 p = some (.lst (.str w :: ks.map keyA)) := (keep r6 pb).trans g5
    have o6 : Own b p G1 G6 := ((o3.take r4).take r5).take r6
    have fin : ∀ t : Key, Tm t → appendA (.ref p) [keyA t] G6 fun _ G' => R3 [some (.ref b), some (.fro (ws.map .str)), some (.fro (cs.map .int)), some (.ref p), some y, some (.fro [.int c, .str w5])] G' := fun t ht =>
      ⟨p, _, keyA t, rfl, rfl, g6, by simp; omega, h3' _ _ (nx _ _ ⟨_, _, ks ++ [t], rfl, (B6.more (by omega)).new pb, by rw [up_same]; simp, by simp [l3], fun s ms => by
        rcases List.mem_append.mp ms with ms | ms
        · exact h3 s ms
        · simp only [List.mem_singleton] at ms; subst ms; exact ht, o6.up⟩)⟩
    dsimp only
    by_cases z : 0 < d6
    · rw [decide_eq_true z]
      simp only [if_true, ixFro, atK, at1]
      exact fin (.inr w5) hw5
    · rw [decide_eq_false z]
      simp only [Bool.false_eq_true, if_false, ixFro, atK, at0]
      exact fin (.inl c) hc1
  · rintro ς G3 ⟨x4, x5, ks, rfl, B3, g3, l3, h3, o3⟩
    simp only [Nat.zero_add, List.length_map, List.length_range] at l3 B3
    refine hR _ _ (.frz 3 p _ rfl g3 (.done ?_))
    refine seq_i fun R6 _ => ?_
    simp only [sRet, eBi, eVar, lCons, lNil, frz_l, tupleA_fro, List.set_cons_zero, List.set_cons_succ, List.getElem?_cons_zero, List.getElem?_cons_succ]
    exact q w ks _ hw1 h3 (by omega) ((B3.more (by omega)).same (rm_ne (Ne.symm pb))) (Eq.trans o3 r1)
theorem strs_of : ∀ {ys : List A}, (∀ y ∈ ys, ∃ w, y = A.str w ∧ Wd w) → ∃ ms : List Str, ys = ms.map A.str ∧ ∀ m ∈ ms, Wd m
  | [], _ => ⟨[], rfl, by simp⟩
  | y :: ys, h => by
    obtain ⟨w, rfl, hw⟩ := h y (by simp)
    obtain ⟨ms, rfl, hm⟩ := strs_of (ys := ys) fun z m => h z (by simp [m])
    exact ⟨w :: ms, rfl, fun m mm => by
      rcases List.mem_cons.mp mm with rfl | mm
      · exact hw
      · exact hm m mm⟩
theorem ix_last {xs : List A} (h : xs ≠ []) (q : ∀ x ∈ xs, Q x G) : ixD (.fro xs) (.int (-1)) G Q := by
  have hl : 0 < xs.length := List.length_pos_iff.mpr h
  rw [ixFro]
  have e : L2.atI xs (-1) = some (xs[xs.length - 1]'(by omega)) := by
    unfold L2.atI L2.ixN
    rw [if_neg (by decide), if_pos (by omega)]
    have : (-1 + (xs.length : Int)).toNat = xs.length - 1 := by omega
    simp [this]
  unfold atK
  rw [e]
  exact q _ (List.getElem_mem _)
theorem changes_ok (B : Bag b P G) (hP : P ≤ 2 ^ 59) (hw : ∀ z ∈ ws, Wd z) (hl : ws.length = 4) (hc : Cns cs)
    (q : ∀ kvs G', Chg kvs → kvs.length ≤ 5 → Bag b (P + 20) G' → rm b G' = rm b G → Q (dtr kvs) G') : runF FT (n + 3) "_law_changes" [.ref b, .fro (ws.map .str), .fro (cs.map .int)] G Q X := by
  have := hz
  have := h60
  have := h59
  refine ⟨_, f_changes, rfl, ?_⟩
  show t_changes (runF FT (n + 2)) _ [some (.ref b), some (.fro (ws.map .str)), some (.fro (cs.map .int)), none, none, none, none] G
  refine seq_i fun R hR => ?_
  simp only [sPar, eCall, eVar, eC, lCons, lNil, List.getElem?_cons_zero, List.getElem?_cons_succ, List.set_cons_zero, List.set_cons_succ]
  refine mixed_ok f_take f_mixed B (by omega) (by simp; omega) fun ys G1 pm B1 r1 => ?_
  obtain ⟨ms, rfl, hm⟩ := strs_of (ys := ys) fun y my => by
    obtain ⟨w, mw, rfl⟩ := List.mem_map.mp (pm.mem_iff.mp my)
    exact ⟨w, rfl, hw w mw⟩
  have lm : ms.length = 4 := by have := pm.length_eq; simp only [List.length_map] at this; omega
  simp only [List.length_map] at B1
  refine take_ok (many := 4) f_take B1 (by omega) (by decide) (by decide) fun d2 G2 d20 d21 B2 r2 => hR _ _ ?_
  clear hR R
  refine seq_i fun R hR => ?_
  simp only [sIf, sNx, bB, eBin, eVar, eC, eqInt, Bool.false_eq_true, if_false, List.getElem?_cons_zero, List.getElem?_cons_succ]
  by_cases w0 : (d2 == 0) = true
  · rw [if_pos w0]
    refine seq_i fun R2 _ => ?_
    simp only [sRet, eDz, eBi, eVar, lCons, lNil, List.getElem?_cons_zero, List.getElem?_cons_succ]
    refine ⟨_, _, _, _, rfl, rfl, rfl, by simp [isK], ?_⟩
    obtain ⟨h1, h2⟩ := chg_puts (acc := []) (zs := ws) (ks := ms.map Sum.inr) (fun p m => by cases m) hw (fun k mk => by
      obtain ⟨m, mm, rfl⟩ := List.mem_map.mp mk
      exact hm m mm)
    have e : (ms.map Sum.inr).map keyA = ms.map A.str := by rw [List.map_map]; rfl
    rw [e] at h1 h2
    exact q _ _ h1 (by simp only [List.length_nil] at h2; omega) (B2.more (by omega)) (r2.trans r1)
  · rw [if_neg w0]
    refine hR _ _ ?_
    clear hR R
    refine seq_i fun R hR => ?_
    simp only [sSet, eDis, prs, eBin, eVar, eC, gNm, new_t, List.getElem?_cons_zero, List.getElem?_cons_succ, List.set_cons_zero, List.set_cons_succ]
    refine label_at hw (by decide) (by omega) fun w _ hw1 => ⟨by simp, by simp [isK], fun p hp => hR _ _ ?_⟩
    have pb : p ≠ b := B2.ne hp
    have c0 : Chg (putsA [] [(A.str (Str.ofString "none"), A.str w)]) := by
      have : Chg [] := fun p m => by cases m
      exact chg_put this (z := Str.ofString "none") (k := .inr w) (by decide +kernel) hw1
    clear hR R
    refine seq_f fun R hR => ?_
    simp only [sFor, iSeq, eSl, oNo, oSome, eCall, eBin, eBi, eVar, eC, lCons, lNil, len_fro, addA, List.length_map, List.getElem?_cons_zero, List.getElem?_cons_succ]
    refine take_ok f_take (B2.new pb) (by omega) (by omega) (by omega) fun d3 G3 d30 d31 B3 r3 => ?_
    simp only [sl_fro, new_f, frz_l, itOf]
    have g3 : G3 p = some (.dct (putsA [] [(A.str (Str.ofString "none"), A.str w)])) := (keep r3 pb).trans up_same
    have o3 : Own b p G2 G3 := (Own.new hp).take r3
    have lc : (cutA (ms.map A.str) none (some d3)).length ≤ 4 := by
      rw [cut_pre d30 (by simp; omega)]; omega
    have mc : ∀ x ∈ cutA (ms.map A.str) none (some d3), ∃ m, x = A.str m ∧ Wd m := fun x mx => by
      obtain ⟨m, mm, rfl⟩ := List.mem_map.mp (cut_mem mx)
      exact ⟨m, rfl, hm m mm⟩
    generalize cutA (ms.map A.str) none (some d3) = row at lc mc ⊢
    refine for_ix (fun k ς G' => ∃ x6 kvs, ς = [some (.ref b), some (.fro (ws.map .str)), some (.fro (cs.map .int)), some (.fro (ms.map .str)), some (.int d2), some (.ref p), x6] ∧ Bag b (P + 6 + 2 * k) G' ∧ G' p = some (.dct kvs) ∧ Chg kvs ∧ kvs.length ≤ 1 + k ∧ Own b p G2 G')
      (fun _ _ _ _ => trivial) row 0 _ _ ?_ ⟨none, _, rfl, B3.more (by omega), g3, c0, Nat.le_refl 1, o3⟩ ?_
    · rintro k y my ς G4 ⟨x6, kvs, rfl, B4, g4, c4, l4, o4⟩ D' nx _ rt ex _
      simp only [Nat.zero_add] at nx l4 B4
      have hk : k < 4 := by have := (List.getElem?_eq_some_iff.mp my).1; omega
      obtain ⟨m, rfl, hm1⟩ := mc y (List.mem_of_getElem? my)
      simp only [gNm, List.set_cons_zero, List.set_cons_succ]
      refine seq_i fun R2 h2 => ?_
      simp only [sSet, gSubD, eLst, eBin, eNeg, eCall, eVar, eC, lCons, lNil, new_f, frz_l, List.getElem?_cons_zero, List.getElem?_cons_succ]
      refine take_ok (many := 3) f_take B4 (by omega) (by decide) (by decide) fun d5 G5 d50 d51 B5 r5 => con_at hc d50 d51 fun c hc1 => ?_
      refine label_at hm (by decide) (by omega) fun w1 _ hw1' => ix_last (fun e => by have := congrArg List.length e; simp only [List.length_map, List.length_nil] at this; omega) fun x mx => ⟨le_sz (by simp), ?_⟩
      obtain ⟨w2, mw2, rfl⟩ := List.mem_map.mp mx
      have hw2 := hm w2 mw2
      refine take_ok (many := 4) f_take B5 (by omega) (by decide) (by decide) fun d6 G6 d60 d61 B6 r6 => ?_
      refine ix_any d60 (by simpa using d61) fun x mx => ?_
      have hx : ∃ t, x = keyA t ∧ Tm t := by
        simp only [List.mem_cons, List.not_mem_nil, or_false] at mx
        rcases mx with rfl | rfl | rfl | rfl
        · exact ⟨.inl c, rfl, hc1⟩
        · exact ⟨.inr w1, rfl, hw1'⟩
        · exact ⟨.inr w2, rfl, hw2⟩
        · exact ⟨.inr m, rfl, hm1⟩
      obtain ⟨t, rfl, ht⟩ := hx
      have g6 : G6 p = some (.dct kvs) := (keep (r6.trans r5) pb).trans g4
      have lp := putA_len kvs (.str m) (keyA t)
      refine ⟨p, rfl, .inr ⟨kvs, g6, chg_key c4 (.inr m), by omega, h2 _ _ (nx _ _ ⟨_, _, rfl, (B6.more (by omega)).new pb, up_same, chg_put c4 hm1 ht, by omega, ((o4.take r5).take r6).up⟩)⟩⟩
    · rintro ς G4 ⟨x6, kvs, rfl, B4, g4, c4, l4, o4⟩
      simp only [Nat.zero_add] at l4 B4
      refine hR _ _ (.frz 5 p _ rfl g4 (.done ?_))
      refine seq_i fun R6 _ => ?_
      simp only [sRet, eVar, frz_d, List.set_cons_zero, List.set_cons_succ, List.getElem?_cons_zero, List.getElem?_cons_succ]
      exact q kvs _ c4 (by omega) ((B4.more (by omega)).same (rm_ne (Ne.symm pb))) (Eq.trans o4 (r2.trans r1))
/-- nothing of what was there is changed -/
def Ext (G G' : Gp) : Prop := ∀ a o, G a = some o → G' a = some o
theorem dts_strs : ∀ ss : List Str, Dts G (ss.map A.str) (ss.map PyData.str)
  | [] => .nil
  | _ :: ss => .cons .str (dts_strs ss)
theorem any_strs (z : Str) : ∀ ss : List Str, ((ss.map PyData.str).any fun d => PyData.eqv d (.str z)) = decide (z ∈ ss)
  | [] => rfl
  | y :: ss => by
    rw [List.map_cons, List.any_cons, any_strs z ss]
    have : PyData.eqv (.str y) (.str z) = decide (z = y) := by
      simp only [PyData.eqv]
      by_cases h : y = z
      · subst h; simp
      · simp [h, Ne.symm h]
    rw [this]
    by_cases h : z = y <;> simp [h]
theorem lay_strs : ∀ {ss : List Str}, (∀ z ∈ ss, Wd z) → PyData.canLayAll0 (ss.map PyData.str) = true
  | [], _ => rfl
  | z :: ss, h => by
    simp only [List.map_cons, PyData.canLayAll0, lay_str (wd_asc (h z (by simp))), lay_strs (ss := ss) fun y m => h y (by simp [m]), Bool.and_self]
theorem due_ok {w : Str} {ks : List Key} {kvs : List (A × A)} (hk : ∀ k ∈ ks, Tm k) (hl : ks.length ≤ 4) (hc : Chg kvs) (q : ∀ G', Ext G G' → Q (.fro [.tup [.str w, .int ks.length], .fro (srt ((vrs ks).map A.str)), .tup (.str w :: ks.map (subA' kvs))]) G') :
    runF FT (n + 1) "_law_due" [arow w ks, dtr kvs] G Q X := by
  have := hz
  refine ⟨_, f_due, rfl, ?_⟩
  show t_due (runF FT n) _ [some (arow w ks), some (dtr kvs), none, none, none] G
  refine seq_i fun R hR => ?_
  simp only [arow, sPar, eLst, eBin, eVar, eC, lCons, lNil, new_t, ixTup, atK, at0, List.getElem?_cons_zero, List.getElem?_cons_succ, List.set_cons_zero, List.set_cons_succ]
  refine ⟨le_sz (by simp), fun p hp => ⟨le_sz (by simp), fun p2 hp2 => hR _ _ ?_⟩⟩
  have pp : p2 ≠ p := fun z => by subst z; rw [up_same] at hp2; cases hp2
  have hp2' : G p2 = none := by rwa [up_ne pp] at hp2
  clear hR R
  have vl : ∀ k, (vrs (ks.take k)).length ≤ 4 := fun k => by
    have h1 := vrs_len (ks.take k) []
    simp only [List.length_nil, List.length_take] at h1
    show (List.foldl vrF [] (ks.take k)).length ≤ 4
    omega
  have vw : ∀ k, ∀ z ∈ vrs (ks.take k), Wd z := fun k z m => by
    rcases vrs_mem _ _ _ m with h | h
    · cases h
    · exact hk _ (List.mem_of_mem_take h)
  refine seq_i fun R hR => ?_
  simp only [sFor, iSeq, eSl, oNo, oSome, eC, eVar, slA, itOf, cut1', List.getElem?_cons_zero]
  refine for_ix (fun k ς G' => ∃ x4, ς = [some (.tup (.str w :: ks.map keyA)), some (dtr kvs), some (.ref p), some (.ref p2), x4] ∧ G' p = some (.lst ((vrs (ks.take k)).map A.str)) ∧ G' p2 = some (.lst (.str w :: (ks.take k).map (subA' kvs))) ∧ Ext G G')
    (fun _ _ _ _ => trivial) _ 0 _ _ ?_ ⟨none, rfl, by rw [up_ne (Ne.symm pp), up_same]; rfl, by rw [up_same]; rfl, fun a o e => ?_⟩ ?_
  · rintro k y my ς G2 ⟨x4, rfl, g1, g2, ex⟩ D' nx _ rt _ _
    simp only [Nat.zero_add] at nx g1 g2
    rw [List.getElem?_map] at my
    obtain ⟨t, mt, rfl⟩ := Option.map_eq_some_iff.mp my
    have ht : Tm t := hk t (List.mem_of_getElem? mt)
    have et := vrs_take mt
    have lk : k < 4 := by have := (List.getElem?_eq_some_iff.mp mt).1; omega
    simp only [gNm, List.set_cons_zero, List.set_cons_succ]
    -- the second statement
    have later : ∀ G3, G3 p = some (.lst ((vrs (ks.take (k + 1))).map A.str)) → G3 p2 = some (.lst (.str w :: (ks.take k).map (subA' kvs))) → Ext G G3 →
        sSeq (sEx (eM "list" appendA (eVar 3) (lCons (eIf (bAnd (bV (eIsi (eVar 4) ["str"])) (bB (eBin (inD false) (eVar 4) (eVar 1)))) (eBin ixD (eVar 1) (eVar 4)) (eVar 4)) lNil))) sNx D' [some (.tup (.str w :: ks.map keyA)), some (dtr kvs), some (.ref p), some (.ref p2), some (keyA t)] G3 := by
      intro G3 g1 g2 ex
      refine seq_i fun R3 h3 => ?_
      have fin : appendA (.ref p2) [subA' kvs t] G3 fun _ G' => R3 [some (.tup (.str w :: ks.map keyA)), some (dtr kvs), some (.ref p), some (.ref p2), some (keyA t)] G' := by
        refine ⟨p2, _, _, rfl, rfl, g2, by simp; omega, h3 _ _ (nx _ _ ⟨_, rfl, by rw [up_ne (Ne.symm pp)]; exact g1, ?_, fun a o e => ?_⟩)⟩
        · rw [up_same, List.take_add_one, mt]; simp
        · have : a ≠ p2 := ne_fresh e hp2'
          rw [up_ne this]; exact ex a o e
      simp only [sEx, eM, tyA, g2, eIf, bAnd, bV, bB, eBin, eVar, lCons, lNil, List.getElem?_cons_zero, List.getElem?_cons_succ]
      refine ⟨by simp, ?_⟩
      rw [isi_term t (i := 4) rfl]
      cases t with
      | inl i =>
        simp only [truA, Bool.false_eq_true, if_false]
        have e : subA' kvs (.inl i) = .int i := by unfold subA'; rw [show keyA (.inl i) = .int i from rfl, chg_int hc]; rfl
        rw [e] at fin; exact fin
      | inr z =>
        simp only [truA, if_true, inD, dct_dtr, Bool.false_eq_true, if_false, ixD]
        refine ⟨chg_key hc (.inr z), ?_⟩
        have fin' : ∀ x, x = subA' kvs (.inr z) → appendA (.ref p2) [x] G3 fun _ G' => R3 [some (.tup (.str w :: ks.map keyA)), some (dtr kvs), some (.ref p), some (.ref p2), some (keyA (.inr z))] G' := fun x e => by rw [e]; exact fin
        cases e : valA kvs (keyA (.inr z)) with
        | none => exact fin' _ (by unfold subA'; rw [e]; rfl)
        | some x => exact ⟨chg_key hc (.inr z), x, rfl, fin' _ (by unfold subA'; rw [e]; rfl)⟩
    refine seq_i fun R2 h2 => ?_
    simp only [sIf, sNx, bAnd, bV, bB, eBin, eVar, List.getElem?_cons_zero, List.getElem?_cons_succ]
    rw [isi_term t (i := 4) rfl]
    cases t with
    | inl i =>
      simp only [truA, Bool.false_eq_true, if_false]
      exact h2 _ _ (later G2 (by rw [et]; exact g1) g2 ex)
    | inr z =>
      simp only [truA, if_true, inD, dct_lst g1, keyA]
      have sh : SeqAt.shaped (.str z) = true := by
        unfold SeqAt.shaped
        rw [lay_str (wd_asc ht)]; rfl
      refine .inr ⟨_, _, .str, .inl (.lst g1 (dts_strs _)), sh, lay_strs (vw k), ?_⟩
      simp only [if_true, any_strs]
      by_cases h : z ∈ vrs (ks.take k)
      · rw [decide_eq_true h]
        simp only [Bool.not_true, Bool.false_eq_true, if_false]
        exact h2 _ _ (later G2 (by rw [et]; simp only [vrF, if_pos h]; exact g1) g2 ex)
      · rw [decide_eq_false h]
        simp only [Bool.not_false, if_true]
        refine seq_i fun R4 h4 => ?_
        simp only [sEx, eM, tyA, g1, eVar, lCons, lNil, List.getElem?_cons_zero, List.getElem?_cons_succ]
        have v4 := vl k
        refine ⟨by simp, p, _, _, rfl, rfl, g1, by simp; omega, h4 _ _ (h2 _ _ (later _ ?_ ?_ fun a o e => ?_))⟩
        · rw [up_same, et]; simp [vrF, h]
        · rw [up_ne pp]; exact g2
        · have : a ≠ p := ne_fresh e hp
          rw [up_ne this]; exact ex a o e
  · have h1 : a ≠ p := ne_fresh e hp
    have h2 : a ≠ p2 := ne_fresh e hp2'
    rw [up_ne h2, up_ne h1]; exact e
  · rintro ς G2 ⟨x4, rfl, g1, g2, ex⟩
    simp only [Nat.zero_add, List.length_map, List.take_length] at g1 g2
    refine hR _ _ ?_
    refine seq_i fun R6 _ => ?_
    have e : (((ks.map keyA).length + 1 : Nat) : Int) - 1 = (ks.length : Int) := by simp
    have v4 : (vrs ks).length ≤ 4 := by have := vl ks.length; rwa [List.take_length] at this
    simp only [sRet, eLst, eTup, eBin, eBi, eVar, eC, lCons, lNil, subA, intA, new_f, frz_l, ixTup, atK, at0, lenD, dctOf, lenA, seqOf, List.getElem?_cons_zero, List.getElem?_cons_succ]
    refine ⟨_, rfl, trivial, le_sz (by simp), _, (vrs ks).map A.str, rfl, by simp only [itmOf, dct_lst g1, lstOf, g1], srt_strs (le_sz (by omega)), ?_⟩
    refine ⟨_, .str w :: ks.map (subA' kvs), rfl, by simp only [seqOf, lstOf, g2], le_sz (by simp), ?_⟩
    rw [List.length_cons, e]
    exact q G2 ex
end
theorem subs_tm {ks : List Key} {kvs : List (A × A)} (hc : Chg kvs) (hk : ∀ k ∈ ks, Tm k) : ∀ x ∈ ks.map (subA' kvs), Okp 0 207 x := fun x m => by
  obtain ⟨k, mk, rfl⟩ := List.mem_map.mp m
  obtain ⟨t, e, ht⟩ := sub_key hc (hk k mk)
  rw [e]; exact tm_ok ht
/-- a drawn row -/
def Rw (x : A) : Prop := ∃ w ks, x = arow w ks ∧ Wd w ∧ (∀ k ∈ ks, Tm k) ∧ ks.length ≤ 4
/-- drawn changes -/
def Ch (x : A) : Prop := ∃ kvs, x = dtr kvs ∧ Chg kvs ∧ kvs.length ≤ 5
theorem kept_ok {rows some_ : List A} (hr : ∀ x ∈ rows, Rw x) (lr : rows.length ≤ 3) (hs : ∀ x ∈ some_, Ch x) (ls : some_.length ≤ 3) : Ok 4 20000 (.fro [.fro rows, .fro some_]) := by
  have h1 : Ok 3 7000 (.fro rows) := Ok.fro (D := 1) (W := 1042) (L := 3) (fun x m => by
    obtain ⟨w, ks, rfl, hw, hk, hl⟩ := hr x m
    exact (arow_ok hw hk hl).ok) lr (by decide) (by decide)
  have h2 : Ok 3 7000 (.fro some_) := Ok.fro (D := 1) (W := 2080) (L := 3) (fun x m => by
    obtain ⟨kvs, rfl, hc, hl⟩ := hs x m
    exact chg_ok hc hl) ls (by decide) (by decide)
  exact Ok.fro (D := 3) (W := 7000) (L := 2) (by
    intro x m
    simp only [List.mem_cons, List.not_mem_nil, or_false] at m
    rcases m with rfl | rfl
    · exact h1
    · exact h2) (Nat.le_refl 2) (by decide) (by decide)
theorem due_data {w : Str} {ks : List Key} {kvs : List (A × A)} (hw : Wd w) (hk : ∀ k ∈ ks, Tm k) (hl : ks.length ≤ 4) (hc : Chg kvs) : Okp 3 5000 (.fro [.tup [.str w, .int ks.length], .fro (srt ((vrs ks).map A.str)), .tup (.str w :: ks.map (subA' kvs))]) := by
  have v1 := vrs_len ks []
  have w1 : Okp 0 207 (.str w) := Okp.str (wd_asc hw) (by decide)
  have a1 : Okp 2 1500 (.tup [.str w, .int ks.length]) := Okp.tup (D := 0) (W := 207) (L := 2) (by
    intro x m
    simp only [List.mem_cons, List.not_mem_nil, or_false] at m
    rcases m with rfl | rfl
    · exact w1
    · refine Okp.int (W := 0) ?_
      have : ((ks.length : Int)).natAbs ≤ 4 := by simpa using hl
      exact Nat.lt_of_le_of_lt this (by decide)) (Nat.le_refl 2) (by decide) (by decide)
  have a2 : Okp 2 1500 (.fro (srt ((vrs ks).map A.str))) := Okp.fro (D := 0) (W := 207) (L := 4) (fun x m => by
    rw [srt_mem] at m
    obtain ⟨z, mz, rfl⟩ := List.mem_map.mp m
    rcases vrs_mem _ _ _ mz with h | h
    · cases h
    · exact tm_ok (k := .inr z) (hk _ h)) (by rw [srt_len, List.length_map]; simp only [List.length_nil] at v1; show (List.foldl vrF [] ks).length ≤ 4; omega) (by decide) (by decide)
  have a3 : Okp 2 1500 (.tup (.str w :: ks.map (subA' kvs))) := Okp.tup (D := 0) (W := 207) (L := 5) (fun x m => by
    rcases List.mem_cons.mp m with rfl | m
    · exact w1
    · exact subs_tm hc hk x m) (by simpa using hl) (by decide) (by decide)
  exact Okp.fro (D := 2) (W := 1500) (L := 3) (by
    intro x m
    simp only [List.mem_cons, List.not_mem_nil, or_false] at m
    rcases m with rfl | rfl | rfl
    · exact a1
    · exact a2
    · exact a3) (Nat.le_refl 3) (by decide) (by decide)
theorem dt_found {G : Gp} {p : Addr} {x y : A} {xs : List A} {d : PyData} (g : G p = some (.lst xs)) (e : pyd (.fro [x, .fro xs, y]) = some d) : Dt G (.fro [x, .ref p, y]) d := by
  simp only [pyd, pyds] at e
  cases e1 : pyd x with
  | none => rw [e1] at e; cases e
  | some d1 =>
    cases e2 : pyds xs with
    | none => rw [e1, e2] at e; cases e
    | some d2 =>
      cases e3 : pyd y with
      | none => rw [e1, e2, e3] at e; cases e
      | some d3 =>
        rw [e1, e2, e3] at e
        cases e
        have z : Dt G (.fro xs) (.list d2) := .of (by simp only [pyd, e2]; rfl)
        cases z with
        | fro zs => exact .fro (.cons (.of e1) (.cons (.lst g zs) (.cons (.of e3) .nil)))
theorem run_law : ∀ ns : List Int, ns.length ≤ 63 → Q.runF FT 100 "law" [.scr (ns.map Q.A.int)] (fun _ => none) (fun v _ => v = .bl true) (fun _ _ => False) := by
  intro ns _
  refine ⟨⟨1, 12, t_law⟩, rfl, rfl, ?_⟩
  show t_law (runF FT 99) _ [some (.scr (ns.map .int)), none, none, none, none, none, none, none, none, none, none, none] _
  have := hz
  have := h60
  have := h59
  refine seq_i fun R hR => ?_
  simp only [sSet, eCall, eVar, lCons, lNil, gNm, List.getElem?_cons_zero, List.set_cons_zero, List.set_cons_succ]
  refine bag_ok (n := 98) f_bag fun b G1 _ B1 _ => hR _ _ ?_
  clear hR R
  refine seq_i fun R hR => ?_
  simp only [sFor, iR1, eC]
  refine ⟨by decide, by decide, ?_⟩
  refine for_ix (fun k ς G' => ∃ x2 x3 x4 x5 x6 x7 x8 x9 x10 x11, ς = [some (.scr (ns.map .int)), some (.ref b), x2, x3, x4, x5, x6, x7, x8, x9, x10, x11] ∧ Bag b (200 * k) G') (fun _ _ _ _ => trivial) _ 0 _ _ ?_ ⟨_, _, _, _, _, _, _, _, _, _, rfl, B1.more (by decide)⟩ ?_
  · rintro k y my ς G2 ⟨x2, x3, x4, x5, x6, x7, x8, x9, x10, x11, rfl, B2⟩ D' nx _ rt ex _
    simp only [Nat.zero_add] at nx B2
    have hk : k < 6 := by
      have := (List.getElem?_eq_some_iff.mp my).1
      simp only [List.length_map, List.length_range] at this
      exact this
    simp only [gNm, List.set_cons_zero, List.set_cons_succ]
    refine seq_i fun R1 h1 => ?_
    simp only [sSet, eTup, eLst, eCall, eBin, eVar, eC, lCons, lNil, gTup, gTs, addA, powA, intA, new_f, frz_l, List.getElem?_cons_zero, List.getElem?_cons_succ]
    refine labels_ok (n := 97) f_take f_labels B2 (by omega) (by decide) (by decide) fun ws G3 hl hws B3 _ => ?_
    refine take_ok (n := 98) (many := 9) f_take B3 (by omega) (by decide) (by decide) fun d4 G4 d40 d41 B4 _ => ⟨by unfold L2.CPow; decide, le_sz (by simp), le_sz (by simp), rfl, h1 _ _ ?_⟩
    clear h1 R1
    have hlw : ws.length = 4 := by omega
    have hcs : Cns [0, 1 + d4, 10 ^ 38] := ⟨rfl, fun c m => by
      simp only [List.mem_cons, List.not_mem_nil, or_false] at m
      have e10 : (10 : Int) ^ 38 = 100000000000000000000000000000000000000 := by decide
      have e62 : (10 : Nat) ^ 62 = 100000000000000000000000000000000000000000000000000000000000000 := by decide
      rw [e62]
      rcases m with rfl | rfl | rfl
      · exact ⟨by decide, by decide⟩
      · exact ⟨by omega, by omega⟩
      · rw [e10]; exact ⟨by decide, by decide⟩⟩
    have ecs : [A.int 0, A.int (1 + d4), A.int (10 ^ (38 : Int).toNat)] = ([0, 1 + d4, 10 ^ 38] : List Int).map A.int := rfl
    simp only [List.set_cons_zero, List.set_cons_succ]
    rw [ecs]
    generalize ([0, 1 + d4, 10 ^ 38] : List Int) = cs at hcs ⊢
    refine seq_i fun R1 h1 => ?_
    simp only [sSet, eLc, iR1, eC, gNm, List.set_cons_zero, List.set_cons_succ, new_f, frz_l]
    refine ⟨by decide, by decide, ?_⟩
    refine lc_inv 3 (by decide) (fun acc G' => (∀ x ∈ acc, Rw x) ∧ Bag b (200 * k + 12 + 14 * acc.length) G') (fun _ _ _ => trivial) _ _ _ ?_ ⟨by simp, B4.more (by simp; omega)⟩ (by decide) ?_
    · rintro x hx acc Gx Qx hl2 ⟨hi, Bx⟩ qx
      simp only [wipeA, eCall, eVar, lCons, lNil, List.set_cons_zero, List.set_cons_succ, List.getElem?_cons_zero, List.getElem?_cons_succ]
      refine row_ok (n := 97) Bx (by omega) hws hlw hcs fun w ks Gz hw hk2 hl3 Bz _ => qx _ _ ⟨?_, Bz.more (by simp only [List.length_append, List.length_cons, List.length_nil]; omega)⟩
      intro z mz
      rcases List.mem_append.mp mz with mz | mz
      · exact hi z mz
      · simp only [List.mem_singleton] at mz; subst mz; exact ⟨w, ks, rfl, hw, hk2, hl3⟩
    rintro rows G5 hl5 ⟨hrows, B5⟩
    have lrows : rows.length = 3 := by rw [hl5]; rfl
    refine h1 _ _ ?_
    clear h1 R1
    refine seq_i fun R1 h1 => ?_
    simp only [sSet, eLst, eCall, eDct0, eVar, lCons, lNil, gNm, new_f, frz_l, frz_d, List.set_cons_zero, List.set_cons_succ, List.getElem?_cons_zero, List.getElem?_cons_succ]
    refine changes_ok (n := 96) B5 (by omega) hws hlw hcs fun kv1 G6 c1 l1 B6 _ => ?_
    refine changes_ok (n := 96) B6 (by omega) hws hlw hcs fun kv2 G7 c2 l2 B7 _ => ⟨le_sz (by simp), h1 _ _ ?_⟩
    clear h1 R1
    have hsome : ∀ x ∈ [dtr kv1, dtr [], dtr kv2], Ch x := fun x m => by
      simp only [List.mem_cons, List.not_mem_nil, or_false] at m
      rcases m with rfl | rfl | rfl
      · exact ⟨_, rfl, c1, l1⟩
      · exact ⟨[], rfl, (fun p m => by cases m), by simp⟩
      · exact ⟨_, rfl, c2, l2⟩
    have lsome : [dtr kv1, dtr [], dtr kv2].length = 3 := rfl
    obtain ⟨dk, ek, sk⟩ := kept_ok hrows (by omega) hsome (by omega)
    generalize [dtr kv1, dtr [], dtr kv2] = some_ at hsome lsome ek ⊢
    refine seq_i fun R1 h1 => ?_
    simp only [sSet, eLst, eBi, eVar, lCons, lNil, gNm, new_f, frz_l, List.set_cons_zero, List.set_cons_succ, List.getElem?_cons_zero, List.getElem?_cons_succ]
    refine ⟨le_sz (by simp), repr_ok ek sk (by decide) (by decide) (h1 _ _ ?_)⟩
    clear h1 R1
    refine seq_i fun R1 h1 => ?_
    simp only [sFor, iSeq, eLst, eC, lCons, lNil, new_f, frz_l, itOf]
    refine ⟨le_sz (by simp), ?_⟩
    refine for_ix (fun _ ς G' => ∃ x9 x10 x11, ς = [some (.scr (ns.map .int)), some (.ref b), some y, some (.fro (ws.map .str)), some (.fro (cs.map .int)), some (.fro rows), x6, some (.fro some_), some (.str dk.shown), x9, x10, x11] ∧ Bag b (200 * k + 100) G') (fun _ _ _ _ => trivial) _ 0 _ _ ?_ ⟨_, _, _, rfl, B7.more (by omega)⟩ ?_
    · rintro j at_ mat ς G8 ⟨x9, x10, x11, rfl, B8⟩ D8 nx8 _ rt8 ex8 _
      have hat : ∃ i : Int, at_ = .int i ∧ 0 ≤ i ∧ i < 3 := by
        have := List.mem_of_getElem? mat
        simp only [List.mem_cons, List.not_mem_nil, or_false] at this
        rcases this with rfl | rfl | rfl | rfl | rfl | rfl <;> exact ⟨_, rfl, by decide, by decide⟩
      obtain ⟨i, rfl, i0, i1⟩ := hat
      obtain ⟨x, mx, ex1⟩ := atI_mem (xs := rows) i0 (by omega)
      obtain ⟨w, ks, rfl, hw, hk2, hl3⟩ := hrows x mx
      have ix : ∀ {G : Gp} {Q : KA}, ixD (.fro rows) (.int i) G Q = Q (arow w ks) G := fun {G Q} => by rw [ixFro]; unfold atK; rw [ex1]
      simp only [gNm, List.set_cons_zero, List.set_cons_succ]
      refine seq_i fun R2 h2 => ?_
      simp only [sFor, iSeq, eVar, itOf, List.getElem?_cons_zero, List.getElem?_cons_succ]
      refine for_ix (fun _ ς G' => ∃ x10 x11, ς = [some (.scr (ns.map .int)), some (.ref b), some y, some (.fro (ws.map .str)), some (.fro (cs.map .int)), some (.fro rows), x6, some (.fro some_), some (.str dk.shown), some (.int i), x10, x11] ∧ Bag b (200 * k + 100) G') (fun _ _ _ _ => trivial) _ 0 _ _ ?_ ⟨_, _, rfl, B8⟩ ?_
      · rintro j2 chx mch ς G9 ⟨x10, x11, rfl, B9⟩ D9 nx9 _ rt9 ex9 _
        obtain ⟨kvs, rfl, hc, hlc⟩ := hsome chx (List.mem_of_getElem? mch)
        simp only [gNm, List.set_cons_zero, List.set_cons_succ]
        refine seq_i fun R3 h3 => ?_
        simp only [sSet, eLst, eBin, eCall, eVar, lCons, lNil, gNm, ix, new_f, frz_l, List.set_cons_zero, List.set_cons_succ, List.getElem?_cons_zero, List.getElem?_cons_succ]
        refine name_of_ok (n := 98) f_name (variables_of_ok (n := 98) f_vars (by omega) ?_)
        intro p hp
        refine replaced_ok (n := 98) (kvs := kvs) f_repl ⟨_, _, rfl⟩ (fun _ => dct_dtr) (fun t _ => chg_key hc t) (by omega) ⟨le_sz (by simp), h3 _ _ ?_⟩
        clear h3 R3
        have pb : p ≠ b := B9.ne hp
        have B10 := B9.new (o := .lst (srt ((vrs ks).map A.str))) pb
        have g10 : up G9 p (.lst (srt ((vrs ks).map A.str))) p = some (.lst (srt ((vrs ks).map A.str))) := up_same
        generalize up G9 p (.lst (srt ((vrs ks).map A.str))) = G10 at B10 g10 ⊢
        obtain ⟨d, ed, sd, pd⟩ := due_data hw hk2 hl3 hc
        have vl : (vrs ks).length ≤ 4 := by
          have v1 := vrs_len ks []
          simp only [List.length_nil] at v1
          show (List.foldl vrF [] ks).length ≤ 4
          omega
        refine seq_i fun R3 h3 => ?_
        simp only [sIf, sNx, bNot, bV, eCall, eBin, eVar, lCons, lNil, ix, List.getElem?_cons_zero, List.getElem?_cons_succ]
        refine due_ok (n := 98) hk2 hl3 hc fun G11 e11 => ?_
        have g11 := e11 _ _ g10
        have B11 : Bag b (200 * k + 100) G11 := by
          refine B10.same ?_
          obtain ⟨_, _, _, _, z, _⟩ := B10
          rw [z]; exact e11 _ _ z
        refine alike_ok2 (n := 98) f_alike (dt_found g11 ed) (.of ed) sd (by decide) (by decide) pd ?_
        simp only [truA, Bool.not_true, Bool.false_eq_true, if_false]
        refine h3 _ _ ?_
        clear h3 R3
        refine seq_i fun R3 h3 => ?_
        simp only [sEx, eM, eBin, eVar, eC, lCons, lNil, ixFro, atK, at1, tyA, g11, List.getElem?_cons_zero, List.getElem?_cons_succ]
        have lsrt : (srt ((vrs ks).map A.str)).length ≤ 4 := by rw [srt_len, List.length_map]; exact vl
        refine ⟨by simp, p, _, _, rfl, rfl, g11, by omega, h3 _ _ ?_⟩
        clear h3 R3
        refine seq_i fun R3 h3 => ?_
        simp only [sEx, eM, eBin, eVar, eC, lCons, lNil, ixFro, atK, at1, tyA, up_same, List.getElem?_cons_zero, List.getElem?_cons_succ]
        refine ⟨by simp, p, _, rfl, rfl, up_same, h3 _ _ (nx9 _ _ ⟨_, _, rfl, (B11.new pb).new pb⟩)⟩
      · rintro ς G9 ⟨x10, x11, rfl, B9⟩
        exact h2 _ _ (nx8 _ _ ⟨_, _, _, rfl, B9⟩)
    · rintro ς G8 ⟨x9, x10, x11, rfl, B8⟩
      refine h1 _ _ ?_
      clear h1 R1
      refine seq_i fun R1 h1 => ?_
      simp only [sIf, sNx, bB, eLst, eBin, eBi, eVar, lCons, lNil, new_f, frz_l, List.getElem?_cons_zero, List.getElem?_cons_succ]
      refine ⟨le_sz (by simp), repr_ok ek sk (by decide) (by decide) ?_⟩
      rw [eqStr]
      simp only [if_true, beq_self_eq_true, Bool.not_true, Bool.false_eq_true, if_false]
      exact h1 _ _ (nx _ _ ⟨_, _, _, _, _, _, _, _, _, _, rfl, B8.more (by omega)⟩)
  · rintro ς G2 ⟨x2, x3, x4, x5, x6, x7, x8, x9, x10, x11, rfl, B2⟩
    refine hR _ _ ?_
    refine seq_i fun R6 _ => ?_
    rfl
end G
open PySem PySem.W PyProof.Rows Q G
set_option maxRecDepth 100000 in
set_option maxHeartbeats 0 in
theorem PySem.Challenge.cw_frozenbodies_k19_atoms_told_holds : PySem.Challenge.rw_frozenbodies_k19_atoms_told.Holds := by
  w_on; o_law; k_head; (case hw => w_witness2)
  k_fill
  refine walkG (l := PySem.Challenge.rw_frozenbodies_k19_atoms_told) (n := 63) (k := 100) (x := Str.ofString "_law_script") (FT := FT) (F := "law") (cm := fun _ => none) rfl (by decide) rfl ⟨rfl, by decide, by decide⟩ (fun w h Y => PySem.W.kIn_of Y) ?D run_law
  intro w mg fa h KX G hmg
  have d_name_of : ∃ f fd, DefAt (L2.KOf KX) mg i_name_of f fd := by
    refine' def_mk (key := "name_of") (qual := Str.ofString "name_of") (st := top 1) KX G s_name_of (fun _ _ _ _ _ _ us hl => match us, hl with | [_], _ => rfl) ?a_name_of ?l_name_of ?c_name_of ?k_name_of
    (case a_name_of => (try dsimp only [L2.KOf]); k_is); (case l_name_of => (try dsimp only [L2.KOf]); k_is); (case c_name_of => (try dsimp only [L2.KOf]); k_is); (case k_name_of => (try dsimp only [L2.KOf]); k_is)
  have d_variables_of : ∃ f fd, DefAt (L2.KOf KX) mg i_variables_of f fd := by
    refine' def_mk (key := "variables_of") (qual := Str.ofString "variables_of") (st := top 2) KX G s_variables_of (fun _ _ _ _ _ _ us hl => match us, hl with | [_], _ => rfl) ?a_variables_of ?l_variables_of ?c_variables_of ?k_variables_of
    (case a_variables_of => (try dsimp only [L2.KOf]); k_is); (case l_variables_of => (try dsimp only [L2.KOf]); k_is); (case c_variables_of => (try dsimp only [L2.KOf]); k_is); (case k_variables_of => (try dsimp only [L2.KOf]); k_is)
  have d_replaced : ∃ f fd, DefAt (L2.KOf KX) mg i_replaced f fd := by
    refine' def_mk (key := "replaced") (qual := Str.ofString "replaced") (st := top 3) KX G s_replaced (fun _ _ _ _ _ _ us hl => match us, hl with | [_, _], _ => rfl) ?a_replaced ?l_replaced ?c_replaced ?k_replaced
    (case a_replaced => (try dsimp only [L2.KOf]); k_is); (case l_replaced => (try dsimp only [L2.KOf]); k_is); (case c_replaced => (try dsimp only [L2.KOf]); k_is); (case k_replaced => (try dsimp only [L2.KOf]); k_is)
  have d_bag : ∃ f fd, DefAt (L2.KOf KX) mg i_bag f fd := by
    refine' def_mk (key := "_law_bag") (qual := Str.ofString "_law_bag") (st := top 5) KX G s_bag (fun _ _ _ _ _ _ us hl => match us, hl with | [_], _ => rfl) ?a_bag ?l_bag ?c_bag ?k_bag
    (case a_bag => (try dsimp only [L2.KOf]); k_is); (case l_bag => (try dsimp only [L2.KOf]); k_is); (case c_bag => (try dsimp only [L2.KOf]); k_is); (case k_bag => (try dsimp only [L2.KOf]); k_is)
  have d_take : ∃ f fd, DefAt (L2.KOf KX) mg i_take f fd := by
    refine' def_mk (key := "_law_take") (qual := Str.ofString "_law_take") (st := top 6) KX G s_take (fun _ _ _ _ _ _ us hl => match us, hl with | [_, _], _ => rfl) ?a_take ?l_take ?c_take ?k_take
    (case a_take => (try dsimp only [L2.KOf]); k_is); (case l_take => (try dsimp only [L2.KOf]); k_is); (case c_take => (try dsimp only [L2.KOf]); k_is); (case k_take => (try dsimp only [L2.KOf]); k_is)
  have d_alike : ∃ f fd, DefAt (L2.KOf KX) mg i_alike f fd := by
    refine' def_mk (key := "_law_alike") (qual := Str.ofString "_law_alike") (st := top 7) KX G s_alike (fun _ _ _ _ _ _ us hl => match us, hl with | [_, _], _ => rfl) ?a_alike ?l_alike ?c_alike ?k_alike
    (case a_alike => (try dsimp only [L2.KOf]); k_is); (case l_alike => (try dsimp only [L2.KOf]); k_is); (case c_alike => (try dsimp only [L2.KOf]); k_is); (case k_alike => (try dsimp only [L2.KOf]); k_is)
  have d_mixed : ∃ f fd, DefAt (L2.KOf KX) mg i_mixed f fd := by
    refine' def_mk (key := "_law_mixed") (qual := Str.ofString "_law_mixed") (st := top 8) KX G s_mixed (fun _ _ _ _ _ _ us hl => match us, hl with | [_, _], _ => rfl) ?a_mixed ?l_mixed ?c_mixed ?k_mixed
    (case a_mixed => (try dsimp only [L2.KOf]); k_is); (case l_mixed => (try dsimp only [L2.KOf]); k_is); (case c_mixed => (try dsimp only [L2.KOf]); k_is); (case k_mixed => (try dsimp only [L2.KOf]); k_is)
  have d_labels : ∃ f fd, DefAt (L2.KOf KX) mg i_labels f fd := by
    refine' def_mk (key := "_law_labels") (qual := Str.ofString "_law_labels") (st := top 9) KX G s_labels (fun _ _ _ _ _ _ us hl => match us, hl with | [_, _], _ => rfl) ?a_labels ?l_labels ?c_labels ?k_labels
    (case a_labels => (try dsimp only [L2.KOf]); k_is); (case l_labels => (try dsimp only [L2.KOf]); k_is); (case c_labels => (try dsimp only [L2.KOf]); k_is); (case k_labels => (try dsimp only [L2.KOf]); k_is)
  have d_row : ∃ f fd, DefAt (L2.KOf KX) mg i_row f fd := by
    refine' def_mk (key := "_law_row") (qual := Str.ofString "_law_row") (st := top 10) KX G s_row (fun _ _ _ _ _ _ us hl => match us, hl with | [_, _, _], _ => rfl) ?a_row ?l_row ?c_row ?k_row
    (case a_row => (try dsimp only [L2.KOf]); k_is); (case l_row => (try dsimp only [L2.KOf]); k_is); (case c_row => (try dsimp only [L2.KOf]); k_is); (case k_row => (try dsimp only [L2.KOf]); k_is)
  have d_changes : ∃ f fd, DefAt (L2.KOf KX) mg i_changes f fd := by
    refine' def_mk (key := "_law_changes") (qual := Str.ofString "_law_changes") (st := top 11) KX G s_changes (fun _ _ _ _ _ _ us hl => match us, hl with | [_, _, _], _ => rfl) ?a_changes ?l_changes ?c_changes ?k_changes
    (case a_changes => (try dsimp only [L2.KOf]); k_is); (case l_changes => (try dsimp only [L2.KOf]); k_is); (case c_changes => (try dsimp only [L2.KOf]); k_is); (case k_changes => (try dsimp only [L2.KOf]); k_is)
  have d_due : ∃ f fd, DefAt (L2.KOf KX) mg i_due f fd := by
    refine' def_mk (key := "_law_due") (qual := Str.ofString "_law_due") (st := top 12) KX G s_due (fun _ _ _ _ _ _ us hl => match us, hl with | [_, _], _ => rfl) ?a_due ?l_due ?c_due ?k_due
    (case a_due => (try dsimp only [L2.KOf]); k_is); (case l_due => (try dsimp only [L2.KOf]); k_is); (case c_due => (try dsimp only [L2.KOf]); k_is); (case k_due => (try dsimp only [L2.KOf]); k_is)
  have d_law : ∃ f fd, DefAt (L2.KOf KX) mg i_law f fd := by
    refine' def_mk (key := "law") (qual := Str.ofString "law") (st := top 13) KX G s_law (fun _ _ _ _ _ _ us hl => match us, hl with | [_], _ => rfl) ?a_law ?l_law ?c_law ?k_law
    (case a_law => (try dsimp only [L2.KOf]); k_is); (case l_law => (try dsimp only [L2.KOf]); k_is); (case c_law => (try dsimp only [L2.KOf]); k_is); (case k_law => (try dsimp only [L2.KOf]); k_is)
  have hat : ∀ i ∈ all, ∃ f fd, DefAt (L2.KOf KX) mg i f fd :=
    all_cons d_name_of (all_cons d_variables_of (all_cons d_replaced (all_cons d_bag (all_cons d_take (all_cons d_alike (all_cons d_mixed (all_cons d_labels (all_cons d_row (all_cons d_changes (all_cons d_due (all_cons d_law (all_nil))))))))))))
  have b_len : mg (Str.ofString "len") = none := PySem.W.mg_none_of KX G (by k_is)
  have b_repr : mg (Str.ofString "repr") = none := PySem.W.mg_none_of KX G (by k_is)
  have b_abs : mg (Str.ofString "abs") = none := PySem.W.mg_none_of KX G (by k_is)
  have b_all : mg (Str.ofString "all") = none := PySem.W.mg_none_of KX G (by k_is)
  have b_any : mg (Str.ofString "any") = none := PySem.W.mg_none_of KX G (by k_is)
  have b_int : mg (Str.ofString "int") = none := PySem.W.mg_none_of KX G (by k_is)
  have b_list : mg (Str.ofString "list") = none := PySem.W.mg_none_of KX G (by k_is)
  have b_tuple : mg (Str.ofString "tuple") = none := PySem.W.mg_none_of KX G (by k_is)
  have b_bool : mg (Str.ofString "bool") = none := PySem.W.mg_none_of KX G (by k_is)
  have b_str : mg (Str.ofString "str") = none := PySem.W.mg_none_of KX G (by k_is)
  have b_dict : mg (Str.ofString "dict") = none := PySem.W.mg_none_of KX G (by k_is)
  have b_isinstance : mg (Str.ofString "isinstance") = none := PySem.W.mg_none_of KX G (by k_is)
  have b_range : mg (Str.ofString "range") = none := PySem.W.mg_none_of KX G (by k_is)
  have b_sorted : mg (Str.ofString "sorted") = none := PySem.W.mg_none_of KX G (by k_is)
  have b_zip : mg (Str.ofString "zip") = none := PySem.W.mg_none_of KX G (by k_is)
  have bl : ∀ x, pg.fn.lookup x = none → x ∈ bltNames → mg x = none := by
    intro x _ hx
    simp only [bltNames, List.mem_cons, List.not_mem_nil, or_false] at hx
    rcases hx with rfl | rfl | rfl | rfl | rfl | rfl | rfl | rfl | rfl | rfl | rfl | rfl | rfl | rfl | rfl <;> assumption
  have cs : ∀ x i, pg.kc.lookup x = some i → ∃ t, mg x = some (.int i t) := fun x i z => by cases z
  obtain ⟨f, fd, D⟩ := d_law
  have e : f = fa := by
    have z : mg (Str.ofString "law") = some (.ref f) := D.mg
    have z2 : mg (Str.ofString "law") = some (.ref fa) := hmg
    rw [z2] at z; cases z; rfl
  subst e
  refine ⟨fd, fun s u => D.bd1 s [u] rfl, fun base => ?_⟩
  have z := all_defs (P := PySem.Challenge.rw_frozenbodies_k19_atoms_told.prog) (w := w) (base := base) (T := ⟨L2.KOf KX, fun _ => none⟩) (k := 100) rfl hat (fun x F z => own_of z) hFT bl cs 100 i_law mem_law f fd D
  exact z
