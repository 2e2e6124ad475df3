import PyProof.Rows.All
import Wide.All
import OpenK.AllK
import Wide.FinOn
import HandS.ForMost
import HandS.ForExc
import HandS.IsInst
import HandS.StrMore
import HandS.Deep
import HandS.Wide
import HandS.Flow
import HandS.Style
import HandS.TupAny
import HandS.TupLe
import PyProof.ReprReads
import PyProof.ReprRoads
import PyProof.StrBlock2
import HandS.More
import KE.SortCalls
import HandS.Conv
import HandS.Small
import HandS.TupLen
import KE.KDictZip
import HandS.DictComp
import HandS.TupSets
import HandS.SetFor
import HandS.Property
import HandS.FStr
import PyProof.FString4
import PyProof.SumWalkG
import PyProof.AutoSeq1
import HandS.Defaults
import PyProof.Rows.ReprOcc
import PySem.Challenge.RW_frozenbodies_k15_whole_stores_joined
set_option Elab.async false
set_option linter.all false
set_option maxRecDepth 100000
set_option maxHeartbeats 4000000
/-! N1: values as trees, what nobody changes any more among them; the abstract heap of what may change; how they stand in the hand layer's heap. -/
namespace Q
open PySem PySem.Spec PyProof.Rows L2

/-- a value: a tree, but for what may still change, which is at an address. scr: the script. fro, fdc, fin, exn: a list, a dict, an instance, an exception that nobody changes from here on -/
inductive A where
  | non | bl (b : Bool) | int (i : Int) | str (x : Str) | tup (xs : List A) | scr (xs : List A) | fro (xs : List A) | fdc (ks vs : List A) | fin (C : Str) (ns : List Str) (vs : List A) | exn (C : Str) (ns : List Str) (vs : List A) | ref (a : Addr)
/-- what stands at an address: a list, a dict, an instance of the class C -/
inductive O where
  | lst (xs : List A) | dct (kvs : List (A × A)) | ins (C : Str) (fs : List (Str × A))
abbrev Gp := Addr → Option O
def up (G : Gp) (a : Addr) (o : O) : Gp := fun b => if b = a then some o else G b
def rm (b : Addr) (G : Gp) : Gp := fun a => if a = b then none else G a
theorem up_same {G : Gp} {a : Addr} {o : O} : up G a o a = some o := by unfold up; rw [if_pos rfl]
theorem up_ne {G : Gp} {a b : Addr} {o : O} (h : b ≠ a) : up G a o b = G b := by unfold up; rw [if_neg h]
theorem rm_ne {G : Gp} {a b : Addr} (h : a ≠ b) : rm b G a = G a := if_neg h
theorem rm_self {G : Gp} {b : Addr} : rm b G b = none := if_pos rfl
abbrev En := List (Option A)
structure Ex where
  cls : Str
  ns : List Str
  vs : List A
abbrev KA := A → Gp → Prop
abbrev KX := Ex → Gp → Prop
abbrev EA := En → Gp → KA → KX → Prop
abbrev BA := En → Gp → (Bool → Gp → Prop) → KX → Prop
abbrev LA := En → Gp → (List A → Gp → Prop) → KX → Prop
structure Fl where
  nx : En → Gp → Prop
  rt : KA
  bk : En → Gp → Prop := fun _ _ => False
  ct : En → Gp → Prop := fun _ _ => False
  ex : Ex → En → Gp → Prop
abbrev SA := Fl → En → Gp → Prop

/-- the written part, the classes' addresses -/
structure Tx where
  K : PySem.W.Frag
  cm : Str → Option Addr

/-- a key of the hand layer as a tree -/
def keyA : Key → A
  | .inl i => .int i
  | .inr x => .str x
/-- the abstract heap, and the addresses of what nobody changes any more -/
structure GS where
  G : Gp
  S : Addr → Prop
instance : Coe GS Gp := ⟨GS.G⟩
instance : CoeFun GS fun _ => Addr → Option O := ⟨GS.G⟩
def Fx (g : GS) (p : Addr) : Prop := g.S p ∧ g.G p = none
def GS.up (g : GS) (p : Addr) (o : O) : GS := ⟨Q.up g.G p o, g.S⟩
def GS.rm (g : GS) (p : Addr) : GS := ⟨Q.rm p g.G, fun b => b = p ∨ g.S b⟩
def GS.fx (g : GS) (p : Addr) : GS := ⟨g.G, fun b => b = p ∨ g.S b⟩
/-- what nobody changes is kept -/
def Ks (G : GS) (H : Hp) (G' : GS) (H' : Hp) : Prop := ∀ b u, Fx G b → H b = some u → Fx G' b ∧ H' b = some u
/-- what is never written -/
def imm : HO → Prop
  | .tup _ => True
  | .frz _ _ => True
  | _ => False
/-- what lies outside of G is kept -/
structure Kp (G : GS) (H : Hp) (G' : GS) (H' : Hp) : Prop where
  kp : ∀ b u, G b = none → H b = some u → G' b = none ∧ H' b = some u
  sm : ∀ b, G.S b → G'.S b
  nw : ∀ b, G'.S b → G.S b ∨ G b ≠ none ∨ H b = none ∨ ∃ u, imm u ∧ H b = some u
theorem Kp.ks {G G' : GS} {H H' : Hp} (k : Kp G H G' H') : Ks G H G' H' := fun b u f h => ⟨⟨k.sm _ f.1, (k.kp b u f.2 h).1⟩, (k.kp b u f.2 h).2⟩
theorem Kp.refl {G : GS} {H : Hp} : Kp G H G H := ⟨fun _ _ a b => ⟨a, b⟩, fun _ h => h, fun _ h => .inl h⟩
theorem Kp.trans {G G1 G' : GS} {H H1 H' : Hp} (a : Kp G H G1 H1) (b : Kp G1 H1 G' H') : Kp G H G' H' := by
  refine ⟨fun c u x y => b.kp c u (a.kp c u x y).1 (a.kp c u x y).2, fun c h => b.sm c (a.sm c h), fun c h => ?_⟩
  cases g : G c with
  | some o => exact .inr (.inl (by simp))
  | none =>
    cases e : H c with
    | none => exact .inr (.inr (.inl rfl))
    | some u =>
      obtain ⟨z1, z2⟩ := a.kp c u g e
      rcases b.nw c h with h | h | h | ⟨w, i, h⟩
      · rcases a.nw c h with h | h | h | ⟨w, i, h⟩
        · exact .inl h
        · exact absurd g h
        · rw [e] at h; cases h
        · rw [e] at h; cases h; exact .inr (.inr (.inr ⟨u, i, rfl⟩))
      · exact absurd z1 h
      · rw [z2] at h; cases h
      · rw [z2] at h; cases h; exact .inr (.inr (.inr ⟨u, i, rfl⟩))
/-- an exception's own object -/
def exHO (p c : Addr) (d : Option Addr) : HO := .ext fun h => ∃ fv, h.get? p = some { cls := .ref c, dict := d, data := .fields fv }
/-- a tuple, a list that nobody changes, a dict -/
def TupAt (T : Tx) (G : GS) (H : Hp) (p : Addr) (vs : List V) : Prop := (Fx G p ∧ H p = some (.tup vs)) ∨ (vs = [] ∧ SqT T.K (fun _ => none) p [])
def ScrAt (T : Tx) (G : GS) (H : Hp) (p : Addr) (vs : List V) : Prop := (Fx G p ∧ Rd H p (.lst vs)) ∨ SqL T.K (fun _ => none) p vs
theorem rd_none {p : Addr} {u : HO} (h : Rd (fun _ => none) p u) : False := by rcases h with h | ⟨o, h⟩ <;> cases h
section
variable {T : Tx} {G G' : GS} {H H' : Hp} {p : Addr} {vs : List V}
theorem Ks.rd (k : Ks G H G' H') {u : HO} (g : Fx G p) (h : Rd H p u) : Fx G' p ∧ Rd H' p u := by
  rcases h with h | ⟨o, h⟩
  · exact ⟨(k _ _ g h).1, .inl (k _ _ g h).2⟩
  · exact ⟨(k _ _ g h).1, .inr ⟨o, (k _ _ g h).2⟩⟩
theorem TupAt.mono' (h : TupAt T G H p vs) (k : Ks G H G' H') : TupAt T G' H' p vs := by
  rcases h with ⟨g, h⟩ | h
  · exact .inl (k _ _ g h)
  · exact .inr h
theorem ScrAt.mono' (h : ScrAt T G H p vs) (k : Ks G H G' H') : ScrAt T G' H' p vs := by
  rcases h with ⟨g, h⟩ | h
  · exact .inl (k.rd g h)
  · exact .inr h
theorem TupAt.mono (h : TupAt T G H p vs) (k : Kp G H G' H') : TupAt T G' H' p vs := h.mono' k.ks
theorem ScrAt.mono (h : ScrAt T G H p vs) (k : Kp G H G' H') : ScrAt T G' H' p vs := h.mono' k.ks
theorem TupAt.sq (h : TupAt T G H p vs) : SqT T.K H p vs := by
  rcases h with ⟨g, h⟩ | ⟨rfl, h | h⟩
  · exact .inl (.inl h)
  · exact (rd_none h).elim
  · exact .inr h
theorem ScrAt.sq (h : ScrAt T G H p vs) : SqL T.K H p vs := by
  rcases h with ⟨g, h⟩ | h | h
  · exact .inl h
  · exact (rd_none h).elim
  · exact .inr h
end
mutual
/-- the value v stands for the tree -/
def RV (T : Tx) (G : GS) (H : Hp) : A → V → Prop
  | .non, v => v = .non
  | .bl b, v => v = .bl b
  | .int i, v => v = .int i
  | .str x, v => v = .str x
  | .ref a, v => v = .ref a
  | .tup xs, v => ∃ p vs, v = .ref p ∧ TupAt T G H p vs ∧ RVs T G H xs vs
  | .scr xs, v => ∃ p vs, v = .ref p ∧ ScrAt T G H p vs ∧ RVs T G H xs vs
  | .fro xs, v => ∃ p vs, v = .ref p ∧ Fx G p ∧ H p = some (.lst vs) ∧ RVs T G H xs vs
  | .fdc ks xs, v => ∃ p vs, v = .ref p ∧ Fx G p ∧ RVs T G H xs vs ∧ ((∃ qs : List (Key × V), H p = some (.dK qs) ∧ ks = qs.map (fun q => keyA q.1) ∧ vs = qs.map (·.2)) ∨
      ∃ qs : List (List Key × V), H p = some (.dT qs) ∧ ks = qs.map (fun q => A.tup (q.1.map keyA)) ∧ vs = qs.map (·.2))
  | .fin C ns xs, v => ∃ p c dx vs, v = .ref p ∧ Fx G p ∧ T.cm C = some c ∧ H p = some (.ins c dx (ns.zip vs)) ∧ ns.length = xs.length ∧ RVs T G H xs vs
  | .exn C ns xs, v => ∃ p c d vs, v = .ref p ∧ Fx G p ∧ T.cm C = some c ∧ H p = some (exHO p c d) ∧ ns.length = xs.length ∧ (match d with
      | none => ns = []
      | some x => Fx G x ∧ H x = some (.xd (ns.zip vs))) ∧ RVs T G H xs vs
def RVs (T : Tx) (G : GS) (H : Hp) : List A → List V → Prop
  | [], vs => vs = []
  | x :: xs, vs => ∃ v r, vs = v :: r ∧ RV T G H x v ∧ RVs T G H xs r
end
section
variable {T : Tx} {G G' : GS} {H H' : Hp}
theorem RVs.len : ∀ {xs : List A} {vs : List V}, RVs T G H xs vs → vs.length = xs.length
  | [], vs, h => by simp only [RVs] at h; subst h; rfl
  | x :: xs, vs, h => by
    simp only [RVs] at h
    obtain ⟨v, r, rfl, _, h2⟩ := h
    simp [RVs.len h2]
theorem RVs.get : ∀ {xs : List A} {vs : List V} {i : Nat} {a : A}, RVs T G H xs vs → xs[i]? = some a → ∃ v, vs[i]? = some v ∧ RV T G H a v
  | [], _, _, _, _, e => by simp at e
  | x :: xs, vs, 0, a, h, e => by
    simp only [RVs] at h
    obtain ⟨v, r, rfl, h1, h2⟩ := h
    simp at e; subst e; exact ⟨v, rfl, h1⟩
  | x :: xs, vs, i + 1, a, h, e => by
    simp only [RVs] at h
    obtain ⟨v, r, rfl, h1, h2⟩ := h
    obtain ⟨w, e1, e2⟩ := RVs.get (i := i) h2 (by simpa using e)
    exact ⟨w, by simpa using e1, e2⟩
theorem RVs.get' : ∀ {xs : List A} {vs : List V} {i : Nat} {v : V}, RVs T G H xs vs → vs[i]? = some v → ∃ a, xs[i]? = some a ∧ RV T G H a v
  | [], _, _, _, h, e => by simp only [RVs] at h; subst h; simp at e
  | x :: xs, vs, 0, v', h, e => by
    simp only [RVs] at h
    obtain ⟨v, r, rfl, h1, h2⟩ := h
    simp at e; subst e; exact ⟨x, rfl, h1⟩
  | x :: xs, vs, i + 1, v', h, e => by
    simp only [RVs] at h
    obtain ⟨v, r, rfl, h1, h2⟩ := h
    obtain ⟨w, e1, e2⟩ := RVs.get' (i := i) h2 (by simpa using e)
    exact ⟨w, by simpa using e1, e2⟩
theorem RVs.app : ∀ {xs ys : List A} {vs ws : List V}, RVs T G H xs vs → RVs T G H ys ws → RVs T G H (xs ++ ys) (vs ++ ws)
  | [], ys, vs, ws, h, h' => by simp only [RVs] at h; subst h; exact h'
  | x :: xs, ys, vs, ws, h, h' => by
    simp only [RVs] at h
    obtain ⟨v, r, rfl, h1, h2⟩ := h
    exact ⟨v, r ++ ws, rfl, h1, RVs.app h2 h'⟩
theorem RVs.nil : RVs T G H [] [] := by simp only [RVs]
theorem RVs.one {x : A} {v : V} (h : RV T G H x v) : RVs T G H [x] [v] := ⟨v, [], rfl, h, rfl⟩
theorem RVs.cons {x : A} {v : V} {xs : List A} {vs : List V} (h : RV T G H x v) (h' : RVs T G H xs vs) : RVs T G H (x :: xs) (v :: vs) := ⟨v, vs, rfl, h, h'⟩
theorem RVs.take : ∀ {xs : List A} {vs : List V} (n : Nat), RVs T G H xs vs → RVs T G H (xs.take n) (vs.take n)
  | xs, vs, 0, _ => by simp only [List.take_zero]; rfl
  | [], vs, n + 1, h => by simp only [RVs] at h; subst h; rfl
  | x :: xs, vs, n + 1, h => by
    simp only [RVs] at h
    obtain ⟨v, r, rfl, h1, h2⟩ := h
    exact .cons h1 (RVs.take n h2)
theorem RVs.drop : ∀ {xs : List A} {vs : List V} (n : Nat), RVs T G H xs vs → RVs T G H (xs.drop n) (vs.drop n)
  | xs, vs, 0, h => h
  | [], vs, n + 1, h => by simp only [RVs] at h; subst h; rfl
  | x :: xs, vs, n + 1, h => by
    simp only [RVs] at h
    obtain ⟨v, r, rfl, h1, h2⟩ := h
    exact RVs.drop n h2
theorem RVs.set : ∀ {xs : List A} {vs : List V} (i : Nat) {a : A} {v : V}, RVs T G H xs vs → RV T G H a v → RVs T G H (xs.set i a) (vs.set i v)
  | [], vs, i, a, v, h, _ => by simp only [RVs] at h; subst h; rfl
  | x :: xs, vs, 0, a, v, h, h' => by
    simp only [RVs] at h
    obtain ⟨w, r, rfl, h1, h2⟩ := h
    exact .cons h' h2
  | x :: xs, vs, i + 1, a, v, h, h' => by
    simp only [RVs] at h
    obtain ⟨w, r, rfl, h1, h2⟩ := h
    exact .cons h1 (RVs.set i h2 h')
theorem RVs.reverse : ∀ {xs : List A} {vs : List V}, RVs T G H xs vs → RVs T G H xs.reverse vs.reverse
  | [], vs, h => by simp only [RVs] at h; subst h; rfl
  | x :: xs, vs, h => by
    simp only [RVs] at h
    obtain ⟨v, r, rfl, h1, h2⟩ := h
    rw [List.reverse_cons, List.reverse_cons]
    exact RVs.app (RVs.reverse h2) (.one h1)
theorem RVs.eraseIdx : ∀ {xs : List A} {vs : List V} (i : Nat), RVs T G H xs vs → RVs T G H (xs.eraseIdx i) (vs.eraseIdx i)
  | [], vs, i, h => by simp only [RVs] at h; subst h; rfl
  | x :: xs, vs, 0, h => by
    simp only [RVs] at h
    obtain ⟨v, r, rfl, h1, h2⟩ := h
    exact h2
  | x :: xs, vs, i + 1, h => by
    simp only [RVs] at h
    obtain ⟨v, r, rfl, h1, h2⟩ := h
    exact .cons h1 (RVs.eraseIdx i h2)
theorem RVs.rep : ∀ {xs : List A} {vs : List V} (n : Nat), RVs T G H xs vs → RVs T G H (List.replicate n xs).flatten (List.replicate n vs).flatten
  | xs, vs, 0, _ => rfl
  | xs, vs, n + 1, h => by
    rw [List.replicate_succ, List.replicate_succ, List.flatten_cons, List.flatten_cons]
    exact RVs.app h (RVs.rep n h)
mutual
theorem RV.mono' (k : Ks G H G' H') : ∀ {a : A} {v : V}, RV T G H a v → RV T G' H' a v
  | .non, _, h | .bl _, _, h | .int _, _, h | .str _, _, h | .ref _, _, h => by simp only [RV] at h ⊢; exact h
  | .tup xs, v, h => by
    simp only [RV] at h ⊢
    obtain ⟨p, vs, e, h1, h2⟩ := h
    exact ⟨p, vs, e, h1.mono' k, RVs.mono' k h2⟩
  | .scr xs, v, h => by
    simp only [RV] at h ⊢
    obtain ⟨p, vs, e, h1, h2⟩ := h
    exact ⟨p, vs, e, h1.mono' k, RVs.mono' k h2⟩
  | .fro xs, v, h => by
    simp only [RV] at h ⊢
    obtain ⟨p, vs, e, g, h1, h2⟩ := h
    exact ⟨p, vs, e, (k _ _ g h1).1, (k _ _ g h1).2, RVs.mono' k h2⟩
  | .fdc ks xs, v, h => by
    simp only [RV] at h ⊢
    obtain ⟨p, vs, e, g, h2, h1⟩ := h
    rcases h1 with ⟨qs, r, e1, e2⟩ | ⟨qs, r, e1, e2⟩
    · exact ⟨p, vs, e, (k _ _ g r).1, RVs.mono' k h2, .inl ⟨qs, (k _ _ g r).2, e1, e2⟩⟩
    · exact ⟨p, vs, e, (k _ _ g r).1, RVs.mono' k h2, .inr ⟨qs, (k _ _ g r).2, e1, e2⟩⟩
  | .fin C ns xs, v, h => by
    simp only [RV] at h ⊢
    obtain ⟨p, c, dx, vs, e, g, m, h1, l, h2⟩ := h
    exact ⟨p, c, dx, vs, e, (k _ _ g h1).1, m, (k _ _ g h1).2, l, RVs.mono' k h2⟩
  | .exn C ns xs, v, h => by
    simp only [RV] at h ⊢
    obtain ⟨p, c, d, vs, e, g, m, h1, l, hd, h2⟩ := h
    refine ⟨p, c, d, vs, e, (k _ _ g h1).1, m, (k _ _ g h1).2, l, ?_, RVs.mono' k h2⟩
    cases d with
    | none => exact hd
    | some x => exact k _ _ hd.1 hd.2
theorem RVs.mono' (k : Ks G H G' H') : ∀ {xs : List A} {vs : List V}, RVs T G H xs vs → RVs T G' H' xs vs
  | [], vs, h => h
  | x :: xs, vs, h => by
    simp only [RVs] at h ⊢
    obtain ⟨v, r, e, h1, h2⟩ := h
    exact ⟨v, r, e, RV.mono' k h1, RVs.mono' k h2⟩
end
theorem RV.mono {a : A} {v : V} (h : RV T G H a v) (k : Kp G H G' H') : RV T G' H' a v := RV.mono' k.ks h
theorem RVs.mono {a : List A} {v : List V} (h : RVs T G H a v) (k : Kp G H G' H') : RVs T G' H' a v := RVs.mono' k.ks h
end
section
variable (T : Tx)
def RK (G : GS) (H : Hp) (kvs : List (A × A)) (qs : List (Key × V)) : Prop := Paired (fun (p : A × A) (q : Key × V) => p.1 = keyA q.1 ∧ RV T G H p.2 q.2) kvs qs
def RKT (G : GS) (H : Hp) (kvs : List (A × A)) (qs : List (List Key × V)) : Prop := Paired (fun (p : A × A) (q : List Key × V) => p.1 = .tup (q.1.map keyA) ∧ RV T G H p.2 q.2) kvs qs
def RF (G : GS) (H : Hp) (fs : List (Str × A)) (gs : List (Str × V)) : Prop := Paired (fun (p : Str × A) (q : Str × V) => p.1 = q.1 ∧ RV T G H p.2 q.2) fs gs
/-- the object at a stands for o -/
def RO (G : GS) (H : Hp) (a : Addr) : O → Prop
  | .lst xs => ∃ vs, H a = some (.lst vs) ∧ RVs T G H xs vs
  | .dct kvs => (∃ qs, H a = some (.dK qs) ∧ RK T G H kvs qs) ∨ ∃ qs, H a = some (.dT qs) ∧ RKT T G H kvs qs
  | .ins C fs => ∃ c dx gs, T.cm C = some c ∧ H a = some (.ins c dx gs) ∧ RF T G H fs gs
structure RG (H : Hp) (G : GS) : Prop where
  ro : ∀ a o, G a = some o → RO T G H a o
  st : ∀ b, G.S b → H b ≠ none
end
section
variable {T : Tx} {H H' : Hp} {G G' : GS}
instance : CoeFun (RG T H G) fun _ => ∀ a o, G a = some o → RO T G H a o := ⟨RG.ro⟩
theorem RO.nimm {a : Addr} {o : O} (h : RO T G H a o) {u : HO} (i : imm u) : H a ≠ some u := by
  intro z
  cases o with
  | lst xs => obtain ⟨vs, e, _⟩ := h; rw [e] at z; cases z; exact i
  | dct kvs => rcases h with ⟨vs, e, _⟩ | ⟨vs, e, _⟩ <;> (rw [e] at z; cases z; exact i)
  | ins C fs => obtain ⟨_, _, _, _, e, _⟩ := h; rw [e] at z; cases z; exact i
theorem RO.there {a : Addr} {o : O} (h : RO T G H a o) : H a ≠ none := by
  intro z
  cases o with
  | lst xs => obtain ⟨vs, e, _⟩ := h; rw [e] at z; cases z
  | dct kvs => rcases h with ⟨vs, e, _⟩ | ⟨vs, e, _⟩ <;> (rw [e] at z; cases z)
  | ins C fs => obtain ⟨_, _, _, _, e, _⟩ := h; rw [e] at z; cases z
theorem RG.free (h : RG T H G) {p : Addr} (e : H p = none) : G p = none := by
  cases q : G p with
  | none => rfl
  | some o => exact absurd e (h p o q).there
theorem RK.mono (k : Ks G H G' H') {kvs : List (A × A)} {qs : List (Key × V)} (h : RK T G H kvs qs) : RK T G' H' kvs qs := Paired.mapP h fun _ _ z => ⟨z.1, RV.mono' k z.2⟩
theorem RKT.mono (k : Ks G H G' H') {kvs : List (A × A)} {qs : List (List Key × V)} (h : RKT T G H kvs qs) : RKT T G' H' kvs qs := Paired.mapP h fun _ _ z => ⟨z.1, RV.mono' k z.2⟩
theorem RF.mono (k : Ks G H G' H') {kvs : List (Str × A)} {qs : List (Str × V)} (h : RF T G H kvs qs) : RF T G' H' kvs qs := Paired.mapP h fun _ _ z => ⟨z.1, RV.mono' k z.2⟩
theorem RO.mono (k : Ks G H G' H') {a : Addr} {o : O} (e : H' a = H a) (h : RO T G H a o) : RO T G' H' a o := by
  cases o with
  | lst xs => obtain ⟨vs, q, r⟩ := h; exact ⟨vs, e.trans q, RVs.mono' k r⟩
  | dct kvs =>
    rcases h with ⟨vs, q, r⟩ | ⟨vs, q, r⟩
    · exact .inl ⟨vs, e.trans q, r.mono k⟩
    · exact .inr ⟨vs, e.trans q, r.mono k⟩
  | ins C fs => obtain ⟨c, dx, gs, m, q, r⟩ := h; exact ⟨c, dx, gs, m, e.trans q, r.mono k⟩
theorem Kp.new {p : Addr} {h : HO} {o : O} (e : H p = none) : Kp G H (G.up p o) (upd H p h) := by
  refine ⟨fun b u x y => ?_, fun _ h => h, fun _ h => .inl h⟩
  have hb : b ≠ p := fun z => by subst z; rw [e] at y; cases y
  exact ⟨(up_ne hb).trans x, (upd_ne hb).trans y⟩
theorem Kp.newT {p : Addr} {h : HO} (e : H p = none) : Kp G H (G.fx p) (upd H p h) := by
  refine ⟨fun b u x y => ?_, fun _ h => .inr h, fun b h => ?_⟩
  · have hb : b ≠ p := fun z => by subst z; rw [e] at y; cases y
    exact ⟨x, (upd_ne hb).trans y⟩
  · rcases h with rfl | h
    · exact .inr (.inr (.inl e))
    · exact .inl h
theorem Kp.wr {p : Addr} {h : HO} {o : O} (e : G p ≠ none) : Kp G H (G.up p o) (upd H p h) := by
  refine ⟨fun b u x y => ?_, fun _ h => h, fun _ h => .inl h⟩
  have hb : b ≠ p := fun z => by subst z; exact e x
  exact ⟨(up_ne hb).trans x, (upd_ne hb).trans y⟩
/-- from here on nobody changes what stands at p -/
theorem Kp.rm {p : Addr} (e : G p ≠ none) : Kp G H (G.rm p) H := by
  refine ⟨fun b u x y => ⟨?_, y⟩, fun _ h => .inr h, fun b h => ?_⟩
  · show Q.rm p G.G b = none
    by_cases h : b = p
    · subst h; exact rm_self
    · rw [rm_ne h]; exact x
  · rcases h with rfl | h
    · exact .inr (.inl e)
    · exact .inl h
theorem upd_there {p b : Addr} {h : HO} (e : H b ≠ none) : upd H p h b ≠ none := by
  by_cases hb : b = p
  · subst hb; rw [upd_same]; simp
  · rw [upd_ne hb]; exact e
theorem RG.rm (r : RG T H G) {p : Addr} (e : G p ≠ none) : RG T H (G.rm p) := by
  refine ⟨fun b u q => ?_, fun b h => ?_⟩
  · have q : Q.rm p G.G b = some u := q
    have h : b ≠ p := fun z => by subst z; rw [rm_self] at q; cases q
    rw [rm_ne h] at q
    exact (r b u q).mono (Kp.rm e).ks rfl
  · rcases h with rfl | h
    · cases q : G b with
      | none => exact absurd q e
      | some o => exact (r b o q).there
    · exact r.st b h
/-- an object laid or written at p -/
theorem RG.up (r : RG T H G) {p : Addr} {h : HO} {o : O} (k : Kp G H (G.up p o) (upd H p h)) (new : RO T (G.up p o) (upd H p h) p o) : RG T (upd H p h) (G.up p o) := by
  refine ⟨fun b u e => ?_, fun b h => upd_there (r.st b h)⟩
  have e : Q.up G.G p o b = some u := e
  by_cases hb : b = p
  · subst hb; rw [up_same] at e; cases e; exact new
  · rw [up_ne hb] at e
    exact (r b u e).mono k.ks (upd_ne hb)
/-- something that is no object of G's is laid -/
theorem RG.newT (r : RG T H G) {p : Addr} {h : HO} (e : H p = none) : RG T (upd H p h) (G.fx p) := by
  refine ⟨fun b u q => ?_, fun b h => ?_⟩
  · have q : G.G b = some u := q
    have hb : b ≠ p := fun z => by subst z; exact (r _ u q).there e
    exact (r b u q).mono (Kp.newT e).ks (upd_ne hb)
  · rcases h with rfl | h
    · rw [upd_same]; simp
    · exact upd_there (r.st b h)
theorem RG.new (r : RG T H G) {p : Addr} {h : HO} {o : O} (e : H p = none) (n : RO T (G.up p o) (upd H p h) p o) : RG T (upd H p h) (G.up p o) := r.up (Kp.new e) n
theorem RG.fxT (r : RG T H G) {p : Addr} (e : H p = none) : Fx (G.fx p) p := ⟨.inl rfl, r.free e⟩
end
/-- the frame's places -/
def RS (T : Tx) (G : GS) (H : Hp) (ς : En) (σ : L2.St) : Prop := ς.length = σ.length ∧ ∀ (i : Nat) (a : A), ς[i]? = some (some a) → ∃ v, σ[i]? = some (some v) ∧ RV T G H a v
section
variable {T : Tx} {H H' : Hp} {G G' : GS}
theorem RS.mono {ς : En} {σ : L2.St} (h : RS T G H ς σ) (k : Kp G H G' H') : RS T G' H' ς σ :=
  ⟨h.1, fun i a e => let ⟨v, e1, r⟩ := h.2 i a e; ⟨v, e1, r.mono k⟩⟩
theorem RS.set {ς : En} {σ : L2.St} (h : RS T G H ς σ) (i : Nat) {a : A} {v : V} (r : RV T G H a v) : RS T G H (ς.set i (some a)) (σ.set i (some v)) := by
  refine ⟨by simpa using h.1, fun j b e => ?_⟩
  by_cases hj : i = j
  · subst hj
    by_cases hl : i < ς.length
    · rw [List.getElem?_set_self hl] at e
      cases e
      exact ⟨v, List.getElem?_set_self (by rw [← h.1]; exact hl), r⟩
    · rw [List.getElem?_eq_none (by simpa using hl)] at e; cases e
  · rw [List.getElem?_set_ne hj] at e
    obtain ⟨w, e1, r1⟩ := h.2 j b e
    exact ⟨w, by rw [List.getElem?_set_ne hj]; exact e1, r1⟩
/-- a place is read otherwise -/
theorem RS.seen {ς : En} {σ : L2.St} (h : RS T G H ς σ) (i : Nat) {a b : A} (e : ς[i]? = some (some a)) (r : ∀ v, RV T G H a v → RV T G H b v) : RS T G H (ς.set i (some b)) σ := by
  obtain ⟨v, e1, r1⟩ := h.2 i a e
  have z := h.set i (r v r1)
  have e2 : σ.set i (some v) = σ := by
    apply List.ext_getElem?
    intro j
    by_cases hj : i = j
    · subst hj; rw [List.getElem?_set_self (List.getElem?_eq_some_iff.mp e1).1, e1]
    · rw [List.getElem?_set_ne hj]
  rwa [e2] at z
/-- an object that nobody changes from here on, as a tree -/
def frz : O → A
  | .lst xs => .fro xs
  | .dct kvs => .fdc (kvs.map (·.1)) (kvs.map (·.2))
  | .ins C fs => .fin C (fs.map (·.1)) (fs.map (·.2))
theorem rk_split {kvs : List (A × A)} {qs : List (Key × V)} (h : RK T G H kvs qs) : kvs.map (·.1) = qs.map (fun q => keyA q.1) ∧ RVs T G H (kvs.map (·.2)) (qs.map (·.2)) := by
  unfold RK at h
  induction h with
  | nil => exact ⟨rfl, .nil⟩
  | cons r _ ih => exact ⟨by simp only [List.map_cons, r.1, ih.1], .cons r.2 ih.2⟩
theorem rkt_split {kvs : List (A × A)} {qs : List (List Key × V)} (h : RKT T G H kvs qs) : kvs.map (·.1) = qs.map (fun q => A.tup (q.1.map keyA)) ∧ RVs T G H (kvs.map (·.2)) (qs.map (·.2)) := by
  unfold RKT at h
  induction h with
  | nil => exact ⟨rfl, .nil⟩
  | cons r _ ih => exact ⟨by simp only [List.map_cons, r.1, ih.1], .cons r.2 ih.2⟩
theorem rf_split {kvs : List (Str × A)} {qs : List (Str × V)} (h : RF T G H kvs qs) : kvs.map (·.1) = qs.map (·.1) ∧ RVs T G H (kvs.map (·.2)) (qs.map (·.2)) := by
  unfold RF at h
  induction h with
  | nil => exact ⟨rfl, .nil⟩
  | cons r _ ih => exact ⟨by simp only [List.map_cons, r.1, ih.1], .cons r.2 ih.2⟩
theorem zip_maps {α β : Type} : ∀ l : List (α × β), (l.map (·.1)).zip (l.map (·.2)) = l
  | [] => rfl
  | x :: l => by simp [zip_maps l]
theorem rv_frz {p : Addr} {o : O} (g : Fx G p) (h : RO T G H p o) : RV T G H (frz o) (.ref p) := by
  cases o with
  | lst xs => obtain ⟨vs, e, r⟩ := h; simp only [frz, RV]; exact ⟨p, vs, rfl, g, e, r⟩
  | dct kvs =>
    simp only [frz, RV]
    rcases h with ⟨qs, e, r⟩ | ⟨qs, e, r⟩
    · obtain ⟨a, b⟩ := rk_split r
      exact ⟨p, _, rfl, g, b, .inl ⟨qs, e, a, rfl⟩⟩
    · obtain ⟨a, b⟩ := rkt_split r
      exact ⟨p, _, rfl, g, b, .inr ⟨qs, e, a, rfl⟩⟩
  | ins C fs =>
    obtain ⟨c, dx, gs, m, e, r⟩ := h
    obtain ⟨a, b⟩ := rf_split r
    simp only [frz, RV]
    refine ⟨p, c, dx, gs.map (·.2), rfl, g, m, ?_, by simp, b⟩
    rw [a, zip_maps]; exact e
/-- freezing: the value and the heap -/
theorem RG.frz (r : RG T H G) {p : Addr} {o : O} (e : G p = some o) : RV T (G.rm p) H (Q.frz o) (.ref p) := rv_frz ⟨.inl rfl, rm_self⟩ ((r p o e).mono (Kp.rm (by rw [e]; simp)).ks rfl)
end
end Q
/-! Q2: lifted readings; expressions. -/
namespace Q
open PySem PySem.Spec PyProof.Rows L2
/-- an exception that leaves: its class, its fields -/
def RX (T : Tx) (G : GS) (H : Hp) (e : Ex) (c : Value) (d : Option Addr) : Prop := ∃ a, T.cm e.cls = some a ∧ c = .ref a ∧ e.ns.length = e.vs.length ∧ match d with
  | none => e.ns = []
  | some x => Fx G x ∧ ∃ ws, H x = some (.xd (e.ns.zip ws)) ∧ RVs T G H e.vs ws
theorem RX.mono {T : Tx} {G G' : GS} {H H' : Hp} {e : Ex} {c : Value} {d : Option Addr} (h : RX T G H e c d) (k : Kp G H G' H') : RX T G' H' e c d := by
  obtain ⟨a, m, e1, l, h⟩ := h
  refine ⟨a, m, e1, l, ?_⟩
  cases d with
  | none => exact h
  | some x =>
    obtain ⟨g, ws, h1, h2⟩ := h
    exact ⟨(k.ks _ _ g h1).1, ws, (k.ks _ _ g h1).2, h2.mono k⟩
def LQ (T : Tx) (G : GS) (H : Hp) (Qa : KA) (Q : VK) : Prop := ∀ a (G' : GS) v H', Qa a G' → RV T G' H' a v → RG T H' G' → Kp G H G' H' → Q v H'
def LX (T : Tx) (G : GS) (H : Hp) (Xa : KX) (W : XK) : Prop := ∀ e (G' : GS) c d H', Xa e G' → RX T G' H' e c d → RG T H' G' → Kp G H G' H' → W c d H'
theorem LQ.step {T : Tx} {G G1 : GS} {H H1 : Hp} {Qa : KA} {Q : VK} (q : LQ T G H Qa Q) (k : Kp G H G1 H1) : LQ T G1 H1 Qa Q := fun a G' v H' h rv rg k' => q a G' v H' h rv rg (k.trans k')
theorem LX.step {T : Tx} {G G1 : GS} {H H1 : Hp} {Xa : KX} {W : XK} (q : LX T G H Xa W) (k : Kp G H G1 H1) : LX T G1 H1 Xa W := fun e G' c d H' h rv rg k' => q e G' c d H' h rv rg (k.trans k')
/-- an expression's reading, lifted -/
def lE (T : Tx) (W : L2.WX) (t : EA) : TE := fun σ H Q => ∃ ς, ∃ G : GS, ∃ Qa Xa, RS T G H ς σ ∧ RG T H G ∧ t ς G Qa Xa ∧ LQ T G H Qa Q ∧ LX T G H Xa (WE W σ)
def lB (T : Tx) (W : L2.WX) (t : BA) : TT := fun σ H Q => ∃ ς, ∃ G : GS, ∃ Qa Xa, RS T G H ς σ ∧ RG T H G ∧ t ς G Qa Xa ∧ (∀ b (G' : GS) H', Qa b G' → RG T H' G' → Kp G H G' H' → Q b H') ∧ LX T G H Xa (WE W σ)
def lL (T : Tx) (W : L2.WX) (t : LA) : TA := fun σ H Q => ∃ ς, ∃ G : GS, ∃ Qa Xa, RS T G H ς σ ∧ RG T H G ∧ t ς G Qa Xa ∧ (∀ as (G' : GS) vs H', Qa as G' → RVs T G' H' as vs → RG T H' G' → Kp G H G' H' → Q vs H') ∧ LX T G H Xa (WE W σ)
/-- operations of values -/
abbrev P1 := A → Gp → KA → Prop
abbrev P2 := A → A → Gp → KA → Prop
abbrev PN := List A → Gp → KA → Prop
def l2 (T : Tx) (f : P2) : R2 := fun x y H Q => ∃ a b, ∃ G : GS, ∃ Qa, RV T G H a x ∧ RV T G H b y ∧ RG T H G ∧ f a b G Qa ∧ LQ T G H Qa Q
def lN (T : Tx) (f : PN) : List V → Hp → VK → Prop := fun xs H Q => ∃ as, ∃ G : GS, ∃ Qa, RVs T G H as xs ∧ RG T H G ∧ f as G Qa ∧ LQ T G H Qa Q
def lM (T : Tx) (f : A → PN) : V → List V → Hp → VK → Prop := fun x xs H Q => ∃ a as, ∃ G : GS, ∃ Qa, RV T G H a x ∧ RVs T G H as xs ∧ RG T H G ∧ f a as G Qa ∧ LQ T G H Qa Q
theorem PE.imp {X : Cx} {e : Expr} {t t' : TE} (p : PE X e t) (h : ∀ σ H Q, t' σ H Q → t σ H Q) : PE X e t' := ⟨fun pins s σ H Q I q => p.run pins s σ H Q I (h σ H Q q)⟩
theorem PT.imp {X : Cx} {e : Expr} {t t' : TT} (p : PT X e t) (h : ∀ σ H Q, t' σ H Q → t σ H Q) : PT X e t' := ⟨fun pins s σ H Q I q => p.run pins s σ H Q I (h σ H Q q)⟩
theorem PA.imp {X : Cx} {e : List Expr} {t t' : TA} (p : PA X e t) (h : ∀ σ H Q, t' σ H Q → t σ H Q) : PA X e t' := ⟨fun pos pins s σ H Q I q => p.run pos pins s σ H Q I (h σ H Q q)⟩
theorem PS.imp {X : Cx} {e : Stmt} {t t' : TS} (p : PS X e t) (h : ∀ D σ H, t' D σ H → t D σ H) : PS X e t' := ⟨fun pins s σ H D I q => p.run pins s σ H D I (h D σ H q)⟩
theorem PSs.imp {X : Cx} {e : List Stmt} {t t' : TS} (p : PSs X e t) (h : ∀ D σ H, t' D σ H → t D σ H) : PSs X e t' := ⟨fun pins s σ H D I q => p.run pins s σ H D I (h D σ H q)⟩

/-! ### combinators -/
def eVar (i : Nat) : EA := fun ς G Q _ => match ς[i]? with
  | some (some a) => Q a G
  | _ => False
def eC (a : A) : EA := fun _ G Q _ => Q a G
def eBin (f : P2) (ta tb : EA) : EA := fun ς G Q X => ta ς G (fun x G1 => tb ς G1 (fun y G2 => f x y G2 Q) X) X
def eChain (f g : P2) (ta tb tc : EA) : EA := fun ς G Q X => ta ς G (fun x G1 => tb ς G1 (fun y G2 => f x y G2 fun z G3 => match z with
  | .bl true => tc ς G3 (fun w G4 => g y w G4 Q) X
  | .bl false => Q (.bl false) G3
  | _ => False) X) X
def eNeg (ta : EA) : EA := fun ς G Q X => ta ς G (fun x G1 => match x with
  | .int i => Q (.int (-i)) G1
  | _ => False) X
/-- a value's truth -/
def truA : A → Gp → (Bool → Gp → Prop) → Prop
  | .non, G, Q => Q false G
  | .bl b, G, Q => Q b G
  | .int i, G, Q => Q (i != 0) G
  | .str x, G, Q => x.length ≤ sizeLine ∧ Q (x.length != 0) G
  | .tup xs, G, Q => Q (!xs.isEmpty) G
  | .scr _, _, _ => False
  | .fro xs, G, Q => Q (!xs.isEmpty) G
  | .fdc _ _, _, _ => False
  | .fin _ _ _, _, _ => False
  | .exn _ _ _, _, _ => False
  | .ref a, G, Q => match G a with
    | some (.lst xs) => Q (!xs.isEmpty) G
    | _ => False
def eNot (ta : EA) : EA := fun ς G Q X => ta ς G (fun x G1 => truA x G1 fun b G2 => Q (.bl (!b)) G2) X
def eAnd (ta tb : EA) : EA := fun ς G Q X => ta ς G (fun x G1 => truA x G1 fun b G2 => if b = true then tb ς G2 Q X else Q x G2) X
def eOr (ta tb : EA) : EA := fun ς G Q X => ta ς G (fun x G1 => truA x G1 fun b G2 => if b = true then Q x G2 else tb ς G2 Q X) X
def eIf (t : BA) (ta tb : EA) : EA := fun ς G Q X => t ς G (fun b G1 => if b = true then ta ς G1 Q X else tb ς G1 Q X) X
def lNil : LA := fun _ G Q _ => Q [] G
def lCons (t : EA) (u : LA) : LA := fun ς G Q X => t ς G (fun a G1 => u ς G1 (fun as G2 => Q (a :: as) G2) X) X
def eTup (t : LA) : EA := fun ς G Q X => t ς G (fun as G1 => as.length ≤ sizeLine ∧ Q (.tup as) G1) X
/-- a new object: m: it may change later; else nobody changes it -/
def new (m : Bool) (o : O) (G : Gp) (Q : KA) : Prop := match m with
  | true => ∀ p, G p = none → Q (.ref p) (up G p o)
  | false => Q (frz o) G
def eLst (m : Bool) (t : LA) : EA := fun ς G Q X => t ς G (fun as G1 => as.length ≤ sizeLine ∧ new m (.lst as) G1 Q) X
def eDct0 (m : Bool) : EA := fun _ G Q _ => new m (.dct []) G Q
def eBi (f : PN) (t : LA) : EA := fun ς G Q X => t ς G (fun as G1 => f as G1 Q) X
def eMt (f : A → PN) (to : EA) (t : LA) : EA := fun ς G Q X => to ς G (fun x G1 => t ς G1 (fun as G2 => f x as G2 Q) X) X
abbrev Cal := String → List A → Gp → KA → KX → Prop
def eCall (c : Cal) (f : String) (t : LA) : EA := fun ς G Q X => t ς G (fun as G1 => c f as G1 Q X) X
/-! tests -/
def bV (t : EA) : BA := fun ς G Q X => t ς G (fun x G1 => truA x G1 Q) X
def bNot (t : BA) : BA := fun ς G Q X => t ς G (fun b G1 => Q (!b) G1) X
def bAnd (t u : BA) : BA := fun ς G Q X => t ς G (fun b G1 => if b = true then u ς G1 Q X else Q false G1) X
def bOr (t u : BA) : BA := fun ς G Q X => t ς G (fun b G1 => if b = true then Q true G1 else u ς G1 Q X) X
def bB (t : EA) : BA := fun ς G Q X => t ς G (fun x G1 => match x with
  | .bl b => Q b G1
  | _ => False) X

/-! ### their rules -/
section
variable {X : Cx} {T : Tx} {W : L2.WX} {a b e : Expr} {es : List Expr} {ta tb tc : EA} {t u : LA} {pos : Pos}
theorem p_var {i : Nat} {x : Str} (hN : X.N[i]? = some x) (hv : Vis X.env.scope x) (hd : (x == ("__debug__" : Str)) = false) (hcd : (x == ("__classdict__" : Str)) = false) : PE X (.Name x pos) (lE T W (eVar i)) := by
  refine PE.imp (pe_var hN hv hd hcd) fun σ H Q ⟨ς, G, Qa, Xa, rs, rg, h, q, _⟩ => ?_
  unfold eVar at h
  split at h
  · rename_i a e
    obtain ⟨v, e1, r⟩ := rs.2 i a e
    exact ⟨v, e1, q _ _ _ _ h r rg Kp.refl⟩
  · exact h.elim
theorem p_const {e : Expr} {a : A} {v : V} (h : PE X e (tC v)) (r : ∀ G H, RV T G H a v) : PE X e (lE T W (eC a)) :=
  PE.imp h fun σ H Q ⟨ς, G, Qa, Xa, rs, rg, h, q, _⟩ => q _ _ _ _ h (r G H) rg Kp.refl
theorem p_bin {op : Operator} {f : P2} (ho : OpR X (binaryOp op) (l2 T f)) (ha : PE X a (lE T W ta)) (hb : PE X b (lE T W tb)) : PE X (.BinOp a op b pos) (lE T W (eBin f ta tb)) := by
  refine PE.imp (pe_op ho ha hb) fun σ H Q ⟨ς, G, Qa, Xa, rs, rg, h, q, hx⟩ => ⟨ς, G, _, Xa, rs, rg, h, fun x G1 v H1 h1 rv rg1 k1 => ?_, hx⟩
  exact ⟨ς, G1, _, Xa, rs.mono k1, rg1, h1, fun y G2 w H2 h2 rw rg2 k2 => ⟨x, y, G2, Qa, rv.mono k2, rw, rg2, h2, q.step (k1.trans k2)⟩, hx.step k1⟩
theorem p_cmp {op : CmpOp} {f : P2} (ho : OpR X (compareOp op) (l2 T f)) (ha : PE X a (lE T W ta)) (hb : PE X b (lE T W tb)) (hm : behindInMarks op b = false) : PE X (.Compare a [op] [b] pos) (lE T W (eBin f ta tb)) := by
  refine PE.imp (pe_cmpR ho ha hb hm) fun σ H Q ⟨ς, G, Qa, Xa, rs, rg, h, q, hx⟩ => ⟨ς, G, _, Xa, rs, rg, h, fun x G1 v H1 h1 rv rg1 k1 => ?_, hx⟩
  exact ⟨ς, G1, _, Xa, rs.mono k1, rg1, h1, fun y G2 w H2 h2 rw rg2 k2 => ⟨x, y, G2, Qa, rv.mono k2, rw, rg2, h2, q.step (k1.trans k2)⟩, hx.step k1⟩
theorem RV.bl {T : Tx} {G : GS} {H : Hp} {a : A} {b : Bool} (h : RV T G H a (.bl b)) : a = .bl b := by
  cases a <;> simp only [RV] at h
  all_goals first | (cases h; rfl) | (exfalso; obtain ⟨_, _, z, _⟩ := h; cases z; done) | (exfalso; obtain ⟨_, _, _, _, z, _⟩ := h; cases z; done) | cases h
theorem q_cmp {op : CmpOp} {f : P2} (ho : OpR X (compareOp op) (l2 T f)) (ha : PE X a (lE T W ta)) (hb : PE X b (lE T W tb)) (hm : behindInMarks op b = false) : PT X (.Compare a [op] [b] pos) (lB T W (bB (eBin f ta tb))) := by
  refine PT.imp (pt_cmpR ho ha hb hm) fun σ H Q ⟨ς, G, Qa, Xa, rs, rg, h, q, hx⟩ => ⟨ς, G, _, Xa, rs, rg, h, fun x G1 v H1 h1 rv rg1 k1 => ?_, hx⟩
  refine ⟨ς, G1, _, Xa, rs.mono k1, rg1, h1, fun y G2 w H2 h2 rw rg2 k2 => ⟨x, y, G2, _, rv.mono k2, rw, rg2, h2, fun z G3 v3 H3 h3 r3 rg3 k3 => ?_⟩, hx.step k1⟩
  cases z with
  | bl bz => ?_
  | _ => exact False.elim h3
  simp only [RV] at r3
  exact ⟨_, r3, q _ _ _ h3 rg3 ((k1.trans k2).trans k3)⟩
theorem p_chain {op op' : CmpOp} {f g : P2} {c : Expr} (ho : OpR X (compareOp op) (l2 T f)) (ho' : OpR X (compareOp op') (l2 T g)) (ha : PE X a (lE T W ta)) (hb : PE X b (lE T W tb)) (hc : PE X c (lE T W tc))
    (hm : lastMarks [op, op'] [b, c] = false) : PE X (.Compare a [op, op'] [b, c] pos) (lE T W (eChain f g ta tb tc)) := by
  refine PE.imp (pe_chain ho ho' ha hb hc hm) fun σ H Q ⟨ς, G, Qa, Xa, rs, rg, h, q, hx⟩ => ⟨ς, G, _, Xa, rs, rg, h, fun x G1 v H1 h1 rv rg1 k1 => ?_, hx⟩
  refine ⟨ς, G1, _, Xa, rs.mono k1, rg1, h1, fun y G2 w H2 h2 rw rg2 k2 => ⟨x, y, G2, _, rv.mono k2, rw, rg2, h2, fun z G3 v3 H3 h3 r3 rg3 k3 => ?_⟩, hx.step k1⟩
  have k23 := k2.trans k3
  have k13 := k1.trans k23
  cases z with
  | bl bz => ?_
  | _ => exact False.elim h3
  simp only [RV] at r3
  subst r3
  refine ⟨bz, rfl, ?_⟩
  cases bz
  · exact q _ _ _ _ h3 (by simp only [RV]) rg3 k13
  · exact ⟨ς, G3, _, Xa, rs.mono k13, rg3, h3, fun w' G4 v4 H4 h4 r4 rg4 k4 => ⟨y, w', G4, Qa, rw.mono (k3.trans k4), r4, rg4, h4, q.step (k13.trans k4)⟩, hx.step k13⟩
theorem q_chain {op op' : CmpOp} {f g : P2} {c : Expr} (ho : OpR X (compareOp op) (l2 T f)) (ho' : OpR X (compareOp op') (l2 T g)) (ha : PE X a (lE T W ta)) (hb : PE X b (lE T W tb)) (hc : PE X c (lE T W tc))
    (hm : lastMarks [op, op'] [b, c] = false) : PT X (.Compare a [op, op'] [b, c] pos) (lB T W (bB (eChain f g ta tb tc))) := by
  refine PT.imp (pt_chain ho ho' ha hb hc hm) fun σ H Q ⟨ς, G, Qa, Xa, rs, rg, h, q, hx⟩ => ⟨ς, G, _, Xa, rs, rg, h, fun x G1 v H1 h1 rv rg1 k1 => ?_, hx⟩
  refine ⟨ς, G1, _, Xa, rs.mono k1, rg1, h1, fun y G2 w H2 h2 rw rg2 k2 => ⟨x, y, G2, _, rv.mono k2, rw, rg2, h2, fun z G3 v3 H3 h3 r3 rg3 k3 => ?_⟩, hx.step k1⟩
  have k23 := k2.trans k3
  have k13 := k1.trans k23
  cases z with
  | bl bz => ?_
  | _ => exact False.elim h3
  simp only [RV] at r3
  subst r3
  refine ⟨bz, rfl, ?_⟩
  cases bz
  · exact ⟨false, rfl, q _ _ _ h3 rg3 k13⟩
  · refine ⟨ς, G3, _, Xa, rs.mono k13, rg3, h3, fun w' G4 v4 H4 h4 r4 rg4 k4 => ⟨y, w', G4, _, rw.mono (k3.trans k4), r4, rg4, h4, fun z' G5 v5 H5 h5 r5 rg5 k5 => ?_⟩, hx.step k13⟩
    cases z' with
    | bl b5 => ?_
    | _ => exact False.elim h5
    simp only [RV] at r5
    exact ⟨b5, r5, q _ _ _ h5 rg5 ((k13.trans k4).trans k5)⟩
end
end Q
/-! Q3: truth, lists, calls. -/
namespace Q
open PySem PySem.Spec PyProof.Rows L2
section
variable {X : Cx} {T : Tx} {W : L2.WX} {a b e : Expr} {es rest : List Expr} {ta tb tc : EA} {t u : LA} {pos : Pos}
theorem tru_rep {G : GS} {H : Hp} {x : A} {v : V} {Q : Bool → Gp → Prop} (rg : RG T H G) (r : RV T G H x v) (h : truA x G Q) : ∃ k, TruV T.K v H k ∧ Q k G := by
  cases x with
  | non => simp only [RV] at r; subst r; exact ⟨false, rfl, h⟩
  | bl c => simp only [RV] at r; subst r; exact ⟨c, rfl, h⟩
  | int i => simp only [RV] at r; subst r; exact ⟨_, rfl, h⟩
  | str y =>
    simp only [RV] at r; subst r
    refine ⟨_, ⟨h.1, rfl⟩, ?_⟩
    have e : ((y.length : Int) != 0) = (y.length != 0) := by
      cases hy : y.length with
      | zero => rfl
      | succ n => rfl
    rw [e]; exact h.2
  | tup xs =>
    simp only [RV] at r
    obtain ⟨p, vs, rfl, s, rv⟩ := r
    refine ⟨_, .inr (.inl ⟨vs, s.sq, rfl⟩), ?_⟩
    have hl := rv.len
    have e : (!vs.isEmpty) = !xs.isEmpty := by cases vs <;> cases xs <;> simp_all
    rw [e]; exact h
  | fro xs =>
    simp only [RV] at r
    obtain ⟨p, vs, rfl, _, s, rv⟩ := r
    refine ⟨_, .inl ⟨vs, .of s, rfl⟩, ?_⟩
    have hl := rv.len
    have e : (!vs.isEmpty) = !xs.isEmpty := by cases vs <;> cases xs <;> simp_all
    rw [e]; exact h
  | scr _ => exact h.elim
  | fdc _ _ => exact h.elim
  | fin _ _ _ => exact h.elim
  | exn _ _ _ => exact h.elim
  | ref p =>
    simp only [RV] at r; subst r
    simp only [truA] at h
    cases hg : G p with
    | none => rw [hg] at h; exact h.elim
    | some o =>
      rw [hg] at h
      have ro := rg p o hg
      cases o with
      | lst xs =>
        obtain ⟨vs, e1, rv⟩ := ro
        have hl := rv.len
        have e : (!vs.isEmpty) = !xs.isEmpty := by cases vs <;> cases xs <;> simp_all
        exact ⟨_, .inl ⟨vs, .of e1, rfl⟩, by rw [e]; exact h⟩
      | dct _ => exact h.elim
      | ins _ _ => exact h.elim
theorem p_neg (ha : PE X a (lE T W ta)) : PE X (.UnaryOp .USub a pos) (lE T W (eNeg ta)) := by
  refine PE.imp (pe_un un_neg ha) fun σ H Q ⟨ς, G, Qa, Xa, rs, rg, h, q, hx⟩ => ⟨ς, G, _, Xa, rs, rg, h, fun x G1 v H1 h1 rv rg1 k1 => ?_, hx⟩
  cases x with
  | int i => ?_
  | _ => exact False.elim h1
  simp only [RV] at rv
  exact ⟨i, rv, q _ _ _ _ h1 (by simp only [RV]) rg1 k1⟩
theorem p_not (hT : T.K = X.K) (ha : PE X a (lE T W ta)) : PE X (.UnaryOp .Not a pos) (lE T W (eNot ta)) := by
  refine PE.imp (pe_notT ha) fun σ H Q ⟨ς, G, Qa, Xa, rs, rg, h, q, hx⟩ => ⟨ς, G, _, Xa, rs, rg, h, fun x G1 v H1 h1 rv rg1 k1 => ?_, hx⟩
  obtain ⟨k, tv, h2⟩ := tru_rep rg1 rv h1
  exact ⟨k, hT ▸ tv, q _ _ _ _ h2 (by simp only [RV]) rg1 k1⟩
theorem p_one {op : BoolOp} {t : TE} (h : PE X a t) : PE X (.BoolOp op [a] pos) t := pe_one h
theorem p_and (hT : T.K = X.K) (ha : PE X a (lE T W ta)) (hb : PE X (.BoolOp .And (b :: rest) pos) (lE T W tb)) : PE X (.BoolOp .And (a :: b :: rest) pos) (lE T W (eAnd ta tb)) := by
  refine PE.imp (pe_andT ha hb) fun σ H Q ⟨ς, G, Qa, Xa, rs, rg, h, q, hx⟩ => ⟨ς, G, _, Xa, rs, rg, h, fun x G1 v H1 h1 rv rg1 k1 => ?_, hx⟩
  obtain ⟨k, tv, h2⟩ := tru_rep rg1 rv h1
  refine ⟨k, hT ▸ tv, ?_⟩
  cases k
  · rw [if_neg Bool.false_ne_true] at h2 ⊢
    exact q _ _ _ _ h2 rv rg1 k1
  · rw [if_pos rfl] at h2 ⊢
    exact ⟨ς, G1, Qa, Xa, rs.mono k1, rg1, h2, q.step k1, hx.step k1⟩
theorem p_or (hT : T.K = X.K) (ha : PE X a (lE T W ta)) (hb : PE X (.BoolOp .Or (b :: rest) pos) (lE T W tb)) : PE X (.BoolOp .Or (a :: b :: rest) pos) (lE T W (eOr ta tb)) := by
  refine PE.imp (pe_orT ha hb) fun σ H Q ⟨ς, G, Qa, Xa, rs, rg, h, q, hx⟩ => ⟨ς, G, _, Xa, rs, rg, h, fun x G1 v H1 h1 rv rg1 k1 => ?_, hx⟩
  obtain ⟨k, tv, h2⟩ := tru_rep rg1 rv h1
  refine ⟨k, hT ▸ tv, ?_⟩
  cases k
  · rw [if_neg Bool.false_ne_true] at h2 ⊢
    exact ⟨ς, G1, Qa, Xa, rs.mono k1, rg1, h2, q.step k1, hx.step k1⟩
  · rw [if_pos rfl] at h2 ⊢
    exact q _ _ _ _ h2 rv rg1 k1
theorem p_if {c : Expr} {tt : BA} (hc : PT X c (lB T W tt)) (ha : PE X a (lE T W ta)) (hb : PE X b (lE T W tb)) : PE X (.IfExp c a b pos) (lE T W (eIf tt ta tb)) := by
  refine PE.imp (pe_ifExp hc ha hb) fun σ H Q ⟨ς, G, Qa, Xa, rs, rg, h, q, hx⟩ => ⟨ς, G, _, Xa, rs, rg, h, fun k G1 H1 h1 rg1 k1 => ?_, hx⟩
  cases k
  · rw [if_neg Bool.false_ne_true] at h1 ⊢
    exact ⟨ς, G1, Qa, Xa, rs.mono k1, rg1, h1, q.step k1, hx.step k1⟩
  · rw [if_pos rfl] at h1 ⊢
    exact ⟨ς, G1, Qa, Xa, rs.mono k1, rg1, h1, q.step k1, hx.step k1⟩
/-! tests -/
theorem q_val (hT : T.K = X.K) (ha : PE X a (lE T W ta)) (he : ∀ whole, isTrue a X.env whole = (do let v ← whole; standAt a.pos; holding [v] (truthy v))) : PT X a (lB T W (bV ta)) := by
  refine PT.imp (pt_truth ha he) fun σ H Q ⟨ς, G, Qa, Xa, rs, rg, h, q, hx⟩ => ⟨ς, G, _, Xa, rs, rg, h, fun x G1 v H1 h1 rv rg1 k1 => ?_, hx⟩
  obtain ⟨k, tv, h2⟩ := tru_rep rg1 rv h1
  exact ⟨k, hT ▸ tv, q _ _ _ h2 rg1 k1⟩
theorem q_not {tt : BA} (ha : PT X a (lB T W tt)) : PT X (.UnaryOp .Not a pos) (lB T W (bNot tt)) :=
  PT.imp (pt_not ha) fun σ H Q ⟨ς, G, Qa, Xa, rs, rg, h, q, hx⟩ => ⟨ς, G, _, Xa, rs, rg, h, fun k G1 H1 h1 rg1 k1 => q _ _ _ h1 rg1 k1, hx⟩
theorem PW.imp {X : Cx} {e : Expr} {t t' : TT} (p : PW X e t) (h : ∀ σ H Q, t' σ H Q → t σ H Q) : PW X e t' := ⟨fun wh pins s σ H Q I q => p.run wh pins s σ H Q I (h σ H Q q)⟩
theorem q_and1 {tt : BA} (ha : PT X a (lB T W tt)) : PW X (.BoolOp .And [a] pos) (lB T W tt) := pw_and1 ha
theorem q_or1 {tt : BA} (ha : PT X a (lB T W tt)) : PW X (.BoolOp .Or [a] pos) (lB T W tt) := pw_or1 ha
theorem q_and {tt uu : BA} (ha : PT X a (lB T W tt)) (hb : PW X (.BoolOp .And (b :: rest) pos) (lB T W uu)) : PW X (.BoolOp .And (a :: b :: rest) pos) (lB T W (bAnd tt uu)) := by
  refine PW.imp (pw_and ha hb) fun σ H Q ⟨ς, G, Qa, Xa, rs, rg, h, q, hx⟩ => ⟨ς, G, _, Xa, rs, rg, h, fun k G1 H1 h1 rg1 k1 => ?_, hx⟩
  cases k
  · rw [if_neg Bool.false_ne_true] at h1 ⊢
    exact q _ _ _ h1 rg1 k1
  · rw [if_pos rfl] at h1 ⊢
    exact ⟨ς, G1, Qa, Xa, rs.mono k1, rg1, h1, fun b' G' H' z rg' k' => q b' G' H' z rg' (k1.trans k'), hx.step k1⟩
theorem q_or {tt uu : BA} (ha : PT X a (lB T W tt)) (hb : PW X (.BoolOp .Or (b :: rest) pos) (lB T W uu)) : PW X (.BoolOp .Or (a :: b :: rest) pos) (lB T W (bOr tt uu)) := by
  refine PW.imp (pw_or ha hb) fun σ H Q ⟨ς, G, Qa, Xa, rs, rg, h, q, hx⟩ => ⟨ς, G, _, Xa, rs, rg, h, fun k G1 H1 h1 rg1 k1 => ?_, hx⟩
  cases k
  · rw [if_neg Bool.false_ne_true] at h1 ⊢
    exact ⟨ς, G1, Qa, Xa, rs.mono k1, rg1, h1, fun b' G' H' z rg' k' => q b' G' H' z rg' (k1.trans k'), hx.step k1⟩
  · rw [if_pos rfl] at h1 ⊢
    exact q _ _ _ h1 rg1 k1
/-! lists of expressions -/
theorem l_nil : PA X [] (lL T W lNil) := PA.imp pa_nil fun σ H Q ⟨ς, G, Qa, Xa, rs, rg, h, q, hx⟩ => q _ _ _ _ h rfl rg Kp.refl
theorem l_cons (ha : PE X e (lE T W ta)) (hr : PA X es (lL T W t)) (hs : starEach (e :: es) X.env = (false, eval e X.env) :: starEach es X.env) : PA X (e :: es) (lL T W (lCons ta t)) := by
  refine PA.imp (pa_cons ha hr hs) fun σ H Q ⟨ς, G, Qa, Xa, rs, rg, h, q, hx⟩ => ⟨ς, G, _, Xa, rs, rg, h, fun x G1 v H1 h1 rv rg1 k1 => ?_, hx⟩
  exact ⟨ς, G1, _, Xa, rs.mono k1, rg1, h1, fun as G2 vs H2 h2 rw rg2 k2 => q _ _ _ _ h2 (.cons (rv.mono k2) rw) rg2 (k1.trans k2), hx.step k1⟩
theorem p_tup {x1 : Nat} (h : PA X es (lL T W t)) : PE X (.Tuple es x1 pos) (lE T W (eTup t)) := by
  refine PE.imp (pe_tup h) fun σ H Q ⟨ς, G, Qa, Xa, rs, rg, h, q, hx⟩ => ⟨ς, G, _, Xa, rs, rg, h, fun as G1 vs H1 h1 rv rg1 k1 => ?_, hx⟩
  refine ⟨by rw [rv.len]; exact h1.1, fun p hp => ?_⟩
  exact q _ (G1.fx p) _ _ h1.2 (by simp only [RV]; exact ⟨p, vs, rfl, .inl ⟨rg1.fxT hp, upd_same⟩, rv.mono (Kp.newT hp)⟩) (rg1.newT hp) (k1.trans (Kp.newT hp))
theorem new_obj {m : Bool} {p : Addr} {T : Tx} {G1 : GS} {H1 : Hp} {o : O} {h : HO} {Qa : KA} {Q : VK} (rg1 : RG T H1 G1) (n : ∀ G' : GS, Kp G1 H1 G' (upd H1 p h) → RO T G' (upd H1 p h) p o) (hn : new m o G1 Qa) (q : LQ T G1 H1 Qa Q) (hp : H1 p = none) : Q (.ref p) (upd H1 p h) := by
  cases m with
  | true => exact q _ (G1.up p o) _ _ (hn p (rg1.free hp)) (by simp only [RV]) (rg1.new hp (n _ (Kp.new hp))) (Kp.new hp)
  | false => exact q _ (G1.fx p) _ _ hn (rv_frz (rg1.fxT hp) (n _ (Kp.newT hp))) (rg1.newT hp) (Kp.newT hp)
theorem new_lst {m : Bool} {T : Tx} {G1 : GS} {H1 : Hp} {as : List A} {vs : List V} {Qa : KA} {Q : VK} (rg1 : RG T H1 G1) (rv : RVs T G1 H1 as vs) (h : new m (.lst as) G1 Qa) (q : LQ T G1 H1 Qa Q) {p : Addr} (hp : H1 p = none) : Q (.ref p) (upd H1 p (.lst vs)) :=
  new_obj (o := .lst as) rg1 (fun G' k => ⟨vs, upd_same, rv.mono k⟩) h q hp
theorem p_lst {m : Bool} (h : PA X es (lL T W t)) : PE X (.List es pos) (lE T W (eLst m t)) := by
  refine PE.imp (pe_lst h) fun σ H Q ⟨ς, G, Qa, Xa, rs, rg, h, q, hx⟩ => ⟨ς, G, _, Xa, rs, rg, h, fun as G1 vs H1 h1 rv rg1 k1 => ?_, hx⟩
  exact ⟨by rw [rv.len]; exact h1.1, fun p hp => new_lst rg1 rv h1.2 (q.step k1) hp⟩
theorem p_dct0 {m : Bool} : PE X (.Dict [] [] pos) (lE T W (eDct0 m)) := by
  refine PE.imp pe_dnewK fun σ H Q ⟨ς, G, Qa, Xa, rs, rg, h, q, hx⟩ => fun p hp => ?_
  exact new_obj (o := .dct []) rg (fun G' k => .inl ⟨[], upd_same, .nil⟩) h q hp
theorem p_bi {f : PN} {x : Str} {p : Pos} {id : String} (hc : CallR X (.builtin id) (lN T f)) (hg : Gl X x) (hm : X.mg x = none) (hv : bootBuiltins x = some (.builtin id)) (ha : PA X (e :: es) (lL T W t)) (hn : x ≠ "__name__") (hdb : (x == ("__debug__" : Str)) = false)
    (he : starEach (e :: es) X.env = (false, eval e X.env) :: starEach es X.env) (hpl : (backTo pos (starEach es X.env)).any (·.1) = false) : PE X (.Call (.Name x p) (e :: es) [] pos) (lE T W (eBi f t)) := by
  refine PE.imp (pe_callB hc hg hm hv ha hn hdb he hpl) fun σ H Q ⟨ς, G, Qa, Xa, rs, rg, h, q, hx⟩ => ⟨ς, G, _, Xa, rs, rg, h, fun as G1 vs H1 h1 rv rg1 k1 => ?_, hx⟩
  exact ⟨as, G1, Qa, rv, rg1, h1, q.step k1⟩
theorem p_bt {f : PN} {x : Str} {p : Pos} {id : String} (hc : CallR X (.type id) (lN T f)) (hg : Gl X x) (hm : X.mg x = none) (hv : bootBuiltins x = some (.type id)) (ha : PA X (e :: es) (lL T W t)) (hn : x ≠ "__name__") (hdb : (x == ("__debug__" : Str)) = false)
    (he : starEach (e :: es) X.env = (false, eval e X.env) :: starEach es X.env) (hpl : (backTo pos (starEach es X.env)).any (·.1) = false) : PE X (.Call (.Name x p) (e :: es) [] pos) (lE T W (eBi f t)) := by
  refine PE.imp (pe_callTy hc hg hm hv ha hn hdb he hpl) fun σ H Q ⟨ς, G, Qa, Xa, rs, rg, h, q, hx⟩ => ⟨ς, G, _, Xa, rs, rg, h, fun as G1 vs H1 h1 rv rg1 k1 => ?_, hx⟩
  exact ⟨as, G1, Qa, rv, rg1, h1, q.step k1⟩
end
end Q
/-! Qr: the text of data, where only the addresses of dicts must not be the module table's. -/
namespace Q
open PySem PySem.Spec PyProof.Rows L2
/-- the dicts that a reading goes over are not the module table -/
def NoSys (h : Heap) (as : List Addr) : Prop := ∀ a ∈ as, (∃ o es ep, h.get? a = some o ∧ o.data = .dict es ep) → a ≠ sysModules
section
variable {h : Heap} {as bs : List Addr} {a : Addr}
theorem NoSys.nil : NoSys h [] := fun _ z => nomatch z
theorem NoSys.app (x : NoSys h as) (y : NoSys h bs) : NoSys h (as ++ bs) := fun a m => by
  rcases List.mem_append.mp m with m | m
  · exact x a m
  · exact y a m
theorem NoSys.left (x : NoSys h (as ++ bs)) : NoSys h as := fun a m => x a (List.mem_append_left _ m)
theorem NoSys.right (x : NoSys h (as ++ bs)) : NoSys h bs := fun a m => x a (List.mem_append_right _ m)
theorem NoSys.tail (x : NoSys h (a :: as)) : NoSys h as := fun b m => x b (List.mem_cons_of_mem _ m)
theorem NoSys.seq {o : Obj} {vs : Array Value} {n : Nat} (ho : h.get? a = some o) (hd : o.data = .seq vs n) (x : NoSys h as) : NoSys h (a :: as) := fun b m => by
  rcases List.mem_cons.mp m with rfl | m
  · rintro ⟨o', es, ep, e, d⟩
    rw [ho] at e; cases e
    rw [hd] at d; cases d
  · exact x b m
theorem NoSys.dct (ne : a ≠ sysModules) (x : NoSys h as) : NoSys h (a :: as) := fun b m => by
  rcases List.mem_cons.mp m with rfl | m
  · exact fun _ => ne
  · exact x b m
end
section
variable {P : Program} {w : World} {h₀ : Heap}
mutual
theorem rk_one : ∀ {v : Value} {d : PyData} {as : List Addr}, Reads h₀ v d as → d.showable = true → NoSys h₀ as → d.shown.length ≤ sizeLine →
    ∃ bs, ReadAtMost h₀ d.depth bs ∧ ReprK P w bs h₀ d.depth v d.shown
  | _, _, _, .none, _, _, _ =>
    ⟨[], (fun _ z => nomatch z), by simp only [PyData.shown]
                                    exact .of_is ReprIs.none _ _ _⟩
  | _, _, _, .bool b, _, _, _ =>
    ⟨[], (fun _ z => nomatch z), by simp only [PyData.shown]
                                    exact .of_is (ReprIs.bool b) _ _ _⟩
  | _, _, _, .int i t, sh, _, _ =>
    ⟨[], (fun _ z => nomatch z), by simp only [PyData.shown]
                                    exact .of_is (ReprIs.int t (by simpa [PyData.showable] using sh)) _ _ _⟩
  | _, _, _, .str x t, _, _, sz =>
    ⟨[], (fun _ z => nomatch z), by simp only [PyData.shown]
                                    exact .of_is (ReprIs.str x t (by simpa only [PyData.shown] using sz)) _ _ _⟩
  | _, _, _, .list (a := a) (vs := vs) (xs := xs) e1 e2 e3 e4, sh, ns, sz => by
    have sz' : (listText (PyData.shownAll xs)).length ≤ sizeLine := by
      simpa only [PyData.shown] using sz
    obtain ⟨bs, hb, hk⟩ := rk_all e4 (by simpa [PyData.showable] using sh) ns.tail
      (fun t ht => Nat.le_trans (listText_mem_le ht) sz')
    have r : Reads h₀ (.ref a) (.list xs) _ :=
      .list e1 e2 e3 e4
    have na : a ∉ bs :=
      not_mem_of_deeper r (by simp only [PyData.depth]; omega) hb
    refine ⟨a :: bs,
      ReadAtMost.cons r (by simp only [PyData.depth]; omega) hb, ?_⟩
    simp only [PyData.depth, PyData.shown]
    obtain ⟨l⟩ := vs
    cases l with
    | nil =>
      have e5 : ReadsAll h₀ [] xs _ := e4
      cases e5
      simp only [PyData.shownAll, listText_nil]
      exact ReprK.listEmpty e1 e2 e3
    | cons x l =>
      exact ReprK.list e1 e2 e3 na (by simpa using hk.length_eq)
        (fun i y e => hk.item i y (by simpa using e))
  | _, _, _, .tuple (a := a) (xs := xs) e1 e2 e3 e4, sh, ns, sz => by
    have sz' : (tupleText (PyData.shownAll xs)).length ≤ sizeLine := by
      simpa only [PyData.shown] using sz
    obtain ⟨bs, hb, hk⟩ := rk_all e4 (by simpa [PyData.showable] using sh) ns
      (fun t ht => Nat.le_trans (tupleText_mem_le ht) sz')
    have r : Reads h₀ (.ref a) (.tuple xs) _ :=
      .tuple e1 e2 e3 e4
    have na : a ∉ bs :=
      not_mem_of_deeper r (by simp only [PyData.depth]; omega) hb
    refine ⟨a :: bs,
      ReadAtMost.cons r (by simp only [PyData.depth]; omega) hb, ?_⟩
    simp only [PyData.depth, PyData.shown]
    exact ReprK.tuple e1 e2 e3 na hk
  | _, _, _, .dict (a := a) (es := es) (kvs := kvs) (as := p1) (bs := p2) e1 e2 e3 e4 e5, sh, ns, sz => by
    have sz' : (dictText (PyData.shownKv kvs)).length ≤ sizeLine := by
      simpa only [PyData.shown] using sz
    obtain ⟨s1, s2⟩ := PyData.showableKv_split kvs
      (by simpa [PyData.showable] using sh)
    have ns' : NoSys h₀ (p1 ++ p2) := by simpa using ns.tail
    obtain ⟨b1, hb1, k1⟩ := rk_all e4 s1 ns'.left fun t ht =>
      let ⟨p, hp, hl⟩ := PyData.shownKv_key_le kvs t ht
      Nat.le_trans hl (Nat.le_trans (dictText_mem_le hp) sz')
    obtain ⟨b2, hb2, k2⟩ := rk_all e5 s2 ns'.right fun t ht =>
      let ⟨p, hp, hl⟩ := PyData.shownKv_val_le kvs t ht
      Nat.le_trans hl (Nat.le_trans (dictText_mem_le hp) sz')
    have r : Reads h₀ (.ref a) (.dict kvs) _ :=
      .dict e1 e2 e3 e4 e5
    have hb : ReadAtMost h₀ (PyData.depthKv kvs) (b1 ++ b2) :=
      (hb1.mono (PyData.depthAll_keys_le kvs)).append
        (hb2.mono (PyData.depthAll_vals_le kvs))
    have na : a ∉ b1 ++ b2 :=
      not_mem_of_deeper r (by simp only [PyData.depth]; omega) hb
    have hs : (a == sysModules) = false :=
      beq_eq_false_iff_ne.mpr (ns a (by simp) ⟨_, _, _, e1, e3⟩)
    refine ⟨a :: (b1 ++ b2),
      ReadAtMost.cons r (by simp only [PyData.depth]; omega) hb, ?_⟩
    simp only [PyData.depth, PyData.shown, PyData.shownKv_eq]
    refine ReprK.dict e1 e2 e3 hs na (ReprEntriesK.of_two es.toList _ _ ?_ ?_)
    · exact k1.more_le (fun b z => List.mem_append_left _ z)
        (PyData.depthAll_keys_le kvs)
    · exact k2.more_le (fun b z => List.mem_append_right _ z)
        (PyData.depthAll_vals_le kvs)
theorem rk_all : ∀ {vs : List Value} {ds : List PyData} {as : List Addr}, ReadsAll h₀ vs ds as → PyData.showableAll ds = true → NoSys h₀ as → (∀ t ∈ PyData.shownAll ds, t.length ≤ sizeLine) →
    ∃ bs, ReadAtMost h₀ (PyData.depthAll ds) bs ∧ ReprAllK P w bs h₀ (PyData.depthAll ds) vs (PyData.shownAll ds)
  | _, _, _, .nil, _, _, _ =>
    ⟨[], (fun _ z => nomatch z), by simp only [PyData.shownAll]
                                    exact .nil⟩
  | _, _, _, .cons (d := d) (ds := ds) r rs, sh, ns, sz => by
    have sh' : d.showable = true ∧ PyData.showableAll ds = true := by
      simpa [PyData.showableAll] using sh
    obtain ⟨b1, hb1, k1⟩ := rk_one r sh'.1 ns.left
      (sz _ (by simp only [PyData.shownAll]; exact List.mem_cons_self ..))
    obtain ⟨b2, hb2, k2⟩ := rk_all rs sh'.2 ns.right fun t ht =>
      sz t (by simp only [PyData.shownAll]; exact List.mem_cons_of_mem _ ht)
    refine ⟨b1 ++ b2, ?_, ?_⟩
    · intro b hm
      simp only [PyData.depthAll]
      rcases List.mem_append.mp hm with hm | hm
      · obtain ⟨d', as', r', q⟩ := hb1 b hm
        exact ⟨d', as', r', Nat.le_trans q (Nat.le_max_left _ _)⟩
      · obtain ⟨d', as', r', q⟩ := hb2 b hm
        exact ⟨d', as', r', Nat.le_trans q (Nat.le_max_right _ _)⟩
    · simp only [PyData.depthAll, PyData.shownAll]
      refine .cons ?_ ?_
      · exact (k1.more fun b z => List.mem_append_left _ z).level_le
          (Nat.le_max_left _ _)
      · exact k2.more_le (fun b z => List.mem_append_right _ z)
          (Nat.le_max_right _ _)
end
/-- repr of what stands at an address -/
theorem repr_ref {a : Addr} {d : PyData} {as : List Addr} {A : Around} {E : Value → Shared → Prop} {s : Shared} {Q : Value → Shared → Prop} (r : Reads s.heap (.ref a) d as) (sh : d.showable = true) (ns : NoSys s.heap as) (hg : A.guards = some [])
    (hu : A.units + (d.depth + 1) < cLine) (sz : d.shown.length ≤ sizeLine)
    (hQ : ∀ h' u tk, (∀ b o, s.heap.get? b = some o → h'.get? b = some o) → Q (.str d.shown u) { s with heap := h', toks := tk }) :
    wpAny (model P w) A (call (.builtin "repr") [.ref a]) Q E s := by
  have kp : ∀ b o, s.heap.get? b = some o → s.heap.get? b = some o := fun _ _ e => e
  have go : ∀ {T idr : String}, s.TypeIs (.ref a) T → SlotG T "__repr__" idr →
      wpAny (model P w) A.in1 (call (.builtin idr) [.ref a]) (fun v s1 => ∃ x u, v = .str x u ∧ Q (.str x u) s1) E s →
      wpAny (model P w) A (call (.builtin "repr") [.ref a]) Q E s := fun t sl c =>
    call_repr_slot (by omega) t sl (wpAny_mono c (fun v s1 ⟨x, u, e, q⟩ => ⟨x, u, e, by subst e; exact q⟩) fun _ _ z => z)
  have hu1 : A.in1.units + d.depth < cLine := by
    show A.units + 1 + d.depth < cLine
    omega
  have fin : ∀ h' u tk, (∀ b o, s.heap.get? b = some o → h'.get? b = some o) →
      (∃ x u', Value.str d.shown u = .str x u' ∧ Q (.str x u') { s with heap := h', toks := tk }) :=
    fun h' u tk hk => ⟨_, _, rfl, hQ h' u tk hk⟩
  cases r with
  | list e1 e2 e3 e4 =>
    rename_i o vs n xs bs0
    have sz' : (listText (PyData.shownAll xs)).length ≤ sizeLine := by
      simpa only [PyData.shown] using sz
    obtain ⟨bs, hb, hk⟩ := rk_all (P := P) (w := w) e4 (by simpa [PyData.showable] using sh) ns.tail
      (fun t ht => Nat.le_trans (listText_mem_le ht) sz')
    have na : a ∉ bs :=
      not_mem_of_deeper (.list e1 e2 e3 e4) (by simp only [PyData.depth]; omega) hb
    refine go ⟨o, e1, e2⟩ F.slot_list_repr.toG ?_
    simp only [PyData.depth] at hu1
    simp only [PyData.shown] at fin
    obtain ⟨l⟩ := vs
    cases l with
    | nil =>
      have e5 : ReadsAll s.heap [] xs _ := e4
      cases e5
      simp only [PyData.shownAll, listText_nil] at fin
      exact call_list_repr_empty ⟨o, e1, e2⟩ e1 e3 (fin s.heap _ _ fun _ _ e => e)
    | cons x l =>
      exact call_list_reprK e1 e2 e3 na (by simpa using hk.length_eq)
        (fun i y e => hk.item i y (by simpa using e)) hg (fun b _ => Clear.nil b) hu1 kp fin sz'
  | tuple e1 e2 e3 e4 =>
    rename_i o vs n xs
    have sz' : (tupleText (PyData.shownAll xs)).length ≤ sizeLine := by
      simpa only [PyData.shown] using sz
    obtain ⟨bs, hb, hk⟩ := rk_all (P := P) (w := w) e4 (by simpa [PyData.showable] using sh) ns
      (fun t ht => Nat.le_trans (tupleText_mem_le ht) sz')
    have na : a ∉ bs :=
      not_mem_of_deeper (.tuple e1 e2 e3 e4) (by simp only [PyData.depth]; omega) hb
    refine go ⟨o, e1, e2⟩ F.slot_tuple_repr ?_
    simp only [PyData.depth] at hu1
    simp only [PyData.shown] at fin
    exact call_tuple_reprK e1 e2 e3 na hk hg (fun b _ => Clear.nil b) hu1 kp fin sz'
  | dict e1 e2 e3 e4 e5 =>
    rename_i o es n kvs p1 p2
    have sz' : (dictText (PyData.shownKv kvs)).length ≤ sizeLine := by
      simpa only [PyData.shown] using sz
    obtain ⟨s1, s2⟩ := PyData.showableKv_split kvs
      (by simpa [PyData.showable] using sh)
    have ns' : NoSys s.heap (p1 ++ p2) := by simpa using ns.tail
    obtain ⟨b1, hb1, k1⟩ := rk_all (P := P) (w := w) e4 s1 ns'.left fun t ht =>
      let ⟨p, hp, hl⟩ := PyData.shownKv_key_le kvs t ht
      Nat.le_trans hl (Nat.le_trans (dictText_mem_le hp) sz')
    obtain ⟨b2, hb2, k2⟩ := rk_all (P := P) (w := w) e5 s2 ns'.right fun t ht =>
      let ⟨p, hp, hl⟩ := PyData.shownKv_val_le kvs t ht
      Nat.le_trans hl (Nat.le_trans (dictText_mem_le hp) sz')
    have hb : ReadAtMost s.heap (PyData.depthKv kvs) (b1 ++ b2) :=
      (hb1.mono (PyData.depthAll_keys_le kvs)).append
        (hb2.mono (PyData.depthAll_vals_le kvs))
    have na : a ∉ b1 ++ b2 :=
      not_mem_of_deeper (.dict e1 e2 e3 e4 e5) (by simp only [PyData.depth]; omega) hb
    have hs : (a == sysModules) = false :=
      beq_eq_false_iff_ne.mpr (ns a (by simp) ⟨_, _, _, e1, e3⟩)
    refine go ⟨o, e1, e2⟩ F.slot_dict_repr ?_
    simp only [PyData.depth] at hu1
    simp only [PyData.shown, PyData.shownKv_eq] at fin
    refine call_dict_reprK e1 e2 e3 hs na (ReprEntriesK.of_two es.toList _ _ ?_ ?_) hg (fun b _ => Clear.nil b) hu1 kp fin
      (by rw [← PyData.shownKv_eq]; exact sz')
    · exact k1.more_le (fun b z => List.mem_append_left _ z)
        (PyData.depthAll_keys_le kvs)
    · exact k2.more_le (fun b z => List.mem_append_right _ z)
        (PyData.depthAll_vals_le kvs)
end
end Q
/-! Q4: operations on values. -/
namespace Q
open PySem PySem.Spec PyProof.Rows L2
/-- what the written part is known to hold -/
structure Tx.Ok (T : Tx) (X : Cx) : Prop where
  k : T.K = X.K
/-! ### data -/
def optL {α β : Type} (f : α → Option β) : List α → Option (List β)
  | [] => some []
  | x :: xs => match f x, optL f xs with
    | some a, some b => some (a :: b)
    | _, _ => none
theorem optL_cons {α β : Type} {f : α → Option β} {x : α} {xs : List α} {r : List β} (h : optL f (x :: xs) = some r) : ∃ a b, f x = some a ∧ optL f xs = some b ∧ r = a :: b := by
  simp only [optL] at h
  cases h1 : f x with
  | none => rw [h1] at h; cases h
  | some a =>
    cases h2 : optL f xs with
    | none => rw [h1, h2] at h; cases h
    | some b => rw [h1, h2] at h; cases h; exact ⟨a, b, rfl, rfl, rfl⟩
mutual
/-- the data that a value stands for -/
inductive Dt (G : Gp) : A → PyData → Prop where
  | non : Dt G .non .none
  | bl {b : Bool} : Dt G (.bl b) (.bool b)
  | int {i : Int} : Dt G (.int i) (.int i)
  | str {x : Str} : Dt G (.str x) (.str x)
  | tup {xs : List A} {ds : List PyData} : Dts G xs ds → Dt G (.tup xs) (.tuple ds)
  | fro {xs : List A} {ds : List PyData} : Dts G xs ds → Dt G (.fro xs) (.list ds)
  | fdc {ks vs : List A} {cs ds : List PyData} : Dts G ks cs → Dts G vs ds → ks.length = vs.length → Dt G (.fdc ks vs) (.dict (cs.zip ds))
  | lst {p : Addr} {xs : List A} {ds : List PyData} : G p = some (.lst xs) → Dts G xs ds → Dt G (.ref p) (.list ds)
  | dct {p : Addr} {kvs : List (A × A)} {cs ds : List PyData} : G p = some (.dct kvs) → Dts G (kvs.map (·.1)) cs → Dts G (kvs.map (·.2)) ds → Dt G (.ref p) (.dict (cs.zip ds))
inductive Dts (G : Gp) : List A → List PyData → Prop where
  | nil : Dts G [] []
  | cons {x : A} {d : PyData} {xs : List A} {ds : List PyData} : Dt G x d → Dts G xs ds → Dts G (x :: xs) (d :: ds)
end
theorem Dts.len {G : Gp} : ∀ {xs : List A} {ds : List PyData}, Dts G xs ds → ds.length = xs.length
  | _, _, .nil => rfl
  | _, _, .cons _ h => by simp [Dts.len h]
mutual
/-- the data of a tree that has no address -/
def pyd : A → Option PyData
  | .non => some .none
  | .bl b => some (.bool b)
  | .int i => some (.int i)
  | .str x => some (.str x)
  | .tup xs => (pyds xs).map .tuple
  | .fro xs => (pyds xs).map .list
  | .fdc ks vs => match pyds ks, pyds vs with
    | some cs, some ds => if ks.length = vs.length then some (.dict (cs.zip ds)) else none
    | _, _ => none
  | .scr _ => none
  | .fin _ _ _ => none
  | .exn _ _ _ => none
  | .ref _ => none
def pyds : List A → Option (List PyData)
  | [] => some []
  | x :: xs => match pyd x, pyds xs with
    | some d, some ds => some (d :: ds)
    | _, _ => none
end
theorem pyds_cons {x : A} {xs : List A} {r : List PyData} (h : pyds (x :: xs) = some r) : ∃ d ds, pyd x = some d ∧ pyds xs = some ds ∧ r = d :: ds := by
  simp only [pyds] at h
  cases h1 : pyd x with
  | none => rw [h1] at h; cases h
  | some a =>
    cases h2 : pyds xs with
    | none => rw [h1, h2] at h; cases h
    | some b => rw [h1, h2] at h; cases h; exact ⟨a, b, rfl, rfl, rfl⟩
mutual
theorem Dt.of {G : Gp} : ∀ {a : A} {d : PyData}, pyd a = some d → Dt G a d
  | .non, d, h => by simp only [pyd, Option.some.injEq] at h; subst h; exact .non
  | .bl b, d, h => by simp only [pyd, Option.some.injEq] at h; subst h; exact .bl
  | .int i, d, h => by simp only [pyd, Option.some.injEq] at h; subst h; exact .int
  | .str x, d, h => by simp only [pyd, Option.some.injEq] at h; subst h; exact .str
  | .tup xs, d, h => by
    simp only [pyd, Option.map_eq_some_iff] at h
    obtain ⟨ds, h, rfl⟩ := h
    exact .tup (Dts.of h)
  | .fro xs, d, h => by
    simp only [pyd, Option.map_eq_some_iff] at h
    obtain ⟨ds, h, rfl⟩ := h
    exact .fro (Dts.of h)
  | .fdc ks vs, d, h => by
    simp only [pyd] at h
    cases h1 : pyds ks with
    | none => rw [h1] at h; cases h
    | some cs =>
      cases h2 : pyds vs with
      | none => rw [h1, h2] at h; cases h
      | some ds =>
        rw [h1, h2] at h
        simp only at h
        split at h
        · rename_i e
          cases h
          exact .fdc (Dts.of h1) (Dts.of h2) e
        · cases h
  | .scr _, _, h => by simp [pyd] at h
  | .fin _ _ _, _, h => by simp [pyd] at h
  | .exn _ _ _, _, h => by simp [pyd] at h
  | .ref _, _, h => by simp [pyd] at h
theorem Dts.of {G : Gp} : ∀ {xs : List A} {ds : List PyData}, pyds xs = some ds → Dts G xs ds
  | [], ds, h => by simp only [pyds, Option.some.injEq] at h; subst h; exact .nil
  | x :: xs, ds, h => by
    obtain ⟨d, r, h1, h2, rfl⟩ := pyds_cons h
    exact .cons (Dt.of h1) (Dts.of h2)
end
section
variable {X : Cx} {T : Tx} {pins : List (Addr × Obj)} {σ : L2.St} {H : Hp} {s : Shared} {G : GS}
theorem relKey {k : Key} {a : A} {v : Value} (e : a = keyA k) (h : keyIs k v = true) : RV T G H a (kV k) ∧ RelV (kV k) v := by
  subst e
  rcases keyIs_shape h with ⟨i, t, rfl, rfl⟩ | ⟨x, t, rfl, rfl⟩
  · exact ⟨by simp only [keyA, RV, kV], ⟨t, rfl⟩⟩
  · exact ⟨by simp only [keyA, RV, kV], ⟨t, rfl⟩⟩
theorem rvKeys : ∀ ks : List Key, RVs T G H (ks.map keyA) (ks.map kV)
  | [] => rfl
  | .inl i :: ks => .cons (by simp only [keyA, RV, kV]) (rvKeys ks)
  | .inr x :: ks => .cons (by simp only [keyA, RV, kV]) (rvKeys ks)
theorem vals_of_pairs {P : Program} {w : World} : ∀ {es : List DictEntry} {vs : List (Key × Value)}, Pairs (mixKind P w) es vs → es.map (·.val) = vs.map (·.2)
  | _, _, .nil => rfl
  | _, _, .cons _ e r => by simp [e, vals_of_pairs r]
theorem vals_of_kv {κ : Type} : ∀ {qs : List (κ × V)} {vs : List (κ × Value)}, KV qs vs → Vals (qs.map (·.2)) (vs.map (·.2))
  | _, _, .nil => .nil
  | _, _, .cons k r => .cons k.2 (vals_of_kv r)
/-- the keys of a dict of ints and texts, seen as values of theirs -/
theorem keys_of_pairs {P : Program} {w : World} {T : Tx} {G : GS} {H : Hp} : ∀ {qs : List (Key × V)} {vs : List (Key × Value)} {es : List DictEntry}, KV qs vs → Pairs (mixKind P w) es vs → RVs T G H (qs.map fun q => keyA q.1) (qs.map fun q => kV q.1) ∧ Vals (qs.map fun q => kV q.1) (es.map (·.key))
  | _, _, _, .nil, .nil => ⟨.nil, .nil⟩
  | _, _, _, .cons k1 k2, .cons p1 pv p2 => by
    have e2 := k1.1
    have e : keyIs _ _ = true := p1
    rw [← e2] at e
    obtain ⟨x1, x2⟩ := relKey (T := T) (G := G) (H := H) rfl e
    obtain ⟨y1, y2⟩ := keys_of_pairs (T := T) (G := G) (H := H) k2 p2
    exact ⟨.cons x1 y1, .cons x2 y2⟩
/-- the entries of a dict with tuple keys -/
theorem dT_read {P : Program} {w : World} {T : Tx} {G : GS} {H : Hp} (free : ∀ p u, imm u → H p = some u → Fx G p) :
    ∀ (qs : List (List Key × V)) (xs : List (List Key × Addr × Value)),
      Paired (fun (p : List Key × V) (q : List Key × Addr × Value) => p.1 = q.1 ∧ H q.2.1 = some (.tup (p.1.map kV)) ∧ RelV p.2 q.2.2) qs xs →
      RVs T G H (qs.map fun q => A.tup (q.1.map keyA)) (xs.map fun q => V.ref q.2.1) ∧ Vals (xs.map fun q => V.ref q.2.1) ((xs.map (entryOfKey (tupleKind (mixKind P w)))).map (·.key)) ∧
      Vals (qs.map (·.2)) ((xs.map (entryOfKey (tupleKind (mixKind P w)))).map (·.val))
  | _, _, .nil => ⟨.nil, .nil, .nil⟩
  | _, _, .cons k1 k2 => by
    obtain ⟨a1, a2, a4⟩ := dT_read (P := P) (w := w) free _ _ k2
    refine ⟨.cons ?_ a1, .cons rfl a2, .cons k1.2.2 a4⟩
    simp only [RV]
    exact ⟨_, _, rfl, .inl ⟨free _ (.tup _) trivial k1.2.1, k1.2.1⟩, rvKeys _⟩
theorem zip_fst {α β : Type} : ∀ {xs : List α} {ys : List β}, xs.length = ys.length → (xs.zip ys).map (·.1) = xs ∧ (xs.zip ys).map (·.2) = ys
  | [], [], _ => ⟨rfl, rfl⟩
  | x :: xs, y :: ys, h => by
    obtain ⟨a, b⟩ := zip_fst (xs := xs) (ys := ys) (by simpa using h)
    simp [a, b]
  | [], _ :: _, h => by simp at h
  | _ :: _, [], h => by simp at h
/-- all that is never written, taken for what nobody changes -/
def GS.all (G : GS) (H : Hp) : GS := ⟨G.G, fun p => G.S p ∨ ∃ u, imm u ∧ H p = some u⟩
theorem ks_all : Ks G H (G.all H) H := fun b u f h => ⟨⟨.inl f.1, f.2⟩, h⟩
theorem RG.all (rg : RG T H G) : RG T H (G.all H) := by
  refine ⟨fun b u e => (rg b u e).mono ks_all rfl, fun b h => ?_⟩
  rcases h with h | ⟨u, _, e⟩
  · exact rg.st b h
  · rw [e]; simp
theorem RG.free_imm (rg : RG T H G) : ∀ p u, imm u → H p = some u → G p = none := fun p u i r => by
  cases e : G p with
  | none => rfl
  | some o => exact absurd r ((rg p o e).nimm i)
theorem rd_dK (I : Inv X pins σ H s) {p : Addr} {qs : List (Key × V)} (r : Rd H p (.dK qs)) : ∃ es ob ep, s.heap.get? p = some ob ∧ ob.ExactDict ∧ ob.data = .dict es ep ∧ p ≠ sysModules ∧ RVs T G H (qs.map fun q => keyA q.1) (qs.map fun q => kV q.1) ∧ Vals (qs.map fun q => kV q.1) (es.toList.map (·.key)) ∧ Vals (qs.map (·.2)) (es.toList.map (·.val)) := by
  obtain ⟨_, ne, vs, kv, ob, es, ep, ho, hx, hd, _, hp, _⟩ := r.ok I.hok
  obtain ⟨a, b⟩ := keys_of_pairs (T := T) (G := G) (H := H) kv hp
  refine ⟨es, ob, ep, ho, hx, hd, by simpa using ne, a, b, ?_⟩
  rw [vals_of_pairs hp]
  exact vals_of_kv kv
theorem rd_dT (I : Inv X pins σ H s) (free : ∀ p u, imm u → H p = some u → Fx G p) {p : Addr} {qs : List (List Key × V)} (r : Rd H p (.dT qs)) : ∃ es ob ep ks, s.heap.get? p = some ob ∧ ob.ExactDict ∧ ob.data = .dict es ep ∧ p ≠ sysModules ∧ RVs T G H (qs.map fun q => A.tup (q.1.map keyA)) ks ∧ Vals ks (es.toList.map (·.key)) ∧ Vals (qs.map (·.2)) (es.toList.map (·.val)) := by
  obtain ⟨_, ne, xs, kv, ob, es, ep, ho, hx, hd, he, _⟩ := r.ok I.hok
  obtain ⟨a1, a2, a4⟩ := dT_read (T := T) (P := X.prog) (w := X.w) free qs xs kv
  exact ⟨es, ob, ep, _, ho, hx, hd, by simpa using ne, a1, by rw [he]; exact a2, by rw [he]; exact a4⟩
def Rdd (T : Tx) (s : Shared) (G : GS) (H : Hp) (a : A) (d : PyData) : Prop := ∀ {v : V} {u : Value}, RV T G H a v → RelV v u → ∃ as, Reads s.heap u d as ∧ NoSys s.heap as
def Rdds (T : Tx) (s : Shared) (G : GS) (H : Hp) (xs : List A) (ds : List PyData) : Prop := ∀ {vs : List V} {us : List Value}, RVs T G H xs vs → Vals vs us → ∃ as, ReadsAll s.heap us ds as ∧ NoSys s.heap as
theorem dat_reads' (ok : T.Ok X) (I : Inv X pins σ H s) (rg : RG T H G) (free : ∀ p u, imm u → H p = some u → Fx G p) : ∀ {a : A} {d : PyData}, Dt G a d → Rdd T s G H a d := by
  intro a d h
  refine Dt.rec (motive_1 := fun a d _ => Rdd T s G H a d) (motive_2 := fun xs ds _ => Rdds T s G H xs ds) ?_ ?_ ?_ ?_ ?_ ?_ ?_ ?_ ?_ ?_ ?_ h
  · intro v u r ru; simp only [RV] at r; subst r; cases ru; exact ⟨_, .none, .nil⟩
  · intro b v u r ru; simp only [RV] at r; subst r; cases ru; exact ⟨_, .bool _, .nil⟩
  · intro i v u r ru; simp only [RV] at r; subst r; obtain ⟨t, rfl⟩ := ru; exact ⟨_, .int _ t, .nil⟩
  · intro x v u r ru; simp only [RV] at r; subst r; obtain ⟨t, rfl⟩ := ru; exact ⟨_, .str _ t, .nil⟩
  · intro xs ds _ ih v u r ru
    simp only [RV] at r
    obtain ⟨p, vs, rfl, sq, rv⟩ := r
    cases ru
    have sq := sq.sq
    rw [ok.k] at sq
    obtain ⟨its, q, ⟨o, ho, hc, m, hd⟩, _⟩ := I.tuple sq
    obtain ⟨as, ra, na⟩ := ih rv q
    exact ⟨as, .tuple ho hc hd ra, na⟩
  · intro xs ds _ ih v u r ru
    simp only [RV] at r
    obtain ⟨p, vs, rfl, _, sq, rv⟩ := r
    cases ru
    obtain ⟨its, q, ⟨o, m, ho, hc, _, hd⟩, _⟩ := I.list (.of sq)
    obtain ⟨as, ra, na⟩ := ih rv q
    exact ⟨_, .list ho hc hd ra, .seq ho hd na⟩
  · intro ks xs cs ds hk hv hl ih1 ih2 v u r ru
    simp only [RV] at r
    obtain ⟨p, vs, rfl, g, rv, r⟩ := r
    cases ru
    obtain ⟨z1, z2⟩ := zip_fst (hk.len.trans (hl.trans hv.len.symm))
    rcases r with ⟨qs, r, rfl, rfl⟩ | ⟨qs, r, rfl, rfl⟩
    · obtain ⟨es, ob, ep, ho, hx, hd, ne, a1, a2, a3⟩ := rd_dK (T := T) (G := G) I (.inl r)
      obtain ⟨as, ra, na⟩ := ih1 a1 a2
      obtain ⟨bs, rb, nb⟩ := ih2 rv a3
      exact ⟨_, .dict ho hx.1 hd (by rw [z1]; exact ra) (by rw [z2]; exact rb), .dct ne (na.app nb)⟩
    · obtain ⟨es, ob, ep, ks, ho, hx, hd, ne, a1, a2, a3⟩ := rd_dT I free (.inl r)
      obtain ⟨as, ra, na⟩ := ih1 a1 a2
      obtain ⟨bs, rb, nb⟩ := ih2 rv a3
      exact ⟨_, .dict ho hx.1 hd (by rw [z1]; exact ra) (by rw [z2]; exact rb), .dct ne (na.app nb)⟩
  · intro p xs ds e _ ih v u r ru
    simp only [RV] at r; subst r
    cases ru
    obtain ⟨vs, e, rv⟩ := rg _ _ e
    obtain ⟨its, q, ⟨o, m, ho, hc, _, hd⟩, _⟩ := I.list (.of e)
    obtain ⟨as, ra, na⟩ := ih rv q
    exact ⟨_, .list ho hc hd ra, .seq ho hd na⟩
  · intro p kvs cs ds e hk hv ih1 ih2 v u r ru
    simp only [RV] at r; subst r
    cases ru
    obtain ⟨z1, z2⟩ := zip_fst (hk.len.trans (((List.length_map _).trans (List.length_map _).symm).trans hv.len.symm))
    rcases rg _ _ e with ⟨qs, r, rk⟩ | ⟨qs, r, rk⟩
    · obtain ⟨b1, b2⟩ := rk_split rk
      obtain ⟨es, ob, ep, ho, hx, hd, ne, a1, a2, a3⟩ := rd_dK (T := T) (G := G) I (.inl r)
      obtain ⟨as, ra, na⟩ := ih1 (by rw [b1]; exact a1) a2
      obtain ⟨bs, rb, nb⟩ := ih2 b2 a3
      exact ⟨_, .dict ho hx.1 hd (by rw [z1]; exact ra) (by rw [z2]; exact rb), .dct ne (na.app nb)⟩
    · obtain ⟨b1, b2⟩ := rkt_split rk
      obtain ⟨es, ob, ep, ks, ho, hx, hd, ne, a1, a2, a3⟩ := rd_dT I free (.inl r)
      obtain ⟨as, ra, na⟩ := ih1 (by rw [b1]; exact a1) a2
      obtain ⟨bs, rb, nb⟩ := ih2 b2 a3
      exact ⟨_, .dict ho hx.1 hd (by rw [z1]; exact ra) (by rw [z2]; exact rb), .dct ne (na.app nb)⟩
  · intro vs us r ru
    simp only [RVs] at r; subst r
    cases ru
    exact ⟨[], .nil, .nil⟩
  · intro x d xs ds _ _ ih1 ih2 vs us r ru
    simp only [RVs] at r
    obtain ⟨v, vs', rfl, r1, r2⟩ := r
    cases ru with
    | cons q1 q2 =>
      obtain ⟨as, ra, na⟩ := ih1 r1 q1
      obtain ⟨bs, rb, nb⟩ := ih2 r2 q2
      exact ⟨as ++ bs, .cons ra rb, na.app nb⟩
theorem dat_reads (ok : T.Ok X) (I : Inv X pins σ H s) (rg : RG T H G) {a : A} {v : V} {u : Value} {d : PyData} (h : Dt G a d) (r : RV T G H a v) (ru : RelV v u) : ∃ as, Reads s.heap u d as ∧ NoSys s.heap as :=
  dat_reads' (G := G.all H) ok I rg.all (fun p u i e => ⟨.inr ⟨u, i, e⟩, rg.free_imm p u i e⟩) h (RV.mono' ks_all r) ru
end
end Q
/-! Q5: arithmetic, texts, lists, equality, repr, subscripts. -/
namespace Q
open PySem PySem.Spec PyProof.Rows L2
/-- the items of a list that is not the script -/
def lstOf (G : Gp) : A → Option (List A)
  | .ref p => match G p with
    | some (.lst xs) => some xs
    | _ => none
  | .fro xs => some xs
  | _ => none
def addA (m : Bool) : P2 := fun a b G Q => match a, b with
  | .int i, .int j => Q (.int (i + j)) G
  | .str x, .str y => x.length + y.length ≤ sizeLine ∧ Q (.str (x ++ y)) G
  | .tup xs, .tup ys => xs.length + ys.length ≤ sizeLine ∧ Q (.tup (xs ++ ys)) G
  | a, b => ∃ xs ys, lstOf G a = some xs ∧ lstOf G b = some ys ∧ xs.length + ys.length ≤ sizeLine ∧ new m (.lst (xs ++ ys)) G Q
def intA (C : Int → Int → Prop) (g : Int → Int → A) : P2 := fun a b G Q => match a, b with
  | .int i, .int j => C i j ∧ Q (g i j) G
  | _, _ => False
def subA : P2 := intA (fun _ _ => True) fun i j => .int (i - j)
def modA : P2 := intA (fun _ j => 0 < j) fun i j => .int (i % j)
def fdivA : P2 := intA CDivW fun i j => .int (i / j)
def powA : P2 := intA CPow fun i j => .int (i ^ j.toNat)
def mulA (m : Bool) : P2 := fun a b G Q => match a, b with
  | .int i, .int j => CMulW i j ∧ Q (.int (i * j)) G
  | .str x, .int j => MulOk x j ∧ Q (.str (Txt.mul x j)) G
  | a, .int j => ∃ xs, lstOf G a = some xs ∧ -(2 ^ 63) ≤ j ∧ j < 2 ^ 63 ∧ xs.length * j.toNat ≤ sizeLine ∧ new m (.lst (List.replicate j.toNat xs).flatten) G Q
  | _, _ => False
section
variable {X : Cx} {T : Tx}
theorem rv_int {T : Tx} {G : GS} {H : Hp} {i : Int} {v : V} (h : RV T G H (.int i) v) : v = .int i := by simpa only [RV] using h
theorem rv_str {T : Tx} {G : GS} {H : Hp} {i : Str} {v : V} (h : RV T G H (.str i) v) : v = .str i := by simpa only [RV] using h
theorem rv_ref {T : Tx} {G : GS} {H : Hp} {i : Addr} {v : V} (h : RV T G H (.ref i) v) : v = .ref i := by simpa only [RV] using h
theorem rv_tup {T : Tx} {G : GS} {H : Hp} {i : List A} {v : V} (h : RV T G H (.tup i) v) : ∃ p vs, v = .ref p ∧ TupAt T G H p vs ∧ RVs T G H i vs := by simpa only [RV] using h
theorem lstOf_rep {T : Tx} {H : Hp} {G : GS} {a : A} {v : V} {xs : List A} (rg : RG T H G) (h : lstOf G a = some xs) (r : RV T G H a v) : ∃ p vs, v = .ref p ∧ H p = some (.lst vs) ∧ RVs T G H xs vs := by
  cases a with
  | ref p =>
    simp only [lstOf] at h
    split at h
    · rename_i zs e1
      cases h
      obtain ⟨vs, h1, r1⟩ := rg p _ e1
      exact ⟨p, vs, rv_ref r, h1, r1⟩
    · cases h
  | fro ys =>
    simp only [lstOf, Option.some.injEq] at h; subst h
    simp only [RV] at r
    obtain ⟨p, vs, rfl, _, sq, rv⟩ := r
    exact ⟨p, vs, rfl, sq, rv⟩
  | _ => simp [lstOf] at h
theorem rv_i {T : Tx} {G : GS} {H : Hp} (i : Int) : RV T G H (.int i) (.int i) := by simp only [RV]
theorem rv_s {T : Tx} {G : GS} {H : Hp} (i : Str) : RV T G H (.str i) (.str i) := by simp only [RV]
theorem rv_b {T : Tx} {G : GS} {H : Hp} (i : Bool) : RV T G H (.bl i) (.bl i) := by simp only [RV]
theorem rv_r {T : Tx} {G : GS} {H : Hp} (i : Addr) : RV T G H (.ref i) (.ref i) := by simp only [RV]
theorem rv_n {T : Tx} {G : GS} {H : Hp} : RV T G H .non .non := by simp only [RV]
theorem rv_t {T : Tx} {G : GS} {H : Hp} {p : Addr} {xs : List A} {vs : List V} (h : TupAt T G H p vs) (r : RVs T G H xs vs) : RV T G H (.tup xs) (.ref p) := by simp only [RV]; exact ⟨p, vs, rfl, h, r⟩
/-- a new tuple of a tree -/
theorem new_tup {G1 : GS} {H1 : Hp} {as : List A} {vs : List V} {Qa : KA} {Q : VK} (rg1 : RG T H1 G1) (rv : RVs T G1 H1 as vs) (h : Qa (.tup as) G1) (q : LQ T G1 H1 Qa Q) {p : Addr} (hp : H1 p = none) : Q (.ref p) (upd H1 p (.tup vs)) :=
  q _ (G1.fx p) _ _ h (rv_t (.inl ⟨rg1.fxT hp, upd_same⟩) (rv.mono (Kp.newT hp))) (rg1.newT hp) (Kp.newT hp)
theorem o_int {f : Value → Value → Sem Value} {C : Int → Int → Prop} {g : Int → Int → V} {ga : Int → Int → A} (h : OpR X f (rI C g)) (hg : ∀ i j (G : GS) H, RV T G H (ga i j) (g i j)) : OpR X f (l2 T (intA C ga)) := by
  intro pins s σ H x y v u Q I rx ry ⟨a, b, G, Qa, ra, rb, rg, hf, q⟩
  cases a <;> cases b <;> first | exact False.elim hf | skip
  rename_i i j
  exact h pins s σ H x y v u Q I rx ry ⟨i, j, rv_int ra, rv_int rb, hf.1, q _ _ _ _ hf.2 (hg i j G H) rg Kp.refl⟩
theorem o_sub : OpR X (binaryOp .Sub) (l2 T subA) := o_int (C := fun _ _ => True) (g := fun i j => .int (i - j)) (fun pins s σ H x y v u Q I rx ry h => op_sub pins s σ H x y v u Q I rx ry (let ⟨i, j, e1, e2, _, q⟩ := h; ⟨i, j, e1, e2, q⟩)) fun i j G H => rv_i _
theorem o_mod : OpR X (binaryOp .Mod) (l2 T modA) := o_int op_mod fun i j G H => rv_i _
theorem o_fdiv : OpR X (binaryOp .FloorDiv) (l2 T fdivA) := o_int op_fdivW fun i j G H => rv_i _
theorem o_pow : OpR X (binaryOp .Pow) (l2 T powA) := o_int op_pow fun i j G H => rv_i _
theorem o_add {m : Bool} (hT : T.K = X.K) : OpR X (binaryOp .Add) (l2 T (addA m)) := by
  intro pins s σ H x y v u Q I rx ry ⟨a, b, G, Qa, ra, rb, rg, hf, q⟩
  have lst : (∃ xs ys, lstOf G a = some xs ∧ lstOf G b = some ys ∧ xs.length + ys.length ≤ sizeLine ∧ new m (.lst (xs ++ ys)) G Qa) → wpAny (model X.prog X.w) X.A (binaryOp .Add v u) (EP X pins σ Q) X.xe s := by
    rintro ⟨xs, ys, e1, e2, hz, hf⟩
    obtain ⟨p1, vs, rfl, h1, r1⟩ := lstOf_rep rg e1 ra
    obtain ⟨p2, ws, rfl, h2, r2⟩ := lstOf_rep rg e2 rb
    exact op_cat pins s σ H _ _ v u Q I rx ry ⟨p1, p2, vs, ws, rfl, rfl, h1, h2, by rw [r1.len, r2.len]; exact hz, fun p hp => new_lst rg (r1.app r2) hf q hp⟩
  unfold addA at hf
  split at hf
  · rename_i i j
    exact op_add pins s σ H x y v u Q I rx ry ⟨i, j, rv_int ra, rv_int rb, q _ _ _ _ hf (rv_i _) rg Kp.refl⟩
  · rename_i i j
    exact op_add_str pins s σ H x y v u Q I rx ry ⟨i, j, rv_str ra, rv_str rb, hf.1, q _ _ _ _ hf.2 (rv_s _) rg Kp.refl⟩
  · rename_i xs ys
    obtain ⟨p1, vs, rfl, s1, r1⟩ := rv_tup ra
    obtain ⟨p2, ws, rfl, s2, r2⟩ := rv_tup rb
    have l1 := r1.len
    have l2 := r2.len
    refine op_catA pins s σ H _ _ v u Q I rx ry ⟨p1, p2, vs, ws, rfl, rfl, hT ▸ s1.sq, hT ▸ s2.sq, by rw [l1, l2]; exact hf.1, fun e => ?_, fun e e2 => ?_, fun e e2 p hp => ?_⟩
    · subst e
      have z : xs = [] := by cases xs <;> simp_all
      subst z
      exact q _ _ _ _ hf.2 rb rg Kp.refl
    · subst e2
      have z : ys = [] := by cases ys <;> simp_all
      subst z
      have hf2 : Qa (.tup (xs ++ [])) G := hf.2
      rw [List.append_nil] at hf2
      exact q _ _ _ _ hf2 ra rg Kp.refl
    · exact new_tup rg (r1.app r2) hf.2 q hp
  · exact lst hf
theorem o_mul {m : Bool} : OpR X (binaryOp .Mult) (l2 T (mulA m)) := by
  intro pins s σ H x y v u Q I rx ry ⟨a, b, G, Qa, ra, rb, rg, hf, q⟩
  unfold mulA at hf
  split at hf
  · rename_i i j
    exact op_mulW pins s σ H x y v u Q I rx ry ⟨i, j, rv_int ra, rv_int rb, hf.1, q _ _ _ _ hf.2 (rv_i _) rg Kp.refl⟩
  · rename_i i j
    obtain rfl := rv_str ra
    obtain rfl := rv_int rb
    obtain ⟨t, rfl⟩ := rx
    obtain ⟨t', rfl⟩ := ry
    exact PySem.SB.mul hf.1 fun t2 k => ⟨.str _, H, I.tok _, ⟨_, rfl⟩, q _ _ _ _ hf.2 (rv_s _) rg Kp.refl⟩
  · rename_i j _ _
    obtain ⟨xs, e1, hf⟩ := hf
    obtain ⟨p1, vs, rfl, h1, r1⟩ := lstOf_rep rg e1 ra
    exact op_rep pins s σ H _ y v u Q I rx ry ⟨p1, j, vs, rfl, rv_int rb, h1, hf.1, hf.2.1, by rw [r1.len]; exact hf.2.2.1, fun p hp => new_lst rg (r1.rep _) hf.2.2.2 q hp⟩
  · exact hf.elim
/-! ### comparisons -/
/-- == and != of data; of two lists that are not of one length; of a tuple and () -/
def eqA (neg : Bool) : P2 := fun a b G Q => (∃ d e, Dt G a d ∧ Dt G b e ∧ SeqAt.shaped d = true ∧ SeqAt.shaped e = true ∧ Q (.bl (if neg then !PyData.eqv d e else PyData.eqv d e)) G) ∨
  (∃ xs ys, lstOf G a = some xs ∧ lstOf G b = some ys ∧ xs.length ≠ ys.length ∧ Q (.bl neg) G) ∨ (∃ xs, a = .tup xs ∧ b = .tup [] ∧ Q (.bl (if neg then !xs.isEmpty else xs.isEmpty)) G) ∨
  ∃ x y, a = .str x ∧ b = .str y ∧ Q (.bl (if neg then x != y else x == y)) G
def ltA : P2 := fun a b G Q => match a, b with
  | .int i, .int j => Q (.bl (decide (i < j))) G
  | _, _ => False
def leA : P2 := fun a b G Q => match a, b with
  | .int i, .int j => Q (.bl (decide (i ≤ j))) G
  | _, _ => False
def gtA : P2 := fun a b G Q => match a, b with
  | .int i, .int j => Q (.bl (decide (j < i))) G
  | _, _ => False
def geA : P2 := fun a b G Q => match a, b with
  | .int i, .int j => Q (.bl (decide (j ≤ i))) G
  | _, _ => False
theorem lstOf_list {pins : List (Addr × Obj)} {σ : L2.St} {H : Hp} {s : Shared} {G : GS} {a : A} {x : V} {u : Value} {xs : List A} (I : Inv X pins σ H s) (rg : RG T H G) (e : lstOf G a = some xs) (r : RV T G H a x) (ru : RelV x u) :
    ∃ p its, u = .ref p ∧ PlainL s.heap p its ∧ its.size = xs.length := by
  obtain ⟨p, vs, rfl, h1, r1⟩ := lstOf_rep rg e r
  cases ru
  obtain ⟨its, q, pl, _⟩ := I.list (.of h1)
  exact ⟨p, _, rfl, pl, by rw [List.size_toArray, ← q.length, r1.len]⟩
theorem o_eq (ok : T.Ok X) (hu : X.A.units + 64 < cLine) : OpR X (compareOp .Eq) (l2 T (eqA false)) := by
  intro pins s σ H x y v u Q I rx ry ⟨a, b, G, Qa, ra, rb, rg, hf, q⟩
  rcases hf with ⟨d, e, h1, h2, s1, s2, hf⟩ | ⟨xs, ys, h1, h2, hn, hf⟩ | ⟨xs, rfl, rfl, hf⟩ | ⟨x', y', rfl, rfl, hf⟩
  · obtain ⟨as, r1, _⟩ := dat_reads ok I rg h1 ra rx
    obtain ⟨bs, r2, _⟩ := dat_reads ok I rg h2 rb ry
    exact SeqAt.compareEq_shaped r1 r2 s1 s2 hu ⟨.bl _, H, I, rfl, q _ _ _ _ hf (rv_b _) rg Kp.refl⟩
  · obtain ⟨p1, i1, rfl, l1, z1⟩ := lstOf_list I rg h1 ra rx
    obtain ⟨p2, i2, rfl, l2, z2⟩ := lstOf_list I rg h2 rb ry
    exact SeqAt.eq_list_lengthsAt l1.isList l2.isList (by simp [z1, z2, hn]) (by omega) ⟨.bl _, H, I, rfl, q _ _ _ _ hf (rv_b _) rg Kp.refl⟩
  · obtain ⟨p1, vs, rfl, s1, r1⟩ := rv_tup ra
    obtain ⟨p2, ws, rfl, s2, r2⟩ := rv_tup rb
    cases rx; cases ry
    obtain ⟨i1, q1, t1, _⟩ := I.tuple (ok.k ▸ s1.sq)
    obtain ⟨i2, q2, t2, _⟩ := I.tuple (ok.k ▸ s2.sq)
    have e1 : i1.length = xs.length := by rw [← q1.length, r1.len]
    have e2 : i2.length = 0 := by rw [← q2.length, r2.len]; rfl
    refine SeqAt.eq_tupleAt (e := fun _ => true) t1 t2 (by omega) (fun j h1 h2 => absurd h2 (by simp [e2])) ⟨.bl xs.isEmpty, H, I, ?_, q _ _ _ _ hf (rv_b _) rg Kp.refl⟩
    cases xs <;> simp_all [L2.RelV]
  · obtain rfl := rv_str ra
    obtain rfl := rv_str rb
    obtain ⟨t, rfl⟩ := rx
    obtain ⟨t', rfl⟩ := ry
    exact PyProof.Rows.eq_str ⟨.bl _, H, I, rfl, q _ _ _ _ hf (rv_b _) rg Kp.refl⟩
theorem o_ne (ok : T.Ok X) (hu : X.A.units + 64 < cLine) : OpR X (compareOp .NotEq) (l2 T (eqA true)) := by
  intro pins s σ H x y v u Q I rx ry ⟨a, b, G, Qa, ra, rb, rg, hf, q⟩
  rcases hf with ⟨d, e, h1, h2, s1, s2, hf⟩ | ⟨xs, ys, h1, h2, hn, hf⟩ | ⟨xs, rfl, rfl, hf⟩ | ⟨x', y', rfl, rfl, hf⟩
  · obtain ⟨as, r1, _⟩ := dat_reads ok I rg h1 ra rx
    obtain ⟨bs, r2, _⟩ := dat_reads ok I rg h2 rb ry
    exact SeqAt.compareNe_shaped r1 r2 s1 s2 hu ⟨.bl _, H, I, rfl, q _ _ _ _ hf (rv_b _) rg Kp.refl⟩
  · obtain ⟨p1, i1, rfl, l1, z1⟩ := lstOf_list I rg h1 ra rx
    obtain ⟨p2, i2, rfl, l2, z2⟩ := lstOf_list I rg h2 rb ry
    exact SeqAt.RcNeAt.lists_lengths l1.isList l2.isList (by simp [z1, z2, hn]) (by omega) _ _ _ _ ⟨.bl _, H, I, rfl, q _ _ _ _ hf (rv_b _) rg Kp.refl⟩
  · obtain ⟨p1, vs, rfl, s1, r1⟩ := rv_tup ra
    obtain ⟨p2, ws, rfl, s2, r2⟩ := rv_tup rb
    cases rx; cases ry
    obtain ⟨i1, q1, t1, _⟩ := I.tuple (ok.k ▸ s1.sq)
    obtain ⟨i2, q2, t2, _⟩ := I.tuple (ok.k ▸ s2.sq)
    have e1 : i1.length = xs.length := by rw [← q1.length, r1.len]
    have e2 : i2.length = 0 := by rw [← q2.length, r2.len]; rfl
    refine SeqAt.RcNeAt.tuples (e := fun _ => true) t1 t2 (by omega) (fun j h1 h2 => absurd h2 (by simp [e2])) _ _ _ _ ⟨.bl (!xs.isEmpty), H, I, ?_, q _ _ _ _ hf (rv_b _) rg Kp.refl⟩
    cases xs <;> simp_all [L2.RelV]
  · obtain rfl := rv_str ra
    obtain rfl := rv_str rb
    obtain ⟨t, rfl⟩ := rx
    obtain ⟨t', rfl⟩ := ry
    exact PyProof.Rows.ne_str ⟨.bl _, H, I, rfl, q _ _ _ _ hf (rv_b _) rg Kp.refl⟩
theorem o_lt : OpR X (compareOp .Lt) (l2 T ltA) := by
  intro pins s σ H x y v u Q I rx ry ⟨a, b, G, Qa, ra, rb, rg, hf, q⟩
  cases a <;> cases b <;> first | exact False.elim hf | skip
  exact op_lt pins s σ H x y v u Q I rx ry ⟨_, _, rv_int ra, rv_int rb, q _ _ _ _ hf (rv_b _) rg Kp.refl⟩
theorem o_le : OpR X (compareOp .LtE) (l2 T leA) := by
  intro pins s σ H x y v u Q I rx ry ⟨a, b, G, Qa, ra, rb, rg, hf, q⟩
  cases a <;> cases b <;> first | exact False.elim hf | skip
  exact op_le pins s σ H x y v u Q I rx ry ⟨_, _, rv_int ra, rv_int rb, q _ _ _ _ hf (rv_b _) rg Kp.refl⟩
theorem o_gt : OpR X (compareOp .Gt) (l2 T gtA) := by
  intro pins s σ H x y v u Q I rx ry ⟨a, b, G, Qa, ra, rb, rg, hf, q⟩
  cases a <;> cases b <;> first | exact False.elim hf | skip
  exact op_gt pins s σ H x y v u Q I rx ry ⟨_, _, rv_int ra, rv_int rb, q _ _ _ _ hf (rv_b _) rg Kp.refl⟩
theorem o_ge : OpR X (compareOp .GtE) (l2 T geA) := by
  intro pins s σ H x y v u Q I rx ry ⟨a, b, G, Qa, ra, rb, rg, hf, q⟩
  cases a <;> cases b <;> first | exact False.elim hf | skip
  exact op_ge pins s σ H x y v u Q I rx ry ⟨_, _, rv_int ra, rv_int rb, q _ _ _ _ hf (rv_b _) rg Kp.refl⟩
/-- x in a list, a tuple, a text -/
def inA (neg : Bool) : P2 := fun a b G Q => (∃ x y, a = .str x ∧ b = .str y ∧ Q (.bl (if neg then !(!(Builtin.Str.occurrences y x 0 y.length 1).isEmpty) else !(Builtin.Str.occurrences y x 0 y.length 1).isEmpty)) G) ∨
  ∃ d ds, Dt G a d ∧ (Dt G b (.list ds) ∨ Dt G b (.tuple ds)) ∧ SeqAt.shaped d = true ∧ PyData.canLayAll0 ds = true ∧ Q (.bl (if neg then !ds.any fun z => PyData.eqv z d else ds.any fun z => PyData.eqv z d)) G
theorem o_in (ok : T.Ok X) (hu : X.A.units + 65 < cLine) : OpR X (compareOp .In) (l2 T (inA false)) := by
  intro pins s σ H x y v u Q I rx ry ⟨a, b, G, Qa, ra, rb, rg, hf, q⟩
  rcases hf with ⟨i, j, rfl, rfl, hf⟩ | ⟨d, ds, h1, h2, s1, s2, hf⟩
  · exact op_in_str pins s σ H x y v u Q I rx ry ⟨i, j, rv_str ra, rv_str rb, q _ _ _ _ hf (rv_b _) rg Kp.refl⟩
  · obtain ⟨as, r1, _⟩ := dat_reads ok I rg h1 ra rx
    rcases h2 with h2 | h2
    · obtain ⟨bs, r2, _⟩ := dat_reads ok I rg h2 rb ry
      exact SeqAt.in_list_reads r2 r1 s2 (SeqAt.canLay_of_shaped s1) (room_in_shaped s1 hu) ⟨.bl _, H, I, rfl, q _ _ _ _ hf (rv_b _) rg Kp.refl⟩
    · obtain ⟨bs, r2, _⟩ := dat_reads ok I rg h2 rb ry
      exact SeqAt.in_tuple_reads r2 r1 s2 (SeqAt.canLay_of_shaped s1) (room_in_shaped s1 hu) ⟨.bl _, H, I, rfl, q _ _ _ _ hf (rv_b _) rg Kp.refl⟩
theorem o_notin (ok : T.Ok X) (hu : X.A.units + 65 < cLine) : OpR X (compareOp .NotIn) (l2 T (inA true)) := by
  intro pins s σ H x y v u Q I rx ry ⟨a, b, G, Qa, ra, rb, rg, hf, q⟩
  rcases hf with ⟨i, j, rfl, rfl, hf⟩ | ⟨d, ds, h1, h2, s1, s2, hf⟩
  · exact L2.op_notin_str pins s σ H x y v u Q I rx ry ⟨i, j, rv_str ra, rv_str rb, q _ _ _ _ hf (rv_b _) rg Kp.refl⟩
  · obtain ⟨as, r1, _⟩ := dat_reads ok I rg h1 ra rx
    rcases h2 with h2 | h2
    · obtain ⟨bs, r2, _⟩ := dat_reads ok I rg h2 rb ry
      exact SeqAt.notIn_list_reads r2 r1 s2 (SeqAt.canLay_of_shaped s1) (room_in_shaped s1 hu) ⟨.bl _, H, I, rfl, q _ _ _ _ hf (rv_b _) rg Kp.refl⟩
    · obtain ⟨bs, r2, _⟩ := dat_reads ok I rg h2 rb ry
      exact SeqAt.notIn_tuple_reads r2 r1 s2 (SeqAt.canLay_of_shaped s1) (room_in_shaped s1 hu) ⟨.bl _, H, I, rfl, q _ _ _ _ hf (rv_b _) rg Kp.refl⟩
end
end Q
/-! Q6: built-ins, methods, subscripts. -/
namespace Q
open PySem PySem.Spec PyProof.Rows L2
section
variable {X : Cx} {T : Tx} {W : L2.WX} {a b e o : Expr} {es : List Expr} {ta tb to : EA} {t : LA} {pos : Pos}
theorem rvs1 {T : Tx} {G : GS} {H : Hp} {a : A} {vs : List V} (h : RVs T G H [a] vs) : ∃ v, vs = [v] ∧ RV T G H a v := by
  simp only [RVs] at h
  obtain ⟨v, r, rfl, h1, rfl⟩ := h
  exact ⟨v, rfl, h1⟩
theorem rvs2 {T : Tx} {G : GS} {H : Hp} {a b : A} {vs : List V} (h : RVs T G H [a, b] vs) : ∃ v w, vs = [v, w] ∧ RV T G H a v ∧ RV T G H b w := by
  simp only [RVs] at h
  obtain ⟨v, r, rfl, h1, w, r', rfl, h2, rfl⟩ := h
  exact ⟨v, w, rfl, h1, h2⟩
theorem rvs0 {T : Tx} {G : GS} {H : Hp} {vs : List V} (h : RVs T G H [] vs) : vs = [] := by simpa only [RVs] using h
/-- repr -/
def reprA : PN := fun as G Q => ∃ a d, as = [a] ∧ Dt G a d ∧ d.showable = true ∧ d.shown.length ≤ sizeLine ∧ d.depth ≤ 60 ∧ Q (.str d.shown) G
theorem c_repr (ok : T.Ok X) (hg : X.A.guards = some []) (hu : X.A.units + 64 < cLine) : CallR X (.builtin "repr") (lN T reprA) := by
  intro pins s σ H xs us Q I r h
  obtain ⟨as, G, Qa, rv, rg, ⟨a, d, rfl, h1, h2, h3, h4, hf⟩, q⟩ := h
  obtain ⟨v, rfl, ra⟩ := rvs1 rv
  obtain ⟨u, rfl, ru⟩ := vals1 r
  obtain ⟨bs, rd, na⟩ := dat_reads ok I rg h1 ra ru
  have fin : ∀ h' u' tk, (∀ b o, s.heap.get? b = some o → h'.get? b = some o) → EP X pins σ Q (.str d.shown u') { s with heap := h', toks := tk } := fun h' u' tk hk =>
    ⟨.str d.shown, H, I.kept hk, ⟨_, rfl⟩, q _ _ _ _ hf (rv_s _) rg Kp.refl⟩
  cases rd with
  | none => exact PySem.P.repr_of_none (fin s.heap _ _ fun _ _ e => e)
  | bool b => exact PySem.P.repr_of_bool (by cases b <;> exact fin s.heap _ _ fun _ _ e => e)
  | int i t => exact PySem.P.repr_of_int (by simpa [PyData.showable] using h2) (fin s.heap _ _ fun _ _ e => e)
  | str x t => exact PySem.P.repr_of_str (fin s.heap _ _ fun _ _ e => e) h3
  | list e1 e2 e3 e4 => exact repr_ref (.list e1 e2 e3 e4) h2 na hg (by omega) h3 fin
  | tuple e1 e2 e3 e4 => exact repr_ref (.tuple e1 e2 e3 e4) h2 na hg (by omega) h3 fin
  | dict e1 e2 e3 e4 e5 => exact repr_ref (.dict e1 e2 e3 e4 e5) h2 na hg (by omega) h3 fin
/-- the items of a list or a tuple -/
def seqOf (G : Gp) : A → Option (List A)
  | .tup xs => some xs
  | a => lstOf G a
theorem seqOf_rep {H : Hp} {G : GS} {a : A} {v : V} {xs : List A} (rg : RG T H G) (h : seqOf G a = some xs) (r : RV T G H a v) : ∃ p vs, v = .ref p ∧ (SqL T.K H p vs ∨ (TupAt T G H p vs ∧ a = .tup xs)) ∧ RVs T G H xs vs := by
  unfold seqOf at h
  split at h
  · rename_i ys
    cases h
    obtain ⟨p, vs, rfl, sq, rv⟩ := rv_tup r
    exact ⟨p, vs, rfl, .inr ⟨sq, rfl⟩, rv⟩
  · obtain ⟨p, vs, rfl, h1, r1⟩ := lstOf_rep rg h r
    exact ⟨p, vs, rfl, .inl (.of h1), r1⟩
def lenA : PN := fun as G Q => match as with
  | [.str x] => x.length ≤ sizeLine ∧ Q (.int x.length) G
  | [a] => ∃ xs, seqOf G a = some xs ∧ Q (.int xs.length) G
  | _ => False
theorem c_len (hT : T.K = X.K) : CallR X (.builtin "len") (lN T lenA) := by
  intro pins s σ H xs us Q I r ⟨as, G, Qa, rv, rg, hf, q⟩
  unfold lenA at hf
  split at hf
  · obtain ⟨v, rfl, ra⟩ := rvs1 rv
    obtain rfl := rv_str ra
    exact call_len pins s σ H _ us Q I r ⟨_, _, rfl, ⟨hf.1, rfl⟩, q _ _ _ _ hf.2 (rv_i _) rg Kp.refl⟩
  · obtain ⟨v, rfl, ra⟩ := rvs1 rv
    obtain ⟨ys, h1, hf⟩ := hf
    obtain ⟨p, vs, rfl, sq, rv'⟩ := seqOf_rep rg h1 ra
    refine call_len pins s σ H _ us Q I r ⟨_, _, rfl, ?_, q _ _ _ _ hf (rv_i _) rg Kp.refl⟩
    rcases sq with sq | sq
    · exact .inl ⟨vs, hT ▸ sq, rv'.len.symm⟩
    · exact .inr ⟨vs, hT ▸ sq.1.sq, rv'.len.symm⟩
  · exact hf.elim
def listA (m : Bool) : PN := fun as G Q => ∃ a xs, as = [a] ∧ seqOf G a = some xs ∧ new m (.lst xs) G Q
theorem c_list {m : Bool} (hT : T.K = X.K) : CallR X (.type "list") (lN T (listA m)) := by
  intro pins s σ H xs us Q I r h
  obtain ⟨as, G, Qa, rv, rg, ⟨a, ys, rfl, h1, hf⟩, q⟩ := h
  obtain ⟨v, rfl, ra⟩ := rvs1 rv
  obtain ⟨p, vs, rfl, sq, rv'⟩ := seqOf_rep rg h1 ra
  exact call_list_of pins s σ H _ us Q I r ⟨p, vs, rfl, hT ▸ sq.imp id (fun z => z.1.sq), fun l hl => new_lst rg rv' hf q hl⟩
def tupleA : PN := fun as G Q => ∃ a xs, as = [a] ∧ seqOf G a = some xs ∧ Q (.tup xs) G
theorem c_tuple (hT : T.K = X.K) : CallR X (.type "tuple") (lN T tupleA) := by
  intro pins s σ H xs us Q I r h
  obtain ⟨as, G, Qa, rv, rg, ⟨a, ys, rfl, h1, hf⟩, q⟩ := h
  obtain ⟨v, rfl, ra⟩ := rvs1 rv
  obtain ⟨p, vs, rfl, sq, rv'⟩ := seqOf_rep rg h1 ra
  refine call_tuple_of pins s σ H _ us Q I r ⟨p, vs, rfl, ?_⟩
  rcases sq with sq | sq
  · exact .inl ⟨hT ▸ sq, fun l hl => new_tup rg rv' hf q hl⟩
  · exact .inr ⟨hT ▸ sq.1.sq, q _ _ _ _ hf (rv_t sq.1 rv') rg Kp.refl⟩
def absA : PN := fun as G Q => ∃ i, as = [.int i] ∧ Q (.int (if i < 0 then -i else i)) G
theorem c_abs : CallR X (.builtin "abs") (lN T absA) := by
  intro pins s σ H xs us Q I r h
  obtain ⟨as, G, Qa, rv, rg, ⟨i, rfl, hf⟩, q⟩ := h
  obtain ⟨v, rfl, ra⟩ := rvs1 rv
  obtain rfl := rv_int ra
  exact call_abs pins s σ H _ us Q I r ⟨i, rfl, q _ _ _ _ hf (rv_i _) rg Kp.refl⟩
def intOfA : PN := fun as G Q => match as with
  | [.int i] => Q (.int i) G
  | [.bl b] => Q (.int (if b then 1 else 0)) G
  | _ => False
theorem c_int : CallR X (.type "int") (lN T intOfA) := by
  intro pins s σ H xs us Q I r ⟨as, G, Qa, rv, rg, hf, q⟩
  unfold intOfA at hf
  split at hf
  · obtain ⟨v, rfl, ra⟩ := rvs1 rv
    obtain rfl := rv_int ra
    exact call_int1 pins s σ H _ us Q I r (.inl ⟨_, rfl, q _ _ _ _ hf (rv_i _) rg Kp.refl⟩)
  · obtain ⟨v, rfl, ra⟩ := rvs1 rv
    obtain rfl : v = .bl _ := by simpa only [RV] using ra
    exact call_int1 pins s σ H _ us Q I r (.inr ⟨_, rfl, q _ _ _ _ hf (rv_i _) rg Kp.refl⟩)
  · exact hf.elim
/-- all, any of a list of truths -/
def allA (f : List Bool → Bool) : PN := fun as G Q => ∃ a bs, as = [a] ∧ lstOf G a = some (bs.map A.bl) ∧ Q (.bl (f bs)) G
theorem rvs_bls {T : Tx} {G : GS} {H : Hp} : ∀ {bs : List Bool} {vs : List V}, RVs T G H (bs.map A.bl) vs → vs = bs.map V.bl
  | [], vs, h => rvs0 h
  | b :: bs, vs, h => by
    rw [List.map_cons] at h
    simp only [RVs] at h
    obtain ⟨v, r, rfl, h1, h2⟩ := h
    simp only [RV] at h1
    rw [h1, rvs_bls h2]; rfl
theorem c_all (hT : T.K = X.K) (hc : X.calm = true) : CallR X (.builtin "all") (lN T (allA (·.all id))) := by
  intro pins s σ H xs us Q I r h
  obtain ⟨as, G, Qa, rv, rg, ⟨a, bs, rfl, h1, hf⟩, q⟩ := h
  obtain ⟨v, rfl, ra⟩ := rvs1 rv
  obtain ⟨p, vs, rfl, sq, rv'⟩ := lstOf_rep rg h1 ra
  obtain rfl := rvs_bls rv'
  exact cr_all hc pins s σ H _ us Q I r ⟨p, bs, rfl, .of sq, q _ _ _ _ hf (rv_b _) rg Kp.refl⟩
theorem c_any (hT : T.K = X.K) (hc : X.calm = true) : CallR X (.builtin "any") (lN T (allA (·.any id))) := by
  intro pins s σ H xs us Q I r h
  obtain ⟨as, G, Qa, rv, rg, ⟨a, bs, rfl, h1, hf⟩, q⟩ := h
  obtain ⟨v, rfl, ra⟩ := rvs1 rv
  obtain ⟨p, vs, rfl, sq, rv'⟩ := lstOf_rep rg h1 ra
  obtain rfl := rvs_bls rv'
  exact cr_any hc pins s σ H _ us Q I r ⟨p, bs, rfl, .of sq, q _ _ _ _ hf (rv_b _) rg Kp.refl⟩
/-! ### subscripts -/
def ixA : P2 := fun a b G Q => match b with
  | .int i => match a with
    | .str z => z.length ≤ sizeLine ∧ ∃ c, atI z.cps.toList i = some c ∧ Q (.str ⟨#[c]⟩) G
    | a => ∃ xs x, seqOf G a = some xs ∧ atI xs i = some x ∧ Q x G
  | _ => False
theorem atI_rep {T : Tx} {G : GS} {H : Hp} {xs : List A} {vs : List V} {i : Int} {x : A} (r : RVs T G H xs vs) (h : atI xs i = some x) : ∃ v, atI vs i = some v ∧ RV T G H x v := by
  unfold atI at *
  rw [r.len]
  cases e : ixN xs.length i with
  | none => rw [e] at h; cases h
  | some j =>
    rw [e] at h
    obtain ⟨v, e1, r1⟩ := r.get (i := j) h
    exact ⟨v, e1, r1⟩
theorem p_ix (hT : T.K = X.K) (ha : PE X a (lE T W ta)) (hb : PE X b (lE T W tb)) (hs : PlainIx b) : PE X (.Subscript a b pos) (lE T W (eBin ixA ta tb)) := by
  refine PE.imp (pe_ix ix_seq ha hb hs) fun σ H Q ⟨ς, G, Qa, Xa, rs, rg, h, q, hx⟩ => ⟨ς, G, _, Xa, rs, rg, h, fun x G1 v H1 h1 rv rg1 k1 => ?_, hx⟩
  refine ⟨ς, G1, _, Xa, rs.mono k1, rg1, h1, fun y G2 w H2 h2 rw' rg2 k2 => ?_, hx.step k1⟩
  show rIx X.K v w H2 Q
  have rv2 := rv.mono k2
  have q2 := q.step (k1.trans k2)
  cases y with
  | int i => ?_
  | _ => exact False.elim h2
  obtain rfl := rv_int rw'
  have sq_case : (∃ xs x', seqOf G2 x = some xs ∧ atI xs i = some x' ∧ Qa x' G2) → rIx X.K v (.int i) H2 Q := fun ⟨xs, x', e1, e2, h2⟩ => by
    obtain ⟨p, vs, rfl, sq, rvs⟩ := seqOf_rep rg2 e1 rv2
    obtain ⟨v', e3, r3⟩ := atI_rep rvs e2
    rcases sq with sq | sq
    · exact .inl ⟨p, vs, i, v', rfl, rfl, hT ▸ sq, e3, q2 _ _ _ _ h2 r3 rg2 Kp.refl⟩
    · exact .inr (.inl ⟨p, vs, i, v', rfl, rfl, hT ▸ sq.1.sq, e3, q2 _ _ _ _ h2 r3 rg2 Kp.refl⟩)
  cases x with
  | str z =>
    obtain ⟨hz, c, e, h2⟩ := h2
    exact .inr (.inr ⟨z, i, c, rv_str rv2, rfl, hz, e, q2 _ _ _ _ h2 (rv_s _) rg2 Kp.refl⟩)
  | _ => exact sq_case h2
/-! slices -/
abbrev OA := En → Gp → (Option Int → Gp → Prop) → KX → Prop
def oNo : OA := fun _ G Q _ => Q none G
def oSome (t : EA) : OA := fun ς G Q X => t ς G (fun x G1 => match x with
  | .int i => Q (some i) G1
  | _ => False) X
def lO (T : Tx) (W : L2.WX) (t : OA) : TO := fun σ H Q => ∃ ς, ∃ G : GS, ∃ Qa Xa, RS T G H ς σ ∧ RG T H G ∧ t ς G Qa Xa ∧ (∀ i (G' : GS) H', Qa i G' → RG T H' G' → Kp G H G' H' → Q i H') ∧ LX T G H Xa (WE W σ)
theorem PO.imp {X : Cx} {e : Option Expr} {t t' : TO} (p : PO X e t) (h : ∀ σ H Q, t' σ H Q → t σ H Q) : PO X e t' := ⟨fun pins s σ H Q I q => p.run pins s σ H Q I (h σ H Q q)⟩
theorem o_no : PO X none (lO T W oNo) := PO.imp po_none fun σ H Q ⟨ς, G, Qa, Xa, rs, rg, h, q, hx⟩ => q _ _ _ h rg Kp.refl
theorem o_some (ha : PE X a (lE T W ta)) : PO X (some a) (lO T W (oSome ta)) := by
  refine PO.imp (po_some ha) fun σ H Q ⟨ς, G, Qa, Xa, rs, rg, h, q, hx⟩ => ⟨ς, G, _, Xa, rs, rg, h, fun x G1 v H1 h1 rv rg1 k1 => ?_, hx⟩
  cases x with
  | int i => exact ⟨i, rv_int rv, q _ _ _ h1 rg1 k1⟩
  | _ => exact False.elim h1
def cutA {α : Type} (xs : List α) (lo hi : Option Int) : List α := (xs.drop (HT.sIx xs.length 0 lo)).take (HT.sIx xs.length xs.length hi - HT.sIx xs.length 0 lo)
def slA (m : Bool) (a : A) (lo hi : Option Int) (G : Gp) (Q : KA) : Prop := match a with
  | .str z => z.length ≤ sizeLine ∧ Q (.str (L2.cutS z lo hi)) G
  | .tup xs => Q (.tup (cutA xs lo hi)) G
  | .scr xs => new m (.lst (cutA xs lo hi)) G Q
  | a => ∃ xs, lstOf G a = some xs ∧ new m (.lst (cutA xs lo hi)) G Q
def eSl (m : Bool) (ta : EA) (lo hi : OA) : EA := fun ς G Q X => ta ς G (fun x G1 => lo ς G1 (fun i G2 => hi ς G2 (fun j G3 => slA m x i j G3 Q) X) X) X
theorem cut_rep {T : Tx} {G : GS} {H : Hp} {xs : List A} {vs : List V} {i j : Option Int} (r : RVs T G H xs vs) : RVs T G H (cutA xs i j) (cutV vs i j) := by
  unfold cutA cutV
  rw [r.len]
  exact (r.drop _).take _
end
end Q
/-! Q7: slices, methods, isinstance. -/
namespace Q
open PySem PySem.Spec PyProof.Rows L2
section
variable {X : Cx} {T : Tx} {W : L2.WX} {a b e o : Expr} {es : List Expr} {ta tb to : EA} {t : LA} {pos p2 : Pos}
theorem s_any {m : Bool} (hT : T.K = X.K) : SlR X (fun x lo hi H Q => ∃ a, ∃ G : GS, ∃ Qa, RV T G H a x ∧ RG T H G ∧ slA m a lo hi G Qa ∧ LQ T G H Qa Q) := by
  intro pins s σ H x v vl vu lo hi sl Q I rx hs pl pu h
  obtain ⟨a, G, Qa, ra, rg, h, q⟩ := h
  have lst : (∃ xs, lstOf G a = some xs ∧ new m (.lst (cutA xs lo hi)) G Qa) → rSlL X.K x lo hi H Q := fun ⟨xs, e, n⟩ => by
    obtain ⟨p, vs, rfl, sq, rv⟩ := lstOf_rep rg e ra
    exact ⟨p, vs, rfl, .of sq, fun p hp => new_lst rg (cut_rep rv) n q hp⟩
  cases a with
  | str z => exact sl_str pins s σ H x v vl vu lo hi sl Q I rx hs pl pu ⟨z, rv_str ra, h.1, q _ _ _ _ h.2 (rv_s _) rg Kp.refl⟩
  | tup xs =>
    obtain ⟨p, vs, rfl, sq, rv⟩ := rv_tup ra
    have hl := rv.len
    refine sl_tupA pins s σ H _ v vl vu lo hi sl Q I rx hs pl pu ⟨p, vs, rfl, hT ▸ sq.sq, fun ⟨h1, h2⟩ => ?_, fun _ p hp => new_tup rg (cut_rep rv) h q hp⟩
    have e : cutA xs lo hi = xs := by
      unfold cutA
      rw [hl] at h1 h2
      rw [h1, h2]; simp
    have h' : Qa (.tup (cutA xs lo hi)) G := h
    rw [e] at h'
    exact q _ _ _ _ h' ra rg Kp.refl
  | scr xs =>
    simp only [RV] at ra
    obtain ⟨p, vs, rfl, sq, rv⟩ := ra
    exact sl_list pins s σ H _ v vl vu lo hi sl Q I rx hs pl pu ⟨p, vs, rfl, hT ▸ sq.sq, fun p hp => new_lst rg (cut_rep rv) h q hp⟩
  | _ => exact sl_list pins s σ H x v vl vu lo hi sl Q I rx hs pl pu (lst h)
theorem p_sl {m : Bool} {tl th : OA} {lo hi : Option Expr} (hT : T.K = X.K) (ha : PE X a (lE T W ta)) (hl : PO X lo (lO T W tl)) (hh : PO X hi (lO T W th)) : PE X (.Subscript a (.Slice lo hi none p2) pos) (lE T W (eSl m ta tl th)) := by
  refine PE.imp (pe_slice (s_any (m := m) hT) ha hl hh) fun σ H Q ⟨ς, G, Qa, Xa, rs, rg, h, q, hx⟩ => ⟨ς, G, _, Xa, rs, rg, h, fun x G1 v H1 h1 rv rg1 k1 => ?_, hx⟩
  refine ⟨ς, G1, _, Xa, rs.mono k1, rg1, h1, fun i G2 H2 h2 rg2 k2 => ?_, hx.step k1⟩
  have k12 := k1.trans k2
  refine ⟨ς, G2, _, Xa, rs.mono k12, rg2, h2, fun j G3 H3 h3 rg3 k3 => ?_, hx.step k12⟩
  exact ⟨x, G3, Qa, rv.mono (k2.trans k3), rg3, h3, q.step (k12.trans k3)⟩
def eRev (m : Bool) (ta : EA) : EA := fun ς G Q X => ta ς G (fun x G1 => ∃ xs, lstOf G1 x = some xs ∧ new m (.lst xs.reverse) G1 Q) X
theorem p_rev {m : Bool} {k : Nat} {p1 p2 p3 : Pos} (hT : T.K = X.K) (ha : PE X a (lE T W ta)) : PE X (.Subscript a (.Slice none none (some (.UnaryOp .USub (.Constant (.int 1) k p1) p2)) p3) pos) (lE T W (eRev m ta)) := by
  refine PE.imp (pe_revL ha) fun σ H Q ⟨ς, G, Qa, Xa, rs, rg, h, q, hx⟩ => ⟨ς, G, _, Xa, rs, rg, h, fun x G1 v H1 h1 rv rg1 k1 => ?_, hx⟩
  obtain ⟨xs, e, n⟩ := h1
  obtain ⟨p, vs, rfl, sq, rv⟩ := lstOf_rep rg1 e rv
  exact ⟨p, vs, rfl, .of sq, fun p hp => new_lst rg1 rv.reverse n (q.step k1) hp⟩
/-! ### methods of built-in types -/
def tyA (n : String) (G : Gp) : A → Prop
  | .str _ => n = "str"
  | .fro _ => n = "list"
  | .fdc _ _ => n = "dict"
  | .ref p => (n = "list" ∧ ∃ xs, G p = some (.lst xs)) ∨ (n = "dict" ∧ ∃ kvs, G p = some (.dct kvs))
  | _ => False
theorem tyA_rep {n : String} {G : GS} {H : Hp} {a : A} {v : V} (hT : T.K = X.K) (rg : RG T H G) (r : RV T G H a v) (h : tyA n G a) : tyV X.K n v H := by
  cases a with
  | str z => obtain rfl := rv_str r; exact h
  | fro xs =>
    simp only [RV] at r
    obtain ⟨p, vs, rfl, _, sq, _⟩ := r
    exact .inl ⟨h, vs, .of sq⟩
  | fdc ks xs =>
    simp only [RV] at r
    obtain ⟨p, vs, rfl, _, _, sq⟩ := r
    rcases sq with ⟨qs, e, _⟩ | ⟨qs, e, _⟩
    · exact .inr (.inr (.inl ⟨h, .inl ⟨qs, e⟩⟩))
    · exact .inr (.inr (.inl ⟨h, .inr ⟨qs, e⟩⟩))
  | ref p =>
    obtain rfl := rv_ref r
    rcases h with ⟨e, xs, h⟩ | ⟨e, kvs, h⟩
    · obtain ⟨vs, h1, _⟩ := rg p _ h
      exact .inl ⟨e, vs, .of h1⟩
    · rcases rg p _ h with ⟨qs, h1, _⟩ | ⟨qs, h1, _⟩
      · exact .inr (.inr (.inl ⟨e, .inl ⟨qs, h1⟩⟩))
      · exact .inr (.inr (.inl ⟨e, .inr ⟨qs, h1⟩⟩))
  | _ => exact False.elim h
def eM (n : String) (f : A → PN) (to : EA) (t : LA) : EA := fun ς G Q X => to ς G (fun x G1 => tyA n G1 x ∧ t ς G1 (fun as G2 => f x as G2 Q) X) X
theorem p_m {n id : String} {name : Str} {apos : Pos} {f : A → PN} (hT : T.K = X.K) (pa : PlainAttrs n) (slot : Slot n name id) (hty : typeOf (.builtin id) = pure (.type "method_descriptor")) (hm : MtR X id (lM T f)) (ho : PE X o (lE T W to)) (ha : PA X (e :: es) (lL T W t))
    (hbase : attributeBase o name X.env (eval o X.env) = eval o X.env)
    (hfew : ((backTo pos (starEach (e :: es) X.env)).all (fun x => !x.1) && (backToKw pos (keywordEach [] X.env)).all (fun x => x.1.isSome) && decide ((e :: es).length + ([] : List Keyword).length + (if ([] : List Keyword).isEmpty then 0 else 1) < 30)) = true)
    (hline : (apos.endLine == pos.line) = true) (hs : starEach (e :: es) X.env = (false, eval e X.env) :: starEach es X.env) (hplain : (backTo pos (starEach es X.env)).any (·.1) = false) :
    PE X (.Call (.Attribute o name apos) (e :: es) [] pos) (lE T W (eM n f to t)) := by
  refine PE.imp (pe_bm pa slot hty hm ho ha hbase hfew hline hs hplain) fun σ H Q ⟨ς, G, Qa, Xa, rs, rg, h, q, hx⟩ => ⟨ς, G, _, Xa, rs, rg, h, fun x G1 v H1 h1 rv rg1 k1 => ?_, hx⟩
  exact ⟨tyA_rep hT rg1 rv h1.1, ς, G1, _, Xa, rs.mono k1, rg1, h1.2, fun as G2 vs H2 h2 rvs rg2 k2 => ⟨x, as, G2, Qa, rv.mono k2, rvs, rg2, h2, q.step (k1.trans k2)⟩, hx.step k1⟩
theorem p_m0 {n id : String} {name : Str} {apos : Pos} {f : A → PN} (hT : T.K = X.K) (pa : PlainAttrs n) (slot : Slot n name id) (hty : typeOf (.builtin id) = pure (.type "method_descriptor")) (hm : MtR X id (lM T f)) (ho : PE X o (lE T W to))
    (hbase : attributeBase o name X.env (eval o X.env) = eval o X.env) (hline : (apos.endLine == pos.line) = true) : PE X (.Call (.Attribute o name apos) [] [] pos) (lE T W (eM n f to lNil)) := by
  refine PE.imp (pe_bm0 pa slot hty hm ho hbase hline) fun σ H Q ⟨ς, G, Qa, Xa, rs, rg, h, q, hx⟩ => ⟨ς, G, _, Xa, rs, rg, h, fun x G1 v H1 h1 rv rg1 k1 => ?_, hx⟩
  exact ⟨tyA_rep hT rg1 rv h1.1, x, [], G1, Qa, rv, rfl, rg1, h1.2, q.step k1⟩
/-! what they do -/
def wr (p : Addr) (o : O) (G : Gp) (Q : KA) : Prop := Q .non (up G p o)
theorem wr_lst {G1 : GS} {H1 : Hp} {p : Addr} {xs as : List A} {vs ws : List V} {Qa : KA} {Q : VK} (rg1 : RG T H1 G1) (hp : G1 p = some (.lst xs)) (hv : H1 p = some (.lst ws)) (rv : RVs T G1 H1 as vs) (h : wr p (.lst as) G1 Qa) (q : LQ T G1 H1 Qa Q) : Q .non (upd H1 p (.lst vs)) := by
  have k : Kp G1 H1 (G1.up p (.lst as)) (upd H1 p (.lst vs)) := Kp.wr (by rw [hp]; simp)
  exact q _ (G1.up p (.lst as)) _ _ h rv_n (rg1.up k ⟨vs, upd_same, rv.mono k⟩) k
def appendA : A → PN := fun a as G Q => ∃ p xs y, a = .ref p ∧ as = [y] ∧ G p = some (.lst xs) ∧ xs.length < sizeLine ∧ wr p (.lst (xs ++ [y])) G Q
theorem m_append : MtR X "list.append" (lM T appendA) := by
  intro pins s σ H x xs v us Q I rx rs h
  obtain ⟨a, as, G, Qa, ra, rv, rg, ⟨p, ys, y, rfl, rfl, e, hz, h⟩, q⟩ := h
  obtain ⟨v1, rfl, r1⟩ := rvs1 rv
  obtain ⟨vs, h1, r2⟩ := rg p _ e
  exact mt_append pins s σ H x _ v us Q I rx rs ⟨p, vs, v1, rv_ref ra, rfl, h1, by rw [r2.len]; exact hz, wr_lst rg e h1 (r2.app (.one r1)) h q⟩
def insertA : A → PN := fun a as G Q => ∃ p xs i y, a = .ref p ∧ as = [.int i, y] ∧ G p = some (.lst xs) ∧ xs.length < sizeLine ∧ 0 ≤ i ∧ i < 2 ^ 63 ∧ wr p (.lst (xs.take i.toNat ++ [y] ++ xs.drop i.toNat)) G Q
theorem m_insert : MtR X "list.insert" (lM T insertA) := by
  intro pins s σ H x xs v us Q I rx rs h
  obtain ⟨a, as, G, Qa, ra, rv, rg, ⟨p, ys, i, y, rfl, rfl, e, hz, i0, i1, h⟩, q⟩ := h
  obtain ⟨v1, v2, rfl, r1, r1'⟩ := rvs2 rv
  obtain rfl := rv_int r1
  obtain ⟨vs, h1, r2⟩ := rg p _ e
  exact mt_insert pins s σ H x _ v us Q I rx rs ⟨p, vs, i, v2, rv_ref ra, rfl, h1, by rw [r2.len]; exact hz, i0, i1, wr_lst rg e h1 (((r2.take _).app (.one r1')).app (r2.drop _)) h q⟩
def reverseA : A → PN := fun a as G Q => ∃ p xs, a = .ref p ∧ as = [] ∧ G p = some (.lst xs) ∧ wr p (.lst xs.reverse) G Q
theorem m_reverse : MtR X "list.reverse" (lM T reverseA) := by
  intro pins s σ H x xs v us Q I rx rs h
  obtain ⟨a, as, G, Qa, ra, rv, rg, ⟨p, ys, rfl, rfl, e, h⟩, q⟩ := h
  obtain rfl := rvs0 rv
  obtain ⟨vs, h1, r2⟩ := rg p _ e
  exact mt_reverse pins s σ H x _ v us Q I rx rs ⟨p, vs, rv_ref ra, rfl, h1, wr_lst rg e h1 r2.reverse h q⟩
def clearA : A → PN := fun a as G Q => ∃ p xs, a = .ref p ∧ as = [] ∧ G p = some (.lst xs) ∧ wr p (.lst []) G Q
theorem m_clear : MtR X "list.clear" (lM T clearA) := by
  intro pins s σ H x xs v us Q I rx rs h
  obtain ⟨a, as, G, Qa, ra, rv, rg, ⟨p, ys, rfl, rfl, e, h⟩, q⟩ := h
  obtain rfl := rvs0 rv
  obtain ⟨vs, h1, r2⟩ := rg p _ e
  exact mt_clear pins s σ H x _ v us Q I rx rs ⟨p, vs, rv_ref ra, rfl, h1, wr_lst (vs := []) rg e h1 (by simp only [RVs]) h q⟩
def extendA : A → PN := fun a as G Q => ∃ p b xs ys, a = .ref p ∧ as = [b] ∧ G p = some (.lst xs) ∧ lstOf G b = some ys ∧ xs.length + ys.length ≤ sizeLine ∧ wr p (.lst (xs ++ ys)) G Q
theorem m_extend : MtR X "list.extend" (lM T extendA) := by
  intro pins s σ H x xs v us Q I rx rs h
  obtain ⟨a, as, G, Qa, ra, rv, rg, ⟨p, b, zs, ys, rfl, rfl, e, e2, hz, h⟩, q⟩ := h
  obtain ⟨v1, rfl, r1⟩ := rvs1 rv
  obtain ⟨vs, h1, r2⟩ := rg p _ e
  obtain ⟨p2, ws, rfl, h3, r4⟩ := lstOf_rep rg e2 r1
  exact mt_extend pins s σ H x _ v us Q I rx rs ⟨p, p2, vs, ws, rv_ref ra, rfl, h1, h3, by rw [r2.len, r4.len]; exact hz, wr_lst rg e h1 (r2.app r4) h q⟩
/-- a text's truth tests -/
def strB (f : Str → Bool) : A → PN := fun a as G Q => ∃ z, a = .str z ∧ as = [] ∧ Q (.bl (f z)) G
theorem m_strB {id : String} {f : Str → Bool} (h : MtR X id (fun x xs H Q => ∃ a, x = .str a ∧ xs = [] ∧ True ∧ Q (.bl (f a)) H)) : MtR X id (lM T (strB f)) := by
  intro pins s σ H x xs v us Q I rx rs hh
  obtain ⟨a, as, G, Qa, ra, rv, rg, ⟨z, rfl, rfl, hf⟩, q⟩ := hh
  obtain rfl := rvs0 rv
  exact h pins s σ H x _ v us Q I rx rs ⟨z, rv_str ra, rfl, trivial, q _ _ _ _ hf (rv_b _) rg Kp.refl⟩
def upperA : A → PN := fun a as G Q => ∃ z, a = .str z ∧ as = [] ∧ z.length ≤ 5592405 ∧ Q (.str (Txt.upper z)) G
theorem m_upper : MtR X "str.upper" (lM T upperA) := by
  intro pins s σ H x xs v us Q I rx rs hh
  obtain ⟨a, as, G, Qa, ra, rv, rg, ⟨z, rfl, rfl, hz, hf⟩, q⟩ := hh
  obtain rfl := rvs0 rv
  exact mt_upper pins s σ H x _ v us Q I rx rs ⟨z, rv_str ra, rfl, hz, q _ _ _ _ hf (rv_s _) rg Kp.refl⟩
theorem rvs_strs {T : Tx} {G : GS} {H : Hp} : ∀ zs : List Str, RVs T G H (zs.map A.str) (zs.map V.str)
  | [] => rfl
  | z :: zs => .cons (rv_s z) (rvs_strs zs)
theorem rvs_strs' {T : Tx} {G : GS} {H : Hp} : ∀ {zs : List Str} {vs : List V}, RVs T G H (zs.map A.str) vs → vs = zs.map V.str
  | [], vs, h => rvs0 h
  | z :: zs, vs, h => by
    rw [List.map_cons] at h
    simp only [RVs] at h
    obtain ⟨v, r, rfl, h1, h2⟩ := h
    simp only [RV] at h1
    rw [h1, rvs_strs' h2]; rfl
def splitA (m : Bool) : A → PN := fun a as G Q => ∃ z y, a = .str z ∧ as = [.str y] ∧ (y.length == 0) = false ∧ z.length + 2 ≤ sizeLine ∧ new m (.lst ((Txt.split z y).map A.str)) G Q
theorem m_split {m : Bool} : MtR X "str.split" (lM T (splitA m)) := by
  intro pins s σ H x xs v us Q I rx rs hh
  obtain ⟨a, as, G, Qa, ra, rv, rg, ⟨z, y, rfl, rfl, h0, hz, hf⟩, q⟩ := hh
  obtain ⟨v1, rfl, r1⟩ := rvs1 rv
  obtain rfl := rv_str r1
  exact mt_split pins s σ H x _ v us Q I rx rs ⟨z, y, rv_str ra, rfl, h0, hz, fun p hp => new_lst rg (rvs_strs _) hf q hp⟩
def joinA : A → PN := fun a as G Q => ∃ z b ys, a = .str z ∧ as = [b] ∧ seqOf G b = some (ys.map A.str) ∧ (ys.map (·.length)).sum + ys.length * z.length ≤ 16777216 ∧ Q (.str (Txt.join z ys)) G
theorem m_join (hT : T.K = X.K) : MtR X "str.join" (lM T joinA) := by
  intro pins s σ H x xs v us Q I rx rs hh
  obtain ⟨a, as, G, Qa, ra, rv, rg, ⟨z, b, ys, rfl, rfl, e, hz, hf⟩, q⟩ := hh
  obtain ⟨v1, rfl, r1⟩ := rvs1 rv
  obtain ⟨p, vs, rfl, sq, rvs⟩ := seqOf_rep rg e r1
  obtain rfl := rvs_strs' rvs
  exact mt_join pins s σ H x _ v us Q I rx rs ⟨z, p, ys, rv_str ra, rfl, hT ▸ sq.imp id (fun z => z.1.sq), hz, q _ _ _ _ hf (rv_s _) rg Kp.refl⟩
/-! ### isinstance of built-in types -/
def tyName (G : Gp) : A → Option String
  | .scr _ => none
  | .fin _ _ _ => none
  | .exn _ _ _ => none
  | .non => some "NoneType"
  | .bl _ => some "bool"
  | .int _ => some "int"
  | .str _ => some "str"
  | .tup _ => some "tuple"
  | .fro _ => some "list"
  | .fdc _ _ => some "dict"
  | .ref p => match G p with
    | some (.lst _) => some "list"
    | some (.dct _) => some "dict"
    | _ => none
def isiB (n : String) (ts : List String) : Bool := ts.any fun t => n == t || (n == "bool" && t == "int")
def eIsi (ta : EA) (ts : List String) : EA := fun ς G Q X => ta ς G (fun x G1 => ∃ n, tyName G1 x = some n ∧ Q (.bl (isiB n ts)) G1) X
def okTy (t : String) : Bool := ["int", "bool", "str", "tuple", "list", "dict"].contains t
theorem tyName_mem {G : Gp} {a : A} {n : String} (h : tyName G a = some n) : n ∈ ["NoneType", "bool", "int", "str", "tuple", "list", "dict"] := by
  cases a with
  | ref p => simp only [tyName] at h; split at h <;> first | (cases h; decide) | cases h
  | scr _ => simp [tyName] at h
  | fin _ _ _ => simp [tyName] at h
  | exn _ _ _ => simp [tyName] at h
  | _ => simp only [tyName, Option.some.injEq] at h; subst h; decide
theorem kits : (["NoneType", "bool", "int", "str", "tuple", "list", "dict"].all fun n => ["int", "bool", "str", "tuple", "list", "dict"].all fun t => L2.kitB n t == some (n == t || (n == "bool" && t == "int"))) = true := by decide +kernel
theorem kit_one {K : PySem.W.Frag} {n t : String} (hn : n ∈ ["NoneType", "bool", "int", "str", "tuple", "list", "dict"]) (ht : okTy t = true) : PySem.W.kitOne K (.type n) (.type t) = some (n == t || (n == "bool" && t == "int")) := by
  have h := List.all_eq_true.mp (List.all_eq_true.mp kits n hn) t (by simpa [okTy] using ht)
  exact L2.kit_ty (by simpa using h)
theorem tyName_rep {H : Hp} {G : GS} {a : A} {v : V} {n : String} (hT : T.K = X.K) (rg : RG T H G) (h : tyName G a = some n) (r : RV T G H a v) : TyX X.K H v (.type n) := by
  cases a with
  | non => simp only [tyName, Option.some.injEq] at h; subst h; simp only [RV] at r; subst r; exact .base .non
  | bl b => simp only [tyName, Option.some.injEq] at h; subst h; simp only [RV] at r; subst r; exact .base (.bl _)
  | int b => simp only [tyName, Option.some.injEq] at h; subst h; obtain rfl := rv_int r; exact .base (.int _)
  | str b => simp only [tyName, Option.some.injEq] at h; subst h; obtain rfl := rv_str r; exact .base (.str _)
  | tup xs =>
    simp only [tyName, Option.some.injEq] at h; subst h
    obtain ⟨p, vs, rfl, sq, _⟩ := rv_tup r
    rcases sq.sq with (sq | ⟨o, sq⟩) | ⟨o, its, m, sq, c, _⟩
    · exact .base (.tup sq)
    · exact .fTuple sq
    · exact .kTuple (hT ▸ sq) c
  | fro xs =>
    simp only [tyName, Option.some.injEq] at h; subst h
    simp only [RV] at r
    obtain ⟨p, vs, rfl, _, sq, _⟩ := r
    exact .base (.lst sq)
  | fdc ks xs =>
    simp only [tyName, Option.some.injEq] at h; subst h
    simp only [RV] at r
    obtain ⟨p, vs, rfl, _, _, sq⟩ := r
    rcases sq with ⟨qs, e, _⟩ | ⟨qs, e, _⟩
    · exact .base (.dK e)
    · exact .base (.dT e)
  | scr _ => simp [tyName] at h
  | fin _ _ _ => simp [tyName] at h
  | exn _ _ _ => simp [tyName] at h
  | ref p =>
    obtain rfl := rv_ref r
    simp only [tyName] at h
    split at h
    · rename_i xs e; cases h
      obtain ⟨vs, h1, _⟩ := rg p _ e
      exact .base (.lst h1)
    · rename_i xs e; cases h
      rcases rg p _ e with ⟨qs, h1, _⟩ | ⟨qs, h1, _⟩
      · exact .base (.dK h1)
      · exact .base (.dT h1)
    · cases h
theorem p_isi1 {n : Str} {m : String} {pi pt : Pos} (hT : T.K = X.K) (he : PE X e (lE T W ta)) (hg : Gl X "isinstance") (hm : X.mg "isinstance" = none) (gn : Gl X n) (mn : X.mg n = none) (hv : bootBuiltins n = some (.type m)) (ht : okTy m = true) (hn : n ≠ "__name__") (hdb : (n == ("__debug__" : Str)) = false)
    (hs : starEach [e, .Name n pt] X.env = (false, eval e X.env) :: starEach [.Name n pt] X.env) : PE X (.Call (.Name "isinstance" pi) [e, .Name n pt] [] pos) (lE T W (eIsi ta [m])) := by
  refine PE.imp (pe_callB call_isi hg hm boot_isinstance (pa_cons he (pa_cons (pe_bltn (v := .ty m) gn mn hv rfl hn hdb) pa_nil) hs) (by decide) (by decide) hs rfl) fun σ H Q ⟨ς, G, Qa, Xa, rs, rg, h, q, hx⟩ => ⟨ς, G, _, Xa, rs, rg, h, fun x G1 v H1 h1 rv rg1 k1 => ?_, hx⟩
  obtain ⟨k, e1, h1⟩ := h1
  refine ⟨v, .ty m, .type k, .type m, _, rfl, .ty m, tyName_rep hT rg1 e1 rv, kit_one (tyName_mem e1) ht, ?_⟩
  have z : isiB k [m] = (k == m || (k == "bool" && m == "int")) := by simp [isiB]
  rw [← z]
  exact q _ _ _ _ h1 (rv_b _) rg1 k1
theorem p_isi2 {n n' : Str} {m m' : String} {x1 : Nat} {pi pt pt' pp : Pos} (hT : T.K = X.K) (he : PE X e (lE T W ta)) (hg : Gl X "isinstance") (hm : X.mg "isinstance" = none) (gn : Gl X n) (mn : X.mg n = none) (hv : bootBuiltins n = some (.type m)) (ht : okTy m = true) (hn : n ≠ "__name__") (hdb : (n == ("__debug__" : Str)) = false)
    (gn' : Gl X n') (mn' : X.mg n' = none) (hv' : bootBuiltins n' = some (.type m')) (ht' : okTy m' = true) (hn' : n' ≠ "__name__") (hdb' : (n' == ("__debug__" : Str)) = false)
    (hs : starEach [e, .Tuple [.Name n pt, .Name n' pt'] x1 pp] X.env = (false, eval e X.env) :: starEach [.Tuple [.Name n pt, .Name n' pt'] x1 pp] X.env) :
    PE X (.Call (.Name "isinstance" pi) [e, .Tuple [.Name n pt, .Name n' pt'] x1 pp] [] pos) (lE T W (eIsi ta [m, m'])) := by
  refine PE.imp (pe_callB call_isiT hg hm boot_isinstance (pa_cons he (pa_cons (pe_tup (pa_cons (pe_bltn (v := .ty m) gn mn hv rfl hn hdb) (pa_cons (pe_bltn (v := .ty m') gn' mn' hv' rfl hn' hdb') pa_nil))) pa_nil) hs) (by decide) (by decide) hs rfl) fun σ H Q ⟨ς, G, Qa, Xa, rs, rg, h, q, hx⟩ => ⟨ς, G, _, Xa, rs, rg, h, fun x G1 v H1 h1 rv rg1 k1 => ?_, hx⟩
  obtain ⟨k, e1, h1⟩ := h1
  refine ⟨by show 2 ≤ sizeLine; decide, fun p hp => ?_⟩
  refine ⟨v, p, [.ty m, .ty m'], .type k, [.type m, .type m'], _, rfl, upd_same, .cons (.ty m) (.cons (.ty m') .nil), tyName_rep (X := X) hT (rg1.newT hp) e1 (rv.mono (Kp.newT hp)), ?_, q _ (G1.fx p) _ _ h1 (rv_b _) (rg1.newT hp) (k1.trans (Kp.newT hp))⟩
  have z : isiB k [m, m'] = ((k == m || (k == "bool" && m == "int")) || (k == m' || (k == "bool" && m' == "int"))) := by simp [isiB]
  rw [z]
  refine kitAny_cons (kit_one (tyName_mem e1) ht) (fun hb => ?_) (fun hb => by rw [hb]; rfl)
  rw [hb, Bool.false_or]
  refine kitAny_cons (kit_one (tyName_mem e1) ht') (fun hb => by rw [hb]; exact kitAny_nil) (fun hb => hb)
end
end Q
/-! Q8: statements, loops, comprehensions. -/
namespace Q
open PySem PySem.Spec PyProof.Rows L2
structure LF (T : Tx) (G : GS) (H : Hp) (Da : Fl) (D : Ends) (W : L2.WX) : Prop where
  nx : ∀ ς (G' : GS) σ H', Da.nx ς G' → RS T G' H' ς σ → RG T H' G' → Kp G H G' H' → D.nx σ H'
  rt : LQ T G H Da.rt D.rt
  bk : ∀ ς (G' : GS) σ H', Da.bk ς G' → RS T G' H' ς σ → RG T H' G' → Kp G H G' H' → D.bk σ H'
  ct : ∀ ς (G' : GS) σ H', Da.ct ς G' → RS T G' H' ς σ → RG T H' G' → Kp G H G' H' → D.ct σ H'
  ex : ∀ e ς (G' : GS) σ c d H', Da.ex e ς G' → RX T G' H' e c d → RS T G' H' ς σ → RG T H' G' → Kp G H G' H' → W c d σ H'
theorem LF.step {T : Tx} {G G1 : GS} {H H1 : Hp} {Da : Fl} {D : Ends} {W : L2.WX} (q : LF T G H Da D W) (k : Kp G H G1 H1) : LF T G1 H1 Da D W :=
  ⟨fun ς G' σ H' a b c d => q.nx ς G' σ H' a b c (k.trans d), q.rt.step k, fun ς G' σ H' a b c d => q.bk ς G' σ H' a b c (k.trans d), fun ς G' σ H' a b c d => q.ct ς G' σ H' a b c (k.trans d), fun e ς G' σ c d H' a b r x z => q.ex e ς G' σ c d H' a b r x (k.trans z)⟩
/-- the wish about what an expression of the statement raises -/
theorem LF.lx {T : Tx} {G : GS} {H : Hp} {Da : Fl} {D : Ends} {W : L2.WX} {ς : En} {σ : L2.St} (q : LF T G H Da D W) (rg : RG T H G) (rs : RS T G H ς σ) : LX T G H (fun e G' => Da.ex e ς G') (WE W σ) := fun e G' c d H' h rx rg' k => q.ex e ς G' σ c d H' h rx (rs.mono k) rg' k
def lS (T : Tx) (W : L2.WX) (t : SA) : TS := fun D σ H => ∃ ς, ∃ G : GS, ∃ Da, RS T G H ς σ ∧ RG T H G ∧ t Da ς G ∧ LF T G H Da D W
abbrev GA := A → En → Gp → (En → Gp → Prop) → Prop
def lG (T : Tx) (vs : List Nat) (g : GA) : TG := fun v σ H Q => ∃ a ς, ∃ G : GS, ∃ Qa, RV T G H a v ∧ RS T G H ς σ ∧ RG T H G ∧ g a ς G Qa ∧
  ∀ ς' (G' : GS) σ' H', Qa ς' G' → RS T G' H' ς' σ' → RG T H' G' → Kp G H G' H' → wipe σ' vs = wipe σ vs → Q σ' H'
theorem PG.imp {X : Cx} {e : Expr} {t t' : TG} (p : PG X e t) (h : ∀ v σ H Q, t' v σ H Q → t v σ H Q) : PG X e t' := ⟨fun pins s σ H v u Q I r q => p.run pins s σ H v u Q I r (h v σ H Q q)⟩
def gNm (i : Nat) : GA := fun a ς G Q => Q (ς.set i (some a)) G
theorem wipe_mem {i : Nat} {y : Option V} : ∀ {vs : List Nat} {σ : L2.St}, i ∈ vs → wipe (σ.set i y) vs = wipe σ vs
  | v :: vs, σ, h => by
    unfold wipe
    by_cases hv : i ∈ vs
    · rw [wipe_mem hv]
    · have e : v = i := by simpa [hv, eq_comm] using h
      subst e
      have z : ∀ (ws : List Nat) (τ : L2.St), v ∉ ws → wipe (τ.set v y) ws = (wipe τ ws).set v y := by
        intro ws
        induction ws with
        | nil => intro τ _; rfl
        | cons w ws ih =>
          intro τ hw
          have h1 : v ≠ w := fun e => hw (by simp [e])
          have h2 : v ∉ ws := fun e => hw (by simp [e])
          unfold wipe
          rw [ih τ h2, List.set_comm _ _ h1]
      rw [z vs σ hv, List.set_set]
theorem g_nm {X : Cx} {T : Tx} {i : Nat} {x : Str} {pos : Pos} {vs : List Nat} (hN : X.N.Nodup) (hi : X.N[i]? = some x) (hx : Loc X.env.scope x) (hf : X.fn x = true ∨ X.env.scope.names.lookup x = some .local) (hv : i ∈ vs) : PG X (.Name x pos) (lG T vs (gNm i)) :=
  PG.imp (pg_name hN hi hx hf) fun v σ H Q ⟨a, ς, G, Qa, rv, rs, rg, h, q⟩ => q _ _ _ _ h (rs.set i rv) rg Kp.refl (wipe_mem hv)
def gTp (is : List Nat) : GA := fun a ς G Q => match a with
  | .tup xs => xs.length = is.length ∧ Q ((is.zip xs).foldl (fun ς p => ς.set p.1 (some p.2)) ς) G
  | _ => False
/-! ### blocks and small statements -/
section
variable {X : Cx} {T : Tx} {W : L2.WX} {e c : Expr} {st : Stmt} {a b rest : List Stmt} {ta : EA} {tt : BA} {t u : SA} {pos : Pos}
def sNx : SA := fun D ς G => D.nx ς G
/-- R, once some of the frame's objects are taken for ones that nobody changes from here on -/
inductive Fz (R : En → Gp → Prop) : En → Gp → Prop where
  | done {ς : En} {G : Gp} : R ς G → Fz R ς G
  | frz {ς : En} {G : Gp} (i : Nat) (p : Addr) (o : O) : ς[i]? = some (some (.ref p)) → G p = some o → Fz R (ς.set i (some (Q.frz o))) (rm p G) → Fz R ς G
theorem Fz.got {T : Tx} {R : En → Gp → Prop} {σ : L2.St} {H : Hp} {ς : En} {G0 : Gp} (h : Fz R ς G0) : ∀ G : GS, G.G = G0 → RS T G H ς σ → RG T H G → ∃ ς', ∃ G' : GS, R ς' G' ∧ RS T G' H ς' σ ∧ RG T H G' ∧ Kp G H G' H := by
  induction h with
  | done h => rintro G rfl rs rg; exact ⟨_, G, h, rs, rg, Kp.refl⟩
  | @frz ς G0 i p o e1 e2 _ ih =>
    rintro G rfl rs rg
    have r := rg.frz e2
    have ne : G p ≠ none := by rw [show G p = some o from e2]; simp
    have sn : ∀ v, RV T (G.rm p) H (.ref p) v → RV T (G.rm p) H (Q.frz o) v := fun v rv => by
      obtain rfl : v = .ref p := by simpa only [RV] using rv
      exact r
    obtain ⟨ς', G', a, b, c, d⟩ := ih (G.rm p) rfl ((rs.mono (Kp.rm ne)).seen i e1 sn) (rg.rm ne)
    exact ⟨ς', G', a, b, c, (Kp.rm ne).trans d⟩
def sSeq (t u : SA) : SA := fun D ς G => t { D with nx := Fz (u D) } ς G
def sRet (ta : EA) : SA := fun D ς G => ta ς G D.rt (fun e => D.ex e ς)
def sRetN : SA := fun D _ G => D.rt .non G
def sEx (ta : EA) : SA := fun D ς G => ta ς G (fun _ G1 => D.nx ς G1) (fun e => D.ex e ς)
def sIf (tt : BA) (t u : SA) : SA := fun D ς G => tt ς G (fun k G1 => if k = true then t D ς G1 else u D ς G1) (fun e => D.ex e ς)
def sBrk : SA := fun D ς G => D.bk ς G
def sCnt : SA := fun D ς G => D.ct ς G
def sSet (ta : EA) (g : GA) : SA := fun D ς G => ta ς G (fun x G1 => g x ς G1 D.nx) (fun e => D.ex e ς)
theorem b_nil : PSs X [] (lS T W sNx) := PSs.imp pss_nil fun D σ H ⟨ς, G, Da, rs, rg, h, q⟩ => q.nx _ _ _ _ h rs rg Kp.refl
theorem b_cons (h1 : PS X st (lS T W t)) (h2 : PSs X rest (lS T W u)) : PSs X (st :: rest) (lS T W (sSeq t u)) := by
  refine PSs.imp (pss_cons h1 h2) fun D σ H ⟨ς, G, Da, rs, rg, h, q⟩ => ⟨ς, G, _, rs, rg, h, ⟨fun ς' G' σ' H' a b c d => ?_, q.rt, q.bk, q.ct, q.ex⟩⟩
  obtain ⟨ς2, G2, a2, b2, c2, d2⟩ := a.got G' rfl b c
  exact ⟨ς2, G2, Da, b2, c2, a2, q.step (d.trans d2)⟩
theorem s_pass : PS X (.Pass pos) (lS T W sNx) := PS.imp ps_pass fun D σ H ⟨ς, G, Da, rs, rg, h, q⟩ => q.nx _ _ _ _ h rs rg Kp.refl
theorem s_brk : PS X (.Break pos) (lS T W sBrk) := PS.imp ps_break fun D σ H ⟨ς, G, Da, rs, rg, h, q⟩ => q.bk _ _ _ _ h rs rg Kp.refl
theorem s_cnt : PS X (.Continue pos) (lS T W sCnt) := PS.imp ps_continue fun D σ H ⟨ς, G, Da, rs, rg, h, q⟩ => q.ct _ _ _ _ h rs rg Kp.refl
theorem s_ret (he : PE X e (lE T W ta)) : PS X (.Return (some e) pos) (lS T W (sRet ta)) :=
  PS.imp (ps_ret he) fun D σ H ⟨ς, G, Da, rs, rg, h, q⟩ => ⟨ς, G, Da.rt, fun e => Da.ex e ς, rs, rg, h, q.rt, q.lx rg rs⟩
theorem s_retN : PS X (.Return none pos) (lS T W sRetN) := PS.imp ps_retN fun D σ H ⟨ς, G, Da, rs, rg, h, q⟩ => q.rt _ _ _ _ h rv_n rg Kp.refl
theorem s_ex (he : PE X e (lE T W ta)) (hs : swapsWith e none pos.line X.env = pure false) : PS X (.Expr e pos) (lS T W (sEx ta)) :=
  PS.imp (ps_expr he hs) fun D σ H ⟨ς, G, Da, rs, rg, h, q⟩ => ⟨ς, G, _, fun e => Da.ex e ς, rs, rg, h, fun _ G1 _ H1 h1 _ rg1 k1 => q.nx _ _ _ _ h1 (rs.mono k1) rg1 k1, q.lx rg rs⟩
theorem s_doc {x : Str} {j : Option Str} {pos' : Pos} {k : Nat} : PS X (.Expr (.Constant (.str x) k pos) pos') (lS T W sNx) := PS.imp ps_doc fun D σ H ⟨ς, G, Da, rs, rg, h, q⟩ => q.nx _ _ _ _ h rs rg Kp.refl
theorem s_if (hc : PT X c (lB T W tt)) (ha : PSs X a (lS T W t)) (hb : PSs X b (lS T W u)) : PS X (.If c a b pos) (lS T W (sIf tt t u)) := by
  refine PS.imp (ps_if hc ha hb) fun D σ H ⟨ς, G, Da, rs, rg, h, q⟩ => ⟨ς, G, _, fun e => Da.ex e ς, rs, rg, h, fun k G1 H1 h1 rg1 k1 => ?_, q.lx rg rs⟩
  cases k
  · rw [if_neg Bool.false_ne_true] at h1 ⊢
    exact ⟨ς, G1, Da, rs.mono k1, rg1, h1, q.step k1⟩
  · rw [if_pos rfl] at h1 ⊢
    exact ⟨ς, G1, Da, rs.mono k1, rg1, h1, q.step k1⟩
theorem s_set {i : Nat} {x : Str} {pos' : Pos} (hN : X.N.Nodup) (hi : X.N[i]? = some x) (hx : Loc X.env.scope x) (he : PE X e (lE T W ta)) (hs : swapsWith e (some (.Name x pos')) pos.line X.env = pure false) (hf : X.fn x = true ∨ X.env.scope.names.lookup x = some .local) :
    PS X (.Assign [.Name x pos'] e pos) (lS T W (sSet ta (gNm i))) := by
  refine PS.imp (ps_set hN hi hx he hs hf) fun D σ H ⟨ς, G, Da, rs, rg, h, q⟩ => ⟨ς, G, _, fun e => Da.ex e ς, rs, rg, h, fun x G1 v H1 h1 rv rg1 k1 => ?_, q.lx rg rs⟩
  exact q.nx _ _ _ _ h1 ((rs.mono k1).set i rv) rg1 k1
theorem s_asg {tg : Expr} {vs : List Nat} {g : GA} (he : PE X e (lE T W ta)) (hg : PG X tg (lG T vs g)) (hs : swapsWithSole [tg] e pos.line X.env = pure false) (hw : swappedStores [tg] e X.env = pure none) (h1 : (assignEach [tg] X.env).map (·.2) = [assign tg X.env]) :
    PS X (.Assign [tg] e pos) (lS T W (sSet ta g)) := by
  refine PS.imp (ps_asg he hg hs hw h1) fun D σ H ⟨ς, G, Da, rs, rg, h, q⟩ => ⟨ς, G, _, fun e => Da.ex e ς, rs, rg, h, fun x G1 v H1 h1 rv rg1 k1 => ?_, q.lx rg rs⟩
  exact ⟨x, ς, G1, _, rv, rs.mono k1, rg1, h1, fun ς' G' σ' H' a b c d _ => q.nx _ _ _ _ a b c (k1.trans d)⟩
def sPar (i j : Nat) (t : LA) : SA := fun D ς G => t ς G (fun as G1 => match as with
  | [x, y] => D.nx ((ς.set i (some x)).set j (some y)) G1
  | _ => False) (fun e => D.ex e ς)
theorem s_par {i j : Nat} {x y : Str} {a b : Expr} {t : LA} {px py pt : Pos} {kt k2 : Nat} {pt2 : Pos} (hc : X.calm = true) (hN : X.N.Nodup) (hi : X.N[i]? = some x) (hj : X.N[j]? = some y) (hij : i ≠ j)
    (hx : X.env.scope.names.lookup x = some .local) (hy : X.env.scope.names.lookup y = some .local) (ha : PA X [a, b] (lL T W t))
    (hw : swappedStores [.Tuple [.Name x px, .Name y py] kt pt] (.Tuple [a, b] k2 pt2) X.env = pure (some [x, y])) (hs : swapsWithSole [.Tuple [.Name x px, .Name y py] kt pt] (.Tuple [a, b] k2 pt2) pos.line X.env = pure false) :
    PS X (.Assign [.Tuple [.Name x px, .Name y py] kt pt] (.Tuple [a, b] k2 pt2) pos) (lS T W (sPar i j t)) := by
  refine PS.imp (ps_par hc hN hi hj hij hx hy ha hw hs) fun D σ H ⟨ς, G, Da, rs, rg, h, q⟩ => ⟨ς, G, _, fun e => Da.ex e ς, rs, rg, h, fun as G1 vs H1 h1 rv rg1 k1 => ?_, q.lx rg rs⟩
  match as, h1 with
  | [x1, y1], h1 =>
    obtain ⟨v, w, rfl, r1, r2⟩ := rvs2 rv
    exact ⟨v, w, rfl, q.nx _ _ _ _ h1 (((rs.mono k1).set i r1).set j r2) rg1 k1⟩
end
end Q
/-! Q9: what is walked; for; list comprehensions. -/
namespace Q
open PySem PySem.Spec PyProof.Rows L2
/-- J yields the items xs, as long as chk holds -/
structure IterOk (T : Tx) (G1 : GS) (H1 : Hp) (J : It) (xs : List A) (chk : Gp → Prop) : Prop where
  go : ∀ i H (G : GS), Kp G1 H1 G H → RG T H G → chk G → i < xs.length → J.go i H
  yld : ∀ i H (G : GS) x H', Kp G1 H1 G H → RG T H G → chk G → J.yld i H x H' → i < xs.length → ∃ a, xs[i]? = some a ∧ RV T G H' a x ∧ RG T H' G ∧ Kp G H G H'
  stop : ∀ H (G : GS), Kp G1 H1 G H → RG T H G → chk G → J.stop xs.length H
abbrev IA := En → Gp → (List A → (Gp → Prop) → Gp → Prop) → KX → Prop
def lI (T : Tx) (W : L2.WX) (t : IA) : TI := fun σ H R => ∃ ς, ∃ G : GS, ∃ Qa Xa, RS T G H ς σ ∧ RG T H G ∧ t ς G Qa Xa ∧ (∀ xs chk (G' : GS) J H', Qa xs chk G' → IterOk T G' H' J xs chk → RG T H' G' → Kp G H G' H' → R J H') ∧ LX T G H Xa (WE W σ)
def yes : Gp → Prop := fun _ => True
/-- the items of a list, a tuple, a text -/
def itOf (x : A) (G : Gp) (R : List A → (Gp → Prop) → Gp → Prop) : Prop := match x with
  | .tup xs => R xs yes G
  | .fro xs => R xs yes G
  | .str z => R (z.cps.toList.map fun c => .str ⟨#[c]⟩) yes G
  | .ref p => match G p with
    | some (.lst xs) => R xs (fun G' => G' p = some (.lst xs)) G
    | _ => False
  | _ => False
def iSeq (ta : EA) : IA := fun ς G R X => ta ς G (fun x G1 => itOf x G1 R) X
def iR1 (ta : EA) : IA := fun ς G R X => ta ς G (fun x G1 => match x with
  | .int j => -(2 ^ 62) ≤ j ∧ j < 2 ^ 62 ∧ R ((List.range j.toNat).map fun (i : Nat) => A.int (i : Int)) yes G1
  | _ => False) X
def iR2 (ta tb : EA) : IA := fun ς G R X => ta ς G (fun x G1 => tb ς G1 (fun y G2 => match x, y with
  | .int i, .int j => -(2 ^ 62) ≤ i ∧ i < 2 ^ 62 ∧ -(2 ^ 62) ≤ j ∧ j < 2 ^ 62 ∧ R ((List.range (j - i).toNat).map fun (k : Nat) => A.int (i + (k : Int))) yes G2
  | _, _ => False) X) X
section
variable {X : Cx} {T : Tx} {W : L2.WX} {tg e : Expr} {ta tb : EA} {pos : Pos}
theorem PI.imp {X : Cx} {tg e : Expr} {t t' : TI} (p : PI X tg e t) (h : ∀ σ H Q, t' σ H Q → t σ H Q) : PI X tg e t' := ⟨fun pins s σ H R I q => p.run pins s σ H R I (h σ H R q)⟩
theorem iter_list {G1 : GS} {H1 : Hp} {p : Addr} {xs : List A} {chk : Gp → Prop} (h : ∀ H (G : GS), Kp G1 H1 G H → RG T H G → chk G → ∃ vs, H p = some (.lst vs) ∧ RVs T G H xs vs) : IterOk T G1 H1 (Itl X.K p) xs chk where
  go := fun i H G im rg c hi => by
    obtain ⟨vs, sq, rv⟩ := h H G im rg c
    have : i < vs.length := by rw [rv.len]; exact hi
    exact ⟨vs, vs[i], .of sq, by simp [this]⟩
  yld := fun i H G x H' im rg c y hi => by
    obtain ⟨vs, sq, rv⟩ := h H G im rg c
    obtain ⟨rfl, hy⟩ := y
    obtain ⟨a, e, r⟩ := rv.get' (hy vs (.of sq))
    exact ⟨a, e, r, rg, Kp.refl⟩
  stop := fun H G im rg c => by
    obtain ⟨vs, sq, rv⟩ := h H G im rg c
    exact ⟨vs, .of sq, by rw [rv.len]; exact Nat.le_refl _⟩
theorem iter_tup (hT : T.K = X.K) {G1 : GS} {H1 : Hp} {p : Addr} {xs : List A} {vs : List V} (sq : TupAt T G1 H1 p vs) (rv : RVs T G1 H1 xs vs) : IterOk T G1 H1 (Itt X.K p) xs yes where
  go := fun i H G im rg c hi => by
    have : i < vs.length := by rw [rv.len]; exact hi
    exact ⟨vs, vs[i], hT ▸ (sq.mono im).sq, by simp [this]⟩
  yld := fun i H G x H' im rg c y hi => by
    obtain ⟨rfl, hy⟩ := y
    obtain ⟨a, e, r⟩ := (rv.mono im).get' (hy vs (hT ▸ (sq.mono im).sq))
    exact ⟨a, e, r, rg, Kp.refl⟩
  stop := fun H G im rg c => ⟨vs, hT ▸ (sq.mono im).sq, by rw [rv.len]; exact Nat.le_refl _⟩
theorem iter_str {G1 : GS} {H1 : Hp} {z : Str} : IterOk T G1 H1 (Its z) (z.cps.toList.map fun c => .str ⟨#[c]⟩) yes where
  go := fun i H G im rg c hi => by simpa [Its] using hi
  yld := fun i H G x H' im rg c y hi => by
    obtain ⟨rfl, k, hk, rfl⟩ := y
    refine ⟨.str ⟨#[k]⟩, ?_, rv_s _, rg, Kp.refl⟩
    rw [List.getElem?_map]
    have : z.cps.toList[i]? = some k := by simpa using hk
    rw [this]; rfl
  stop := fun H G im rg c => by simp [Its]
theorem iter_rng {G1 : GS} {H1 : Hp} {lo : Int} {n : Nat} : IterOk T G1 H1 (Itr lo n) ((List.range n).map fun (i : Nat) => A.int (lo + (i : Int))) yes where
  go := fun i H G im rg c hi => by simpa [Itr] using hi
  yld := fun i H G x H' im rg c y hi => by
    obtain ⟨rfl, rfl⟩ := y
    refine ⟨.int (lo + i), ?_, rv_i _, rg, Kp.refl⟩
    rw [List.getElem?_map]
    have : i < n := by simpa using hi
    rw [List.getElem?_range this]; rfl
  stop := fun H G im rg c => by simp [Itr]
theorem i_seq (hT : T.K = X.K) (he : PE X e (lE T W ta)) : PI X tg e (lI T W (iSeq ta)) := by
  refine ⟨fun pins s σ H R I h => ?_⟩
  obtain ⟨ς, G, Qa, Xa, rs, rg, h, q, hx⟩ := h
  have hh : lE T W ta σ H (fun v H1 => ∃ x, ∃ G1 : GS, RV T G1 H1 x v ∧ RG T H1 G1 ∧ Kp G H G1 H1 ∧ itOf x G1 Qa) := ⟨ς, G, _, Xa, rs, rg, h, fun x G1 v H1 h1 rv rg1 k1 => ⟨x, G1, rv, rg1, k1, h1⟩, hx⟩
  refine thn (he.run pins s σ H _ I hh) fun u s1 q1 => ?_
  obtain ⟨v, H1, I1, ru, x, G1, rv, rg1, k1, h1⟩ := q1
  have lst : ∀ (p : Addr) (xs : List A) (chk : Gp → Prop), v = .ref p → (∃ vs, H1 p = some (.lst vs)) → Qa xs chk G1 → IterOk T G1 H1 (Itl X.K p) xs chk → wpAny (model X.prog X.w) X.A (pyIter u) (PIE X pins σ tg R) X.xe s1 := by
    intro p xs chk e ⟨vs, sq⟩ h2 ok
    subst e
    cases ru
    obtain ⟨its, _, pl, _⟩ := I1.list (.of sq)
    exact wpAny_pyIter_list pl.isList (pi_one (tk := s1.toks) I1 _ (turn_list p _) ⟨_, Heap.get?_push_size _ rfl, rfl, rfl⟩ (q xs chk G1 _ H1 h2 ok rg1 k1))
  cases x with
  | tup xs =>
    obtain ⟨p, vs, rfl, sq, rvs⟩ := rv_tup rv
    cases ru
    obtain ⟨its, _, pl, _⟩ := I1.tuple (hT ▸ sq.sq)
    exact wpAny_pyIter_tuple (show s1.heap.IsTuple p its.toArray from pl) (pi_one (tk := s1.toks) I1 _ (turn_tuple p _) ⟨_, Heap.get?_push_size _ rfl, rfl, rfl⟩ (q xs yes G1 _ H1 h1 (iter_tup hT sq rvs) rg1 k1))
  | fro xs =>
    simp only [RV] at rv
    obtain ⟨p, vs, rfl, g, sq, rvs⟩ := rv
    exact lst p xs yes rfl ⟨vs, sq⟩ h1 (iter_list fun H G im _ _ => ⟨vs, (im.ks _ _ g sq).2, rvs.mono im⟩)
  | str z =>
    obtain rfl := rv_str rv
    obtain ⟨t, rfl⟩ := ru
    have fin := q _ yes G1 _ H1 h1 iter_str rg1 k1
    cases ha : z.cps.all (· < 128)
    · exact wpAny_pyIter_wide ha (pi_one (tk := s1.toks) I1 _ (turn_str _ z t "str_iterator" (.inr rfl)) ⟨_, Heap.get?_push_size _ rfl, rfl, rfl⟩ fin)
    · exact wpAny_pyIter_ascii ha (pi_one (tk := s1.toks) I1 _ (turn_str _ z t "str_ascii_iterator" (.inl rfl)) ⟨_, Heap.get?_push_size _ rfl, rfl, rfl⟩ fin)
  | ref p =>
    obtain rfl := rv_ref rv
    simp only [itOf] at h1
    split at h1
    · rename_i xs e
      obtain ⟨vs, e1, r1⟩ := rg1 p _ e
      exact lst p xs _ rfl ⟨vs, e1⟩ h1 (iter_list fun H G _ rg c => rg p _ c)
    · exact h1.elim
  | _ => exact False.elim h1
theorem i_rng1 {p : Pos} (hg : Gl X "range") (hm : X.mg "range" = none) (he : PE X e (lE T W ta)) (hs : starEach [e] X.env = [(false, eval e X.env)]) : PI X tg (.Call (.Name "range" p) [e] [] pos) (lI T W (iR1 ta)) := by
  refine PI.imp (pi_range1 hg hm (pa_cons he pa_nil hs) hs) fun σ H R ⟨ς, G, Qa, Xa, rs, rg, h, q, hx⟩ => ⟨ς, G, _, Xa, rs, rg, h, fun x G1 v H1 h1 rv rg1 k1 => ?_, hx⟩
  cases x with
  | int j =>
    obtain rfl := rv_int rv
    refine ⟨j, rfl, h1.1, h1.2.1, q _ yes G1 _ H1 h1.2.2 ?_ rg1 k1⟩
    have := iter_rng (T := T) (G1 := G1) (H1 := H1) (lo := 0) (n := j.toNat)
    simpa using this
  | _ => exact False.elim h1
theorem i_rng2 {p : Pos} {e2 : Expr} (hg : Gl X "range") (hm : X.mg "range" = none) (he : PE X e (lE T W ta)) (he2 : PE X e2 (lE T W tb)) (hs : starEach [e, e2] X.env = [(false, eval e X.env), (false, eval e2 X.env)]) (hs2 : starEach [e2] X.env = [(false, eval e2 X.env)]) :
    PI X tg (.Call (.Name "range" p) [e, e2] [] pos) (lI T W (iR2 ta tb)) := by
  refine PI.imp (pi_range2 hg hm (pa_cons he (pa_cons he2 pa_nil hs2) (by rw [hs, hs2])) hs hs2) fun σ H R ⟨ς, G, Qa, Xa, rs, rg, h, q, hx⟩ => ⟨ς, G, _, Xa, rs, rg, h, fun x G1 v H1 h1 rv rg1 k1 => ?_, hx⟩
  refine ⟨ς, G1, _, Xa, rs.mono k1, rg1, h1, fun y G2 w H2 h2 rw' rg2 k2 => ?_, hx.step k1⟩
  cases x with
  | int i =>
    cases y with
    | int j =>
      obtain rfl := rv_int rv
      obtain rfl := rv_int rw'
      exact ⟨i, j, rfl, ⟨h2.1, h2.2.1, h2.2.2.1, h2.2.2.2.1⟩, q _ yes G2 _ H2 h2.2.2.2.2 iter_rng rg2 (k1.trans k2)⟩
    | _ => exact False.elim h2
  | _ => cases y <;> exact False.elim h2
/-! ### for -/
def forR (g : GA) (tb : SA) (chk : Gp → Prop) : List A → Fl → En → Gp → Prop
  | [], D, ς, G => chk G ∧ D.nx ς G
  | x :: xs, D, ς, G => chk G ∧ g x ς G fun ς2 G2 => tb { D with nx := forR g tb chk xs D, ct := forR g tb chk xs D, bk := D.nx } ς2 G2
def sFor (it : IA) (g : GA) (tb : SA) : SA := fun D ς G => it ς G (fun xs chk G1 => forR g tb chk xs D ς G1) (fun e => D.ex e ς)
theorem drop_some {α : Type} {xs : List α} {i : Nat} {a : α} (h : xs[i]? = some a) : xs.drop i = a :: xs.drop (i + 1) := by
  obtain ⟨hi, e⟩ := List.getElem?_eq_some_iff.mp h
  rw [List.drop_eq_getElem_cons hi, e]
theorem s_for {it : IA} {g : GA} {tbd : SA} {vs : List Nat} {body : List Stmt} {iter : Expr} (hp : PassesOwn (model X.prog X.w) X.A X.env X.xe) (hc : X.calm = true) (hi : PI X tg iter (lI T W it)) (hg : PG X tg (lG T vs g)) (hb : PSs X body (lS T W tbd)) (hs : ∀ x, foldedSetIterable iter X.env x = pure x) :
    PS X (.For tg iter body [] pos) (lS T W (sFor it g tbd)) := by
  refine PS.imp (ps_for hp hc hi hg hb hs) fun D σ H ⟨ς, G, Da, rs, rg, h, q⟩ => ⟨ς, G, _, fun e => Da.ex e ς, rs, rg, h, fun xs chk G1 J H1 h1 ok rg1 k1 => ?_, q.lx rg rs⟩
  refine ⟨fun i m σ' H' => m = xs.length - i ∧ i ≤ xs.length ∧ ∃ ς', ∃ G' : GS, RS T G' H' ς' σ' ∧ RG T H' G' ∧ Kp G H G' H' ∧ Kp G1 H1 G' H' ∧ forR g tbd chk (xs.drop i) Da ς' G', ⟨_, rfl, Nat.zero_le _, ς, G1, rs.mono k1, rg1, k1, Kp.refl, h1⟩, ?_⟩
  rintro i m σ' H' ⟨rfl, hi, ς', G', rs', rg', k', im, f⟩
  by_cases hlt : i < xs.length
  · have hx : xs[i]? = some xs[i] := by simp [hlt]
    rw [drop_some hx] at f
    obtain ⟨hchk, f⟩ := f
    refine .inr ⟨ok.go i H' G' im rg' hchk hlt, fun σ2 H2 => ∃ ς2, ∃ G2 : GS, RS T G2 H2 ς2 σ2 ∧ RG T H2 G2 ∧ Kp G H G2 H2 ∧ Kp G1 H1 G2 H2 ∧ forR g tbd chk (xs.drop (i + 1)) Da ς2 G2, fun σ2 H2 ⟨ς2, G2, a, b, c, d, e⟩ => ⟨xs.length - (i + 1), by omega, rfl, hlt, ς2, G2, a, b, c, d, e⟩, fun x H2 y => ?_⟩
    obtain ⟨a, e, rv, rg2, k2⟩ := ok.yld i H' G' x H2 im rg' hchk y hlt
    have ea : xs[i] = a := by rw [hx] at e; exact Option.some.inj e
    subst ea
    have im2 : Kp G' H' G' H2 := k2
    refine ⟨_, ς', G', _, rv, rs'.mono im2, rg2, f, fun ς3 G3 σ3 H3 h3 rs3 rg3 k3 _ => ?_⟩
    have im3 : Kp G' H2 G3 H3 := k3
    have k03 := (k'.trans k2).trans k3
    refine ⟨ς3, G3, _, rs3, rg3, h3, ⟨fun ς4 G4 σ4 H4 a b c d => ⟨ς4, G4, b, c, k03.trans d, ((im.trans im2).trans im3).trans d, a⟩, (q.step k03).rt, fun ς4 G4 σ4 H4 a b c d => q.nx _ _ _ _ a b c (k03.trans d), fun ς4 G4 σ4 H4 a b c d => ⟨ς4, G4, b, c, k03.trans d, ((im.trans im2).trans im3).trans d, a⟩, (q.step k03).ex⟩⟩
  · have e : i = xs.length := by omega
    subst e
    rw [List.drop_length] at f
    exact .inl ⟨ok.stop H' G' im rg' f.1, q.nx _ _ _ _ f.2 rs' rg' k'⟩
end
end Q
/-! Q10: list comprehensions. -/
namespace Q
open PySem PySem.Spec PyProof.Rows L2
def wipeA (ς : En) : List Nat → En
  | [] => ς
  | v :: vs => (wipeA ς vs).set v none
theorem RS.unset {T : Tx} {G : GS} {H : Hp} {ς : En} {σ : L2.St} (h : RS T G H ς σ) (i : Nat) : RS T G H (ς.set i none) (σ.set i none) := by
  refine ⟨by simpa using h.1, fun j b e => ?_⟩
  by_cases hj : i = j
  · subst hj
    by_cases hl : i < ς.length
    · rw [List.getElem?_set_self hl] at e; cases e
    · rw [List.getElem?_eq_none (by simpa using hl)] at e; cases e
  · rw [List.getElem?_set_ne hj] at e
    obtain ⟨w, e1, r1⟩ := h.2 j b e
    exact ⟨w, by rw [List.getElem?_set_ne hj]; exact e1, r1⟩
theorem RS.wipe {T : Tx} {G : GS} {H : Hp} {ς : En} {σ : L2.St} (h : RS T G H ς σ) : ∀ vs : List Nat, RS T G H (wipeA ς vs) (L2.wipe σ vs)
  | [] => h
  | v :: vs => (RS.wipe h vs).unset v
theorem wipe_wipe {σ : L2.St} {vs : List Nat} : wipe (wipe σ vs) vs = wipe σ vs := by
  have key : ∀ (ws : List Nat) (τ : L2.St), (∀ i ∈ ws, τ[i]? = some none ∨ τ[i]? = none) → wipe τ ws = τ := by
    intro ws
    induction ws with
    | nil => intro τ _; rfl
    | cons w ws ih =>
      intro τ h
      unfold L2.wipe
      rw [ih τ fun i hi => h i (by simp [hi])]
      apply List.ext_getElem?
      intro j
      by_cases hj : w = j
      · subst hj
        rcases h w (by simp) with z | z
        · have : w < τ.length := (List.getElem?_eq_some_iff.mp z).1
          rw [List.getElem?_set_self this, z]
        · rw [z, List.getElem?_eq_none (by simpa using List.getElem?_eq_none_iff.mp z)]
      · rw [List.getElem?_set_ne hj]
  refine key vs _ fun i hi => ?_
  cases e : (wipe σ vs)[i]? with
  | none => exact .inr rfl
  | some y =>
    cases y with
    | none => exact .inl rfl
    | some x => exact absurd hi (wipe_some e).2
/-- a list that is being made, hidden from the abstract heap -/
structure Hid (G1 : GS) (H1 : Hp) (G : GS) (H : Hp) (D : Addr) (vs : List V) : Prop where
  g : G D = none
  s : ¬ G.S D
  h : H D = some (.lst vs)
  k : Kp G1 H1 G H
theorem Hid.go {G1 G G' : GS} {H1 H H' : Hp} {D : Addr} {vs : List V} (x : Hid G1 H1 G H D vs) (k : Kp G H G' H') : Hid G1 H1 G' H' D vs := by
  obtain ⟨a, b⟩ := k.kp D _ x.g x.h
  refine ⟨a, fun z => ?_, b, x.k.trans k⟩
  rcases k.nw D z with z | z | z | ⟨u, i, z⟩
  · exact x.s z
  · exact z x.g
  · rw [x.h] at z; cases z
  · rw [x.h] at z; cases z; exact i
theorem Hid.ks {G1 G : GS} {H1 H : Hp} {D : Addr} {vs : List V} {o : HO} (x : Hid G1 H1 G H D vs) : Ks G H G (upd H D o) := fun b u f h => by
  have : b ≠ D := fun z => by subst z; exact x.s f.1
  exact ⟨f, (upd_ne this).trans h⟩
theorem Hid.put {G1 G : GS} {H1 H : Hp} {D : Addr} {vs ws : List V} (x : Hid G1 H1 G H D vs) (h1 : H1 D = none) : Hid G1 H1 G (upd H D (.lst ws)) D ws := by
  refine ⟨x.g, x.s, upd_same, ⟨fun b u a c => ?_, x.k.sm, x.k.nw⟩⟩
  have : b ≠ D := fun z => by subst z; rw [h1] at c; cases c
  obtain ⟨z1, z2⟩ := x.k.kp b u a c
  exact ⟨z1, (upd_ne this).trans z2⟩
theorem Hid.rg {T : Tx} {G1 G : GS} {H1 H : Hp} {D : Addr} {vs : List V} {o : HO} (x : Hid G1 H1 G H D vs) (r : RG T H G) : RG T (upd H D o) G := by
  refine ⟨fun b u q => ?_, fun b h => upd_there (r.st b h)⟩
  have hb : b ≠ D := fun z => by subst z; have := x.g; rw [show G b = some u from q] at this; cases this
  exact (r b u q).mono x.ks (upd_ne hb)
theorem Hid.new {T : Tx} {G1 : GS} {H1 : Hp} {D : Addr} (r : RG T H1 G1) (h : H1 D = none) : Hid G1 H1 G1 (upd H1 D (.lst [])) D [] := by
  refine ⟨r.free h, fun z => r.st D z h, upd_same, ⟨fun b u a c => ?_, fun _ z => z, fun _ z => .inl z⟩⟩
  have : b ≠ D := fun z => by subst z; rw [h] at c; cases c
  exact ⟨a, (upd_ne this).trans c⟩
theorem Hid.rg0 {T : Tx} {G1 : GS} {H1 : Hp} {D : Addr} {o : HO} (r : RG T H1 G1) (h : H1 D = none) : RG T (upd H1 D o) G1 := by
  have ks : Ks G1 H1 G1 (upd H1 D o) := fun b u f e => by
    have : b ≠ D := fun z => by subst z; rw [h] at e; cases e
    exact ⟨f, (upd_ne this).trans e⟩
  refine ⟨fun b u q => ?_, fun b h => upd_there (r.st b h)⟩
  have hb : b ≠ D := fun z => by subst z; exact (r _ u q).there h
  exact (r b u q).mono ks (upd_ne hb)
/-- the turns of a comprehension -/
def lcR (g : GA) (tt : BA) (te : EA) (vs : List Nat) (chk : Gp → Prop) (Qf : List A → Gp → Prop) : List A → List A → En → Gp → Prop
  | [], acc, _, G => chk G ∧ Qf acc G
  | x :: xs, acc, ς, G => chk G ∧ g x (wipeA ς vs) G fun ς2 G2 => tt ς2 G2 (fun b G3 => if b = true then te ς2 G3 (fun y G4 => acc.length < sizeLine ∧ lcR g tt te vs chk Qf xs (acc ++ [y]) ς G4) (fun _ _ => False)
      else lcR g tt te vs chk Qf xs acc ς G3) (fun _ _ => False)
def eLc (m : Bool) (it : IA) (g : GA) (tt : BA) (te : EA) (vs : List Nat) : EA := fun ς G Q X => it ς G (fun xs chk G1 => lcR g tt te vs chk (fun acc G2 => new m (.lst acc) G2 Q) xs [] ς G1) X
def bYes : BA := fun _ G Q _ => Q true G
theorem PTs.imp {X : Cx} {e : List Expr} {t t' : TT} (p : PTs X e t) (h : ∀ σ H Q, t' σ H Q → t σ H Q) : PTs X e t' := ⟨fun pins s σ H Q I q => p.run pins s σ H Q I (h σ H Q q)⟩
theorem ts_nil {X : Cx} {T : Tx} {W : L2.WX} : PTs X [] (lB T W bYes) := PTs.imp pts_nil fun σ H Q ⟨ς, G, Qa, Xa, rs, rg, h, q, hx⟩ => q _ _ _ h rg Kp.refl
theorem ts_one {X : Cx} {T : Tx} {W : L2.WX} {c : Expr} {tt : BA} (h : PT X c (lB T W tt)) : PTs X [c] (lB T W tt) := pts_one h
/-- nothing is raised -/
abbrev W0 : L2.WX := fun _ _ _ _ => False
theorem lX_no {T : Tx} {G : GS} {H : Hp} {W : XK} : LX T G H (fun _ _ => False) W := fun _ _ _ _ _ h => h.elim
theorem lc_lift {mu : Bool} {T : Tx} {W : L2.WX} {it : IA} {g : GA} {tt : BA} {te : EA} {vs : List Nat} {σ : L2.St} {H : Hp} {Q : VK} (h : lE T W (eLc mu it g tt te vs) σ H Q) :
    tLc (lI T W it) (lG T vs g) (lB T W0 tt) (lE T W0 te) vs σ H Q := by
  obtain ⟨ς, G, Qa, Xa, rs, rg, h, q, hx⟩ := h
  refine ⟨ς, G, _, Xa, rs, rg, h, fun xs chk G1 J H1 h1 ok rg1 k1 => ?_, hx⟩
  intro D hD
  have hid := Hid.new rg1 hD
  refine ⟨fun i m H' => m = xs.length - i ∧ i ≤ xs.length ∧ ∃ acc accV, ∃ G' : GS, RG T H' G' ∧ Hid G1 H1 G' H' D accV ∧ RVs T G' H' acc accV ∧
      lcR g tt te vs chk (fun acc G2 => new mu (.lst acc) G2 Qa) (xs.drop i) acc ς G', ⟨_, rfl, Nat.zero_le _, [], [], G1, Hid.rg0 rg1 hD, hid, .nil, h1⟩, ?_⟩
  rintro i m H' ⟨rfl, hi, acc, accV, G', rg', hd, rva, f⟩
  by_cases hlt : i < xs.length
  · have hx' : xs[i]? = some xs[i] := by simp [hlt]
    rw [drop_some hx'] at f
    obtain ⟨hchk, f⟩ := f
    refine .inr ⟨ok.go i H' G' hd.k rg' hchk hlt, fun H'' => ∃ acc accV, ∃ G'' : GS, RG T H'' G'' ∧ Hid G1 H1 G'' H'' D accV ∧ RVs T G'' H'' acc accV ∧
      lcR g tt te vs chk (fun acc G2 => new mu (.lst acc) G2 Qa) (xs.drop (i + 1)) acc ς G'', fun H'' z => ⟨_, by omega, rfl, hlt, z⟩, fun x H2 y => ?_⟩
    obtain ⟨a, e, rv, rg2, k2⟩ := ok.yld i H' G' x H2 hd.k rg' hchk y hlt
    have ea : xs[i] = a := by rw [hx'] at e; exact Option.some.inj e
    subst ea
    have rs2 : RS T G' H2 ς σ := ((rs.mono k1).mono hd.k).mono k2
    refine ⟨_, wipeA ς vs, G', _, rv, rs2.wipe vs, rg2, f, fun ς3 G3 σ3 H3 h3 rs3 rg3 k3 hw => ⟨hw.trans wipe_wipe, ς3, G3, _, _, rs3, rg3, h3, fun b G4 H4 h4 rg4 k4 => ?_, lX_no⟩⟩
    have k24 := (k2.trans k3).trans k4
    have hd4 := hd.go k24
    cases b with
    | false =>
      rw [if_neg Bool.false_ne_true] at h4
      refine L2.iteF ?_
      exact ⟨acc, accV, G4, rg4, hd4, rva.mono k24, h4⟩
    | true =>
      rw [if_pos rfl] at h4
      refine L2.iteT ?_
      refine ⟨ς3, G4, _, _, rs3.mono k4, rg4, h4, fun y G5 v H5 h5 rv5 rg5 k5 => ?_, lX_no⟩
      have hd5 := hd4.go k5
      refine ⟨accV, hd5.h, by rw [rva.len]; exact h5.1, acc ++ [y], accV ++ [v], G5, hd5.rg rg5, hd5.put hD, (RVs.mono' hd5.ks ((rva.mono k24).mono k5)).app (.one (RV.mono' hd5.ks rv5)), h5.2⟩
  · have e : i = xs.length := by omega
    subst e
    rw [List.drop_length] at f
    refine .inl ⟨ok.stop H' G' hd.k rg' f.1, ?_⟩
    have rst : ∀ b u, G1 b = none → H1 b = some u → b ≠ D := fun b u _ c z => by subst z; rw [hD] at c; cases c
    obtain ⟨_, f⟩ := f
    cases mu with
    | true =>
      refine q _ (G'.up D (.lst acc)) _ _ (f D hd.g) (rv_r D) ⟨fun b u z => ?_, rg'.st⟩ (k1.trans ⟨fun b u x y => ?_, hd.k.sm, hd.k.nw⟩)
      · have ks : Ks G' H' (G'.up D (.lst acc)) H' := fun b u f h => by
          have : b ≠ D := fun z => by subst z; exact hd.s f.1
          exact ⟨⟨f.1, (up_ne this).trans f.2⟩, h⟩
        have z : up G'.G D (.lst acc) b = some u := z
        by_cases hb : b = D
        · subst hb; rw [up_same] at z; cases z; exact ⟨accV, hd.h, RVs.mono' ks rva⟩
        · rw [up_ne hb] at z; exact (rg' b u z).mono ks rfl
      · obtain ⟨z1, z2⟩ := hd.k.kp b u x y
        exact ⟨(up_ne (rst b u x y)).trans z1, z2⟩
    | false =>
      have ks : Ks G' H' (G'.fx D) H' := fun b u f h => ⟨⟨.inr f.1, f.2⟩, h⟩
      refine q _ (G'.fx D) _ _ f (rv_frz ⟨.inl rfl, hd.g⟩ (o := .lst acc) ⟨accV, hd.h, RVs.mono' ks rva⟩) ⟨fun b u z => (rg' b u z).mono ks rfl, fun b z => ?_⟩ (k1.trans ⟨hd.k.kp, fun b z => .inr (hd.k.sm b z), fun b z => ?_⟩)
      · rcases z with rfl | z
        · rw [hd.h]; simp
        · exact rg'.st b z
      · rcases z with rfl | z
        · exact .inr (.inr (.inl hD))
        · exact hd.k.nw b z
section
variable {X : Cx} {T : Tx} {W : L2.WX} {elt tg iter : Expr} {ifs : List Expr} {scope : Scope} {own : List (Str × Nat)} {pos spos : Pos} {it : IA} {g : GA} {tt : BA} {te : EA}
theorem p_lc {m : Bool} (hc : X.calm = true) (hN : X.N.Nodup) (hi : PI X tg iter (lI T W it)) (ok : BlkOk X.N X.env.scope scope own)
    (hg : ∀ s H C cl fp, PG (X.blk s H scope (compEnvC scope cl C X.env) fp) tg (lG T (own.map (·.2)) g)) (ht : ∀ s H C cl fp, PTs (X.blk s H scope (compEnvC scope cl C X.env) fp) ifs (lB T W0 tt))
    (he : ∀ s H C cl fp, PE (X.blk s H scope (compEnvC scope cl C X.env) fp) elt (lE T W0 te)) (hs : ∀ x, foldedSetIterable iter X.env x = pure x) :
    PE X (.ListComp elt [⟨tg, iter, ifs, 0⟩] scope pos) (lE T W (eLc m it g tt te (own.map (·.2)))) :=
  PE.imp (pe_lc hc hN hi ok hg ht he hs) fun σ H Q h => lc_lift h
theorem s_setLc {m : Bool} {i : Nat} {y : Str} {py : Pos} (hc : X.calm = true) (hN : X.N.Nodup) (hy : X.N[i]? = some y) (hyl : X.env.scope.names.lookup y = some .local)
    (hsw : swapsWith (.ListComp elt [⟨tg, iter, ifs, 0⟩] scope pos) (some (.Name y py)) spos.line X.env = pure true) (hi : PI X tg iter (lI T W it)) (ok : BlkOk X.N X.env.scope scope own)
    (hg : ∀ s H C cl fp, PG (X.blk s H scope (compEnvC scope cl C X.env) fp) tg (lG T (own.map (·.2)) g)) (ht : ∀ s H C cl fp, PTs (X.blk s H scope (compEnvC scope cl C X.env) fp) ifs (lB T W0 tt))
    (he : ∀ s H C cl fp, PE (X.blk s H scope (compEnvC scope cl C X.env) fp) elt (lE T W0 te)) (hs : ∀ x, foldedSetIterable iter X.env x = pure x) :
    PS X (.Assign [.Name y py] (.ListComp elt [⟨tg, iter, ifs, 0⟩] scope pos) spos) (lS T W (sSet (eLc m it g tt te (own.map (·.2))) (gNm i))) := by
  refine PS.imp (ps_setLc hc hN hy hyl hsw hi ok hg ht he hs) fun D σ H ⟨ς, G, Da, rs, rg, h, q⟩ => ?_
  refine lc_lift (Q := fun x H1 => gName i x σ H1 D.nx) ⟨ς, G, _, fun e => Da.ex e ς, rs, rg, h, fun x G1 v H1 h1 rv rg1 k1 => ?_, q.lx rg rs⟩
  exact q.nx _ _ _ _ h1 ((rs.mono k1).set i rv) rg1 k1
end
end Q
/-! Q11: defs of the text: what a call promises, a def by its body, the law's call. -/
namespace Q
open PySem PySem.Spec PyProof.Rows L2
/-- as FnOk, where nothing is being printed -/
structure FnG (P : Program) (w : World) (K : PySem.W.Frag) (mg : Str → Option Value) (base : Heap) (CX : CXT) (k : Nat) (f : Addr) (fd : FuncData) (ps : List Str) (sp : Sp) : Prop where
  len : ∀ vs H Q E, sp vs H Q E → vs.length = ps.length
  run : ∀ (A : Around), Room k A → A.guards = some [] → ∀ (fr : List Env) (s : Shared) (H : Hp) (as : Args) (us : List Value) (vs : List V) (Q : VK) (E : XK), Env0 P w K mg base A fr s H → BindsTo s fd as (ps.zip us) → Vals vs us →
    sp vs H Q E → codeAny (model P w) A (.call (.ref f) as) (CR CX fr P w H s Q E) s
structure FD where
  ps : Nat
  slots : Nat
  body : Cal → SA
/-- a call, to a depth: the name is the def's -/
abbrev FTab := Str → Option FD
def runF (FT : FTab) : Nat → String → List A → Gp → KA → KX → Prop
  | 0, _, _, _, _, _ => False
  | n + 1, f, as, G, Q, Xa => ∃ d, FT (Str.ofString f) = some d ∧ as.length = d.ps ∧ d.body (runF FT n) { nx := fun _ G' => Q .non G', rt := Q, ex := fun e _ G' => Xa e G' } (as.map some ++ List.replicate (d.slots - d.ps) none) G
/-- the promise of the def f -/
def spA (T : Tx) (FT : FTab) (n : Nat) (f : String) : Sp := fun vs H Q E => ∃ as, ∃ G : GS, ∃ Qa Xa, RVs T G H as vs ∧ RG T H G ∧ runF FT n f as G Qa Xa ∧ LQ T G H Qa Q ∧ LX T G H Xa E
section
variable {X : Cx} {T : Tx} {W : L2.WX} {FT : FTab} {k n : Nat} {f : Addr} {fd : FuncData} {ps : List Str} {x : Str} {p pos : Pos} {e : Expr} {es : List Expr} {t : LA} {F : String}
theorem goG {pins : List (Addr × Obj)} {σ : L2.St} {H : Hp} {s : Shared} {Q : VK} {us : List Value} {vs : List V} {sp : Sp} (FN : FnG X.prog X.w X.K X.mg X.base (L2.CX X.prog X.w) k f fd ps sp) (hr : Room k X.A) (hg : X.A.guards = some []) (hb : Binds X.K fd ps []) (tk : Takes X W)
    (I : Inv X pins σ H s) (r : Vals vs us) (h : sp vs H Q (WE W σ)) : wpAny (model X.prog X.w) X.A (call (.ref f) us) (EP X pins σ Q) X.xe s := by
  have hl : us.length = ps.length := by rw [← r.length]; exact FN.len _ _ _ _ h
  have bd : BindsTo s fd ⟨us, []⟩ (ps.zip us) := by
    have z := hb s us I.kIn (by simpa using hl)
    rwa [List.append_nil] at z
  refine wpAny_call (codeAny_mono (FN.run X.A hr hg X.stack s H ⟨us, []⟩ us vs Q (WE W σ) I.env0 bd r h) fun res s' hq => ?_)
  match res, hq with
  | .error er, hq => exact passAt tk σ pins H s er s' I hq
  | .ok (.ret u), hq => exact I.after hq
theorem p_call (FN : FnG X.prog X.w X.K X.mg X.base (L2.CX X.prog X.w) k f fd ps (spA T FT n F)) (hr : Room k X.A) (hgd : X.A.guards = some []) (hg : Gl X x) (hm : X.mg x = some (.ref f)) (hk : PySem.W.keepIn X.K (.ref f) = true) (hb : Binds X.K fd ps []) (tk : Takes X W)
    (ha : PA X (e :: es) (lL T W t)) (hdb : (x == ("__debug__" : Str)) = false) (he : starEach (e :: es) X.env = (false, eval e X.env) :: starEach es X.env) (hpl : (backTo pos (starEach es X.env)).any (·.1) = false) :
    PE X (.Call (.Name x p) (e :: es) [] pos) (lE T W (eCall (runF FT n) F t)) := by
  refine ⟨fun pins s σ H Q I h => wpAny_Call_Name_kw (ld_glob I hg hm ?_ hdb)⟩
  obtain ⟨ς, G, Qa, Xa, rs, rg, h, q, hxa⟩ := h
  have hh : lL T W t σ H (fun vs H1 => spA T FT n F vs H1 Q (WE W σ)) := ⟨ς, G, _, Xa, rs, rg, h, fun as G1 vs H1 h1 rv rg1 k1 => ⟨as, G1, Qa, Xa, rv, rg1, h1, q.step k1, hxa.step k1⟩, hxa⟩
  refine PySem.W.callWith_K (h₀ := X.base) I.ok.mod.kin hk (thn (ha.run pos pins s σ H _ I hh) fun us s1 ⟨vs, H1, I1, r, q1⟩ => ⟨I1.kIn, goG FN hr hgd hb tk I1 r q1⟩) he hpl
theorem p_call0 (FN : FnG X.prog X.w X.K X.mg X.base (L2.CX X.prog X.w) k f fd ps (spA T FT n F)) (hr : Room k X.A) (hgd : X.A.guards = some []) (hg : Gl X x) (hm : X.mg x = some (.ref f)) (hk : PySem.W.keepIn X.K (.ref f) = true) (hb : Binds X.K fd ps []) (tk : Takes X W)
    (hdb : (x == ("__debug__" : Str)) = false) : PE X (.Call (.Name x p) [] [] pos) (lE T W (eCall (runF FT n) F lNil)) := by
  refine ⟨fun pins s σ H Q I h => wpAny_Call_Name_kw (ld_glob I hg hm ?_ hdb)⟩
  obtain ⟨ς, G, Qa, Xa, rs, rg, h, q, hxa⟩ := h
  exact PySem.W.callWith_K0 I.kIn hk (goG (us := []) (vs := []) FN hr hgd hb tk I .nil ⟨[], G, Qa, Xa, by simp only [RVs], rg, h, q, hxa⟩)
end
/-! ### a def by its body -/
theorem rs_start {T : Tx} {G : GS} {H : Hp} {as : List A} {vs : List V} (r : RVs T G H as vs) (n : Nat) : RS T G H (as.map some ++ List.replicate n none) (vs.map some ++ List.replicate n none) := by
  refine ⟨by simp [r.len], fun i a e => ?_⟩
  by_cases hi : i < as.length
  · rw [List.getElem?_append_left (by simpa using hi), List.getElem?_map] at e
    cases h : as[i]? with
    | none => rw [h] at e; cases e
    | some b =>
      rw [h] at e; cases e
      obtain ⟨v, e1, r1⟩ := r.get h
      exact ⟨v, by rw [List.getElem?_append_left (by simp [r.len, hi]), List.getElem?_map, e1]; rfl, r1⟩
  · rw [List.getElem?_append_right (by simpa using hi), List.getElem?_replicate] at e
    split at e <;> cases e
/-- a def as it stands in the written part, its defaults whatever they are -/
structure FunA (K : PySem.W.Frag) (x qual : Str) (st : Stmt) (f : Addr) (fd : FuncData) : Prop where
  ex : ∃ (oc : Value) (od : Option Addr) (dV kV doc pm : Value) (an : Option Addr) (cdv ct : Value) (osl : Array (Option Value)),
    fd = PySem.W.fnOf x qual (defArgs st) (defBody st) (defScope st) dV kV doc pm an cdv ct ∧ K.lookup f = some ⟨oc, od, .func fd, osl⟩ ∧ PySem.W.codeIn K cdv qual = true
  kp : PySem.W.keepIn K (.ref f) = true
theorem fnG_of {P : Program} {w : World} {K : PySem.W.Frag} {mg : Str → Option Value} {base : Heap} {T : Tx} {FT : FTab} {n r : Nat} {x qual : Str} {st : Stmt} {f : Addr} {fd : FuncData} {N ps : List Str} {F : String} {d : FD} (hF : FunA K x qual st f fd) (S : FnScope N ps (defScope st))
    (hd : FT (Str.ofString F) = some d) (h1 : d.ps = ps.length) (h2 : d.slots = N.length)
    (hb : ∀ (cdv : Value) (A : Around) (fr : List Env) (s : Shared) (H : Hp) (E : XK), Room r (A.deeper (envOfC qual (defScope st) s.heap.objs.size f cdv)) → A.guards = some [] →
      PSs (cxOf (L2.CX P w) P w K mg base N qual (defScope st) f cdv A fr s H E) (defBody st) (lS T (fun c x _ H => E c x H) (d.body (runF FT n)))) : FnG P w K mg base (L2.CX P w) (r + 1) f fd ps (spA T FT (n + 1) F) := by
  have hlen : ∀ vs H Q E, spA T FT (n + 1) F vs H Q E → vs.length = ps.length := fun vs H Q E h => by
    obtain ⟨as, G, Qa, Xa, rv, rg, ⟨d', e, l, _⟩, _⟩ := h
    rw [hd] at e; cases e; rw [rv.len, l, h1]
  refine ⟨hlen, fun A hr hg fr s H args us vs Q E e0 bnd r hsp => ?_⟩
  have hl := hlen _ _ _ _ hsp
  obtain ⟨oc, od, dV, kV, doc, pm, an, cdv, ct, osl, rfl, lk, hcd⟩ := hF.ex
  have KX : K.In s.heap := e0.mod.kin.keeps fun b o q => (e0.bs b o q).1
  refine codeAny_call_function hr.depth (KX _ _ lk) rfl S.co S.gen rfl (PySem.W.codeRec_of KX hcd) (bnd _ _ _ _ ?_)
  refine wpAny_newFunctionEnv_cells S.kind ?hk fun env he s1 y => ?_
  case hk =>
    intro z hz
    rcases S.par z.1 (List.of_mem_zip (show (z.1, z.2) ∈ ps.zip us from hz)).1 with q | q
    · exact .inl q
    · exact .inr ⟨q, PySem.W.cellsFrom_some _ _ _ (.inl q)⟩
  subst he
  refine ⟨(e0.mod.nolimit.keeps fun b o q => (e0.bs b o q).1).keeps y.toInCall.keep, codeAny_func ?_⟩
  have I := inv_start (CX := L2.CX P w) (E := E) S hr.hd e0 hl r y
  have body := hb cdv A fr s H E (hr.deeper _) hg
  obtain ⟨as, G, Qa, Xa, rv, rg, ⟨d', e, l, run⟩, q, hx⟩ := hsp
  rw [hd] at e; cases e
  have red : lS T (fun c x _ H => E c x H) (d.body (runF FT n)) { nx := fun _ H' => Q .non H', rt := Q } (L2.start N vs) H := by
    refine ⟨_, G, _, ?_, rg, run, ⟨fun ς G' σ H' z _ rg' k' => q _ _ _ _ z rv_n rg' k', q, fun _ _ _ _ z => z.elim, fun _ _ _ _ z => z.elim, fun e ς G' σ c d H' z rx _ rg' k' => hx e G' c d H' z rx rg' k'⟩⟩
    have z := rs_start rv (d.slots - d.ps)
    unfold L2.start
    have e1 : N.length - vs.length = d.slots - d.ps := by rw [rv.len, l, h2]
    rw [e1]
    exact z
  refine wpAny_mono (body.run [] s1 (L2.start N vs) H _ I red) (fun fl s' hs => ?_) fun e s' hs => hs
  match fl, hs with
  | .ret u, ⟨v, σ', H', J, rv', q'⟩ => exact ⟨v, H', J.os, J.bare, J.base, J.hok, rv', q'⟩
  | .next, ⟨σ', H', J, q'⟩ => exact ⟨V.non, H', J.os, J.bare, J.base, J.hok, rfl, q'⟩
  | .brk, ⟨_, _, _, q'⟩ => exact False.elim q'
  | .cont, ⟨_, _, _, q'⟩ => exact False.elim q'
end Q
/-! Q12: stores by place, tuple targets. -/
namespace Q
open PySem PySem.Spec PyProof.Rows L2
section
variable {X : Cx} {T : Tx} {W : L2.WX} {o i e : Expr} {to ti te : EA} {pos tpos : Pos}
/-- o[i] = v of a list -/
def gSub (to ti : EA) : GA := fun v ς G Q => to ς G (fun x G1 => ti ς G1 (fun y G2 => ∃ p xs k j, x = .ref p ∧ y = .int k ∧ G2 p = some (.lst xs) ∧ ixN xs.length k = some j ∧ Q ς (up G2 p (.lst (xs.set j v)))) (fun _ _ => False)) (fun _ _ => False)
theorem g_sub {vs : List Nat} (ho : PE X o (lE T W to)) (hi : PE X i (lE T W ti)) (ha : ∀ v, assign (.Subscript o i tpos) X.env v = (do
      let ov ← holding [v] (eval o X.env)
      let iv ← holding [v, ov] (eval i X.env)
      standAt tpos
      holding [v, ov, iv] (setItem ov iv v)
      release [v, ov, iv] [])) : PG X (.Subscript o i tpos) (lG T vs (gSub to ti)) := by
  refine PG.imp (pg_sub ho hi set_list ha) fun v σ H Q ⟨a, ς, G, Qa, rv, rs, rg, h, q⟩ => ⟨ς, G, _, _, rs, rg, h, fun x G1 v1 H1 h1 r1 rg1 k1 => ?_, lX_no⟩
  refine ⟨ς, G1, _, _, rs.mono k1, rg1, h1, fun y G2 v2 H2 h2 r2 rg2 k2 => ?_, lX_no⟩
  obtain ⟨p, xs, k, j, rfl, rfl, e1, e2, h2⟩ := h2
  have k12 := k1.trans k2
  obtain ⟨ws, hw, rw'⟩ := rg2 p _ e1
  have r0 : RV T G2 H2 a v := rv.mono k12
  have kw : Kp G2 H2 (G2.up p (.lst (xs.set j a))) (upd H2 p (.lst (ws.set j v))) := Kp.wr (by rw [e1]; simp)
  refine ⟨p, ws, k, j, rv_ref (r1.mono k2), rv_int r2, hw, by rw [rw'.len]; exact e2, q _ (G2.up p (.lst (xs.set j a))) _ _ h2 ((rs.mono k12).mono kw) (rg2.up kw ⟨_, upd_same, (rw'.set j r0).mono kw⟩) (k12.trans kw) rfl⟩
def rGetL (K : PySem.W.Frag) : V → V → Hp → VK → Prop := fun x y H Q => ∃ p xs i v, x = .ref p ∧ y = .int i ∧ SqL K H p xs ∧ 0 ≤ i ∧ xs[i.toNat]? = some v ∧ Q v H
theorem get_list : PGet X (rGetL X.K) := by
  intro pins s σ H x y v u Q I rx ry h
  obtain ⟨p, xs, i, z, rfl, rfl, hq, h0, he, q⟩ := h
  cases rx
  obtain ⟨t, rfl⟩ := ry
  obtain ⟨its, r, pl, hz⟩ := I.list hq
  obtain ⟨w, ew, rw'⟩ := r.get he
  have hn := L2.line63
  have hl : i.toNat < xs.length := (List.getElem?_eq_some_iff.mp he).1
  exact wpAny_getItem_list pl.isList h0 (by omega) (by simpa using ew) ⟨z, H, I, rw', q⟩
/-- xs[i] += e, ints -/
def sAug (to ti te : EA) : SA := fun D ς G => to ς G (fun x G1 => ti ς G1 (fun y G2 => ∃ p xs k m, x = .ref p ∧ y = .int k ∧ G2 p = some (.lst xs) ∧ 0 ≤ k ∧ xs[k.toNat]? = some (.int m) ∧ te ς G2 (fun z G3 => ∃ n ys, z = .int n ∧ G3 p = some (.lst ys) ∧ k.toNat < ys.length ∧
  D.nx ς (up G3 p (.lst (ys.set k.toNat (.int (m + n)))))) (fun e => D.ex e ς)) (fun e => D.ex e ς)) (fun e => D.ex e ς)
theorem s_aug (hT : T.K = X.K) (ho : PE X o (lE T W to)) (hi : PE X i (lE T W ti)) (he : PE X e (lE T W te)) (ha : ∀ ov iv new, augStore i ov iv new = (do holding [new, ov, iv] (setItem ov iv new); release [new, ov, iv] []; pure .next)) :
    PS X (.AugAssign (.Subscript o i tpos) .Add e pos) (lS T W (sAug to ti te)) := by
  refine PS.imp (ps_augS ho hi get_list he ip_add set_list ha) fun D σ H ⟨ς, G, Da, rs, rg, h, q⟩ => ⟨ς, G, _, fun e => Da.ex e ς, rs, rg, h, fun x G1 v1 H1 h1 r1 rg1 k1 => ?_, q.lx rg rs⟩
  refine ⟨ς, G1, _, fun e => Da.ex e ς, rs.mono k1, rg1, h1, fun y G2 v2 H2 h2 r2 rg2 k2 => ?_, (q.lx rg rs).step k1⟩
  obtain ⟨p, xs, k, m, rfl, rfl, e1, h0, e2, h2⟩ := h2
  have k12 := k1.trans k2
  obtain ⟨ws, hw, rw'⟩ := rg2 p _ e1
  obtain ⟨w, e3, r3⟩ := rw'.get e2
  obtain rfl := rv_int r3
  obtain rfl := rv_ref (r1.mono k2)
  obtain rfl := rv_int r2
  refine ⟨p, ws, k, .int m, rfl, rfl, hT ▸ .of hw, h0, e3, ς, G2, _, fun e => Da.ex e ς, rs.mono k12, rg2, h2, fun z G3 v3 H3 h3 r4 rg3 k3 => ?_, (q.lx rg rs).step k12⟩
  obtain ⟨n, ys, rfl, e4, hl, h3⟩ := h3
  obtain rfl := rv_int r4
  have k13 := k12.trans k3
  obtain ⟨us, hu, ru⟩ := rg3 p _ e4
  have kw : Kp G3 H3 (G3.up p (.lst (ys.set k.toNat (.int (m + n))))) (upd H3 p (.lst (us.set k.toNat (.int (m + n))))) := Kp.wr (by rw [e4]; simp)
  have hix : ixN us.length k = some k.toNat := by
    unfold ixN
    rw [if_pos h0, if_pos (by rw [ru.len]; omega)]
  refine ⟨m, n, rfl, rfl, p, us, k, k.toNat, rfl, rfl, hu, hix, q.nx _ (G3.up p (.lst (ys.set k.toNat (.int (m + n))))) _ _ h3 ((rs.mono k13).mono kw) (rg3.up kw ⟨_, upd_same, (ru.set k.toNat (rv_i _)).mono kw⟩) (k13.trans kw)⟩
/-! targets that are tuples of names -/
def gTs : List Nat → List A → En → En
  | [], _, ς => ς
  | i :: is, x :: xs, ς => gTs is xs (ς.set i (some x))
  | _, [], ς => ς
structure PGn (X : Cx) (T : Tx) (vs : List Nat) (es : List Expr) (is : List Nat) : Prop where
  run : PGs X es fun ws σ H Q => ∃ (as : List A) (ς : En) (G : GS) (Qa : En → Gp → Prop), RVs T G H as ws ∧ RS T G H ς σ ∧ RG T H G ∧ as.length = is.length ∧ Qa (gTs is as ς) G ∧ ∀ ς' (G' : GS) σ' H', Qa ς' G' → RS T G' H' ς' σ' → RG T H' G' → Kp G H G' H' → wipe σ' vs = wipe σ vs → Q σ' H'
theorem PGs.imp {X : Cx} {e : List Expr} {t t' : TGs} (p : PGs X e t) (h : ∀ v σ H Q, t' v σ H Q → t v σ H Q) : PGs X e t' := ⟨fun pins s σ H v u Q I r q => p.run pins s σ H v u Q I r (h v σ H Q q)⟩
theorem gn_nil {vs : List Nat} : PGn X T vs [] [] := ⟨PGs.imp pgs_nil fun ws σ H Q ⟨as, ς, G, Qa, rv, rs, rg, hl, h, q⟩ => by
  obtain rfl : as = [] := List.eq_nil_of_length_eq_zero hl
  exact ⟨rvs0 rv, q _ _ _ _ h rs rg Kp.refl rfl⟩⟩
theorem gn_cons {vs is : List Nat} {j : Nat} {x : Str} {es : List Expr} (hN : X.N.Nodup) (hi : X.N[j]? = some x) (hx : Loc X.env.scope x) (hf : X.fn x = true ∨ X.env.scope.names.lookup x = some .local) (hv : j ∈ vs) (h : PGn X T vs es is)
    (hs : (assignEach (.Name x pos :: es) X.env).map (·.2) = assign (.Name x pos) X.env :: (assignEach es X.env).map (·.2)) : PGn X T vs (.Name x pos :: es) (j :: is) := ⟨by
  refine PGs.imp (pgs_cons (pg_name hN hi hx hf) h.run hs) fun ws σ H Q ⟨as, ς, G, Qa, rv, rs, rg, hl, hh, q⟩ => ?_
  cases as with
  | nil => simp at hl
  | cons a as =>
    simp only [RVs] at rv
    obtain ⟨w, ws', rfl, r1, r2⟩ := rv
    refine ⟨w, ws', rfl, as, ς.set j (some a), G, Qa, r2, rs.set j r1, rg, by simpa using hl, hh, fun ς' G' σ' H' a b c d e => q ς' G' σ' H' a b c d (e.trans (wipe_mem hv))⟩⟩
def gTup (is : List Nat) : GA := fun a ς G Q => match a with
  | .tup xs => xs.length = is.length ∧ Q (gTs is xs ς) G
  | _ => False
theorem g_tup {vs is : List Nat} {es : List Expr} {k : Nat} (hT : T.K = X.K) (hc : X.calm = true) (h : PGn X T vs es is) (hn : (assignEach es X.env).length = is.length) (hst : (assignEach es X.env).findIdx? (·.1) = none) : PG X (.Tuple es k pos) (lG T vs (gTup is)) := by
  refine PG.imp (pg_tup hc h.run hn hst) fun v σ H Q ⟨a, ς, G, Qa, rv, rs, rg, hh, q⟩ => ?_
  cases a with
  | tup xs =>
    obtain ⟨p, ws, rfl, sq, rvs⟩ := rv_tup rv
    exact ⟨p, ws, rfl, hT ▸ sq.sq, by rw [rvs.len]; exact hh.1, xs, ς, G, Qa, rvs, rs, rg, hh.1, hh.2, q⟩
  | _ => exact False.elim hh
end
end Q
/-! Nd1: keys; dicts as lists of pairs; reading and writing them. -/
namespace Q
open PySem PySem.Spec PyProof.Rows L2
mutual
def A.beq : A → A → Bool
  | .non, .non => true
  | .bl a, .bl b => a == b
  | .int a, .int b => decide (a = b)
  | .str a, .str b => decide (a = b)
  | .tup a, .tup b => A.beqs a b
  | .scr a, .scr b => A.beqs a b
  | .fro a, .fro b => A.beqs a b
  | .fdc a b, .fdc c d => A.beqs a c && A.beqs b d
  | .fin C n a, .fin D m b => decide (C = D) && decide (n = m) && A.beqs a b
  | .exn C n a, .exn D m b => decide (C = D) && decide (n = m) && A.beqs a b
  | .ref a, .ref b => decide (a = b)
  | _, _ => false
def A.beqs : List A → List A → Bool
  | [], [] => true
  | x :: xs, y :: ys => A.beq x y && A.beqs xs ys
  | _, _ => false
end
mutual
theorem A.beq_eq : ∀ a b : A, A.beq a b = true ↔ a = b
  | .non, b => by cases b <;> simp [A.beq]
  | .bl x, b => by cases b <;> simp [A.beq]
  | .int x, b => by cases b <;> simp [A.beq]
  | .str x, b => by cases b <;> simp [A.beq]
  | .tup x, b => by cases b <;> simp [A.beq, A.beqs_eq x]
  | .scr x, b => by cases b <;> simp [A.beq, A.beqs_eq x]
  | .fro x, b => by cases b <;> simp [A.beq, A.beqs_eq x]
  | .fdc x y, b => by cases b <;> simp [A.beq, A.beqs_eq x, A.beqs_eq y]
  | .fin C n x, b => by cases b <;> simp [A.beq, A.beqs_eq x, and_assoc]
  | .exn C n x, b => by cases b <;> simp [A.beq, A.beqs_eq x, and_assoc]
  | .ref x, b => by cases b <;> simp [A.beq]
theorem A.beqs_eq : ∀ a b : List A, A.beqs a b = true ↔ a = b
  | [], b => by cases b <;> simp [A.beqs]
  | x :: xs, b => by cases b <;> simp [A.beqs, A.beq_eq x, A.beqs_eq xs]
end
instance : DecidableEq A := fun a b => decidable_of_iff _ (A.beq_eq a b)
/-! ### lists of pairs -/
def valA (kvs : List (A × A)) (k : A) : Option A := (kvs.find? fun p => decide (p.1 = k)).map (·.2)
def putA (kvs : List (A × A)) (k v : A) : List (A × A) :=
  if (kvs.any fun p => decide (p.1 = k)) = true then kvs.map (fun p => if p.1 = k then (p.1, v) else p) else kvs ++ [(k, v)]
section
variable {T : Tx} {G G' : GS} {H H' : Hp} {κ : Type} [DecidableEq κ] {e : κ → A}
/-- pairs of trees and pairs of the hand layer -/
abbrev RKg (T : Tx) (G : GS) (H : Hp) (e : κ → A) (kvs : List (A × A)) (qs : List (κ × V)) : Prop := Paired (fun (p : A × A) (q : κ × V) => p.1 = e q.1 ∧ RV T G H p.2 q.2) kvs qs
theorem RKg.len {kvs : List (A × A)} {qs : List (κ × V)} (h : RKg T G H e kvs qs) : qs.length = kvs.length := (Paired.length h).symm
theorem RKg.val (inj : ∀ a b, e a = e b → a = b) (k : κ) : ∀ {kvs : List (A × A)} {qs : List (κ × V)}, RKg T G H e kvs qs → (valA kvs (e k) = none ∧ valV qs k = none) ∨ ∃ a v, valA kvs (e k) = some a ∧ valV qs k = some v ∧ RV T G H a v
  | _, _, .nil => .inl ⟨rfl, rfl⟩
  | _, _, @Paired.cons _ _ _ p q kvs qs r t => by
    by_cases hk : q.1 = k
    · refine .inr ⟨p.2, q.2, ?_, valV_pos hk, r.2⟩
      simp [valA, List.find?_cons, r.1, hk]
    · have h1 : ¬ p.1 = e k := fun z => hk (inj _ _ (r.1.symm.trans z))
      have z := RKg.val inj k t
      rw [valV_neg hk]
      have e2 : valA (p :: kvs) (e k) = valA kvs (e k) := by simp [valA, List.find?_cons, h1]
      rw [e2]; exact z
theorem RKg.any (inj : ∀ a b, e a = e b → a = b) (k : κ) : ∀ {kvs : List (A × A)} {qs : List (κ × V)}, RKg T G H e kvs qs → (kvs.any fun p => decide (p.1 = e k)) = qs.any fun q => decide (q.1 = k)
  | _, _, .nil => rfl
  | _, _, @Paired.cons _ _ _ p q kvs qs r t => by
    have ih := RKg.any inj k t
    rw [List.any_cons, List.any_cons, ih]
    have : decide (p.1 = e k) = decide (q.1 = k) := by
      rw [r.1]
      by_cases hk : q.1 = k
      · rw [decide_eq_true hk, decide_eq_true (by rw [hk])]
      · rw [decide_eq_false hk, decide_eq_false fun z => hk (inj _ _ z)]
    rw [this]
theorem RKg.set (inj : ∀ a b, e a = e b → a = b) (k : κ) {a : A} {v : V} (rv : RV T G H a v) : ∀ {kvs : List (A × A)} {qs : List (κ × V)}, RKg T G H e kvs qs →
    RKg T G H e (kvs.map fun p => if p.1 = e k then (p.1, a) else p) (qs.map fun q => if q.1 = k then (q.1, v) else q)
  | _, _, .nil => .nil
  | _, _, @Paired.cons _ _ _ p q kvs qs r t => by
    refine .cons ?_ (RKg.set inj k rv t)
    by_cases hk : q.1 = k
    · show (if p.1 = e k then (p.1, a) else p).1 = e (if q.1 = k then (q.1, v) else q).1 ∧ RV T G H (if p.1 = e k then (p.1, a) else p).2 (if q.1 = k then (q.1, v) else q).2
      rw [if_pos hk, if_pos (by rw [r.1, hk])]; exact ⟨r.1, rv⟩
    · show (if p.1 = e k then (p.1, a) else p).1 = e (if q.1 = k then (q.1, v) else q).1 ∧ RV T G H (if p.1 = e k then (p.1, a) else p).2 (if q.1 = k then (q.1, v) else q).2
      rw [if_neg hk, if_neg fun z => hk (inj _ _ (r.1.symm.trans z))]; exact r
theorem RKg.app {kvs ls : List (A × A)} {qs rs : List (κ × V)} (h : RKg T G H e kvs qs) (k : RKg T G H e ls rs) : RKg T G H e (kvs ++ ls) (qs ++ rs) := by
  induction h with
  | nil => exact k
  | cons r _ ih => exact .cons r ih
theorem RKg.put (inj : ∀ a b, e a = e b → a = b) (k : κ) {a : A} {v : V} (rv : RV T G H a v) {kvs : List (A × A)} {qs : List (κ × V)} (h : RKg T G H e kvs qs) : RKg T G H e (putA kvs (e k) a) (putK qs k v) := by
  unfold putA putK
  rw [RKg.any inj k h]
  split
  · exact RKg.set inj k rv h
  · exact RKg.app h (.cons ⟨rfl, rv⟩ .nil)
end
theorem keyA_inj : ∀ a b : Key, keyA a = keyA b → a = b
  | .inl _, .inl _, h => by cases h; rfl
  | .inr _, .inr _, h => by cases h; rfl
  | .inl _, .inr _, h => by cases h
  | .inr _, .inl _, h => by cases h
def keysA (ks : List Key) : A := .tup (ks.map keyA)
theorem keysA_inj (a b : List Key) (h : keysA a = keysA b) : a = b := by
  unfold keysA at h
  injection h with h
  induction a generalizing b with
  | nil => cases b with
    | nil => rfl
    | cons y ys => simp at h
  | cons x xs ih => cases b with
    | nil => simp at h
    | cons y ys =>
      simp only [List.map_cons, List.cons.injEq] at h
      rw [keyA_inj _ _ h.1, ih _ h.2]
/-- a key that is an int or a text; a tuple of such, not empty -/
def isK : A → Option Key
  | .int i => some (.inl i)
  | .str x => some (.inr x)
  | _ => none
def isKs : List A → Option (List Key)
  | [] => some []
  | x :: xs => match isK x, isKs xs with
    | some k, some ks => some (k :: ks)
    | _, _ => none
def isKT : A → Option (List Key)
  | .tup xs => isKs xs
  | _ => none
theorem isK_eq {a : A} {k : Key} (h : isK a = some k) : a = keyA k := by
  cases a <;> simp only [isK, reduceCtorEq, Option.some.injEq] at h <;> subst h <;> rfl
theorem isK_key (k : Key) : isK (keyA k) = some k := by cases k <;> rfl
theorem isKs_eq : ∀ {xs : List A} {ks : List Key}, isKs xs = some ks → xs = ks.map keyA
  | [], ks, h => by simp only [isKs, Option.some.injEq] at h; subst h; rfl
  | x :: xs, ks, h => by
    simp only [isKs] at h
    split at h
    · rename_i k r h1 h2
      cases h
      rw [List.map_cons, isK_eq h1, isKs_eq h2]
    · cases h
theorem isKs_key : ∀ ks : List Key, isKs (ks.map keyA) = some ks
  | [] => rfl
  | k :: ks => by simp only [List.map_cons, isKs, isK_key, isKs_key ks]
theorem isKT_eq {a : A} {ks : List Key} (h : isKT a = some ks) : a = keysA ks := by
  cases a <;> simp only [isKT, reduceCtorEq] at h
  rw [isKs_eq h]; rfl
/-- the key k goes with the pairs' keys -/
def keyOk (k : A) (kvs : List (A × A)) : Bool := match k with
  | .tup [] => false
  | .tup xs => (isKs xs).isSome && kvs.all fun p => (isKT p.1).isSome
  | k => (isK k).isSome && kvs.all fun p => (isK p.1).isSome
theorem keyOk_cases {k : A} {kvs : List (A × A)} (h : keyOk k kvs = true) : (∃ q, k = keyA q ∧ ∀ p ∈ kvs, ∃ r, p.1 = keyA r) ∨ ∃ q, k = keysA q ∧ q ≠ [] ∧ ∀ p ∈ kvs, ∃ r, p.1 = keysA r := by
  unfold keyOk at h
  split at h
  · cases h
  · rename_i xs hx
    simp only [Bool.and_eq_true, List.all_eq_true] at h
    obtain ⟨ks, e⟩ := Option.isSome_iff_exists.mp h.1
    refine .inr ⟨ks, by unfold keysA; rw [isKs_eq e], fun z => ?_, fun p m => ?_⟩
    · subst z; exact hx (by rw [isKs_eq e]; rfl)
    · obtain ⟨r, e⟩ := Option.isSome_iff_exists.mp (h.2 p m)
      exact ⟨r, isKT_eq e⟩
  · simp only [Bool.and_eq_true, List.all_eq_true] at h
    obtain ⟨q, e⟩ := Option.isSome_iff_exists.mp h.1
    refine .inl ⟨q, isK_eq e, fun p m => ?_⟩
    obtain ⟨r, e⟩ := Option.isSome_iff_exists.mp (h.2 p m)
    exact ⟨r, isK_eq e⟩
/-! ### dicts -/
def dctOf (G : Gp) : A → Option (List (A × A))
  | .fdc ks vs => some (ks.zip vs)
  | .ref p => match G p with
    | some (.dct kvs) => some kvs
    | _ => none
  | _ => none
section
variable {X : Cx} {T : Tx} {G : GS} {H : Hp} {pins : List (Addr × Obj)} {σ : L2.St} {s : Shared}
theorem rk_zip {κ : Type} {e : κ → A} : ∀ {qs : List (κ × V)} {vs : List A}, RVs T G H vs (qs.map (·.2)) → RKg T G H e ((qs.map fun q => e q.1).zip vs) qs
  | [], vs, h => .nil
  | q :: qs, [], h => by simp [RVs] at h
  | q :: qs, v :: vs, h => by
    simp only [List.map_cons, RVs] at h
    obtain ⟨w, r, e1, h1, h2⟩ := h
    cases e1
    exact .cons ⟨rfl, h1⟩ (rk_zip h2)
/-- what stands for a dict of these pairs -/
def DRep (T : Tx) (G : GS) (H : Hp) (p : Addr) (kvs : List (A × A)) : Prop := (∃ qs, H p = some (.dK qs) ∧ RKg T G H keyA kvs qs) ∨ ∃ qs, H p = some (.dT qs) ∧ RKg T G H keysA kvs qs
theorem dctOf_rep {a : A} {v : V} {kvs : List (A × A)} (rg : RG T H G) (h : dctOf G a = some kvs) (r : RV T G H a v) : ∃ p, v = .ref p ∧ DRep T G H p kvs := by
  cases a with
  | fdc ks vs =>
    simp only [dctOf, Option.some.injEq] at h
    subst h
    simp only [RV] at r
    obtain ⟨p, ws, rfl, _, rv, r⟩ := r
    rcases r with ⟨qs, e, rfl, rfl⟩ | ⟨qs, e, rfl, rfl⟩
    · exact ⟨p, rfl, .inl ⟨qs, e, rk_zip rv⟩⟩
    · exact ⟨p, rfl, .inr ⟨qs, e, rk_zip (e := keysA) rv⟩⟩
  | ref p =>
    obtain rfl := rv_ref r
    simp only [dctOf] at h
    split at h
    · rename_i l e
      cases h
      exact ⟨p, rfl, rg p _ e⟩
    · cases h
  | _ => simp [dctOf] at h
/-- an empty dict is one of either kind -/
theorem swapT (I : Inv X pins σ H s) {p : Addr} (e : H p = some (.dK [])) : Inv X pins σ (upd H p (.dT [])) s := by
  obtain ⟨z, hd, vs, kv, ob, es, ep, h1, h2, h3, _, h5, _⟩ := I.hok p _ e
  cases kv
  have he : es.toList = [] := by cases hl : es.toList with
    | nil => rfl
    | cons y ys => rw [hl] at h5; cases h5
  exact I.write (x := p) (e := p) (t' := s.toks) (by rw [e]; exact True.intro) (.inl rfl) (fun _ _ _ q => q) ⟨_, h1⟩ ⟨z, hd, [], .nil, ob, es, ep, h1, h2, h3, by rw [he]; rfl, List.nodup_nil⟩
theorem swapK (I : Inv X pins σ H s) {p : Addr} (e : H p = some (.dT [])) : Inv X pins σ (upd H p (.dK [])) s := by
  obtain ⟨z, hd, xs, kv, ob, es, ep, h1, h2, h3, h4, _⟩ := I.hok p _ e
  cases kv
  have he : es.toList = [] := h4
  have he2 : es = #[] := by cases es; simp at he; subst he; rfl
  subst he2
  exact I.write (x := p) (e := p) (t' := s.toks) (by rw [e]; exact True.intro) (.inl rfl) (fun _ _ _ q => q) ⟨_, h1⟩ ⟨z, hd, [], .nil, ob, #[], ep, h1, h2, h3, fun x m => by simp at m, .nil, List.nodup_nil⟩
theorem upd_back {p : Addr} {o u : HO} (e : H p = some o) : upd (upd H p u) p o = H := by
  rw [upd_upd]
  funext b
  by_cases hb : b = p
  · subst hb; rw [upd_same, e]
  · rw [upd_ne hb]
/-- a value that is a key, as the hand layer has it -/
theorem key_rep {q : Key} {v : V} (r : RV T G H (keyA q) v) : v = kV q := by
  cases q <;> simpa only [keyA, RV, kV] using r
theorem keys_rep {q : List Key} {v : V} (hq : q ≠ []) (r : RV T G H (keysA q) v) : ∃ b, v = .ref b ∧ H b = some (.tup (q.map kV)) ∧ Fx G b := by
  unfold keysA at r
  obtain ⟨b, vs, rfl, sq, rv⟩ := rv_tup r
  have e : vs = q.map kV := by
    clear r sq hq
    induction q generalizing vs with
    | nil => simpa [RVs] using rv
    | cons x xs ih =>
      simp only [List.map_cons, RVs] at rv
      obtain ⟨w, r', rfl, h1, h2⟩ := rv
      rw [key_rep h1, ih _ h2]; rfl
  subst e
  rcases sq with ⟨f, h⟩ | ⟨z, _⟩
  · exact ⟨b, rfl, h, f⟩
  · cases q with
    | nil => exact absurd rfl hq
    | cons _ _ => simp at z
/-- what is got at a key: the dict's place in the hand layer may have to be taken for one of the other kind, where it is empty -/
theorem dget {p : Addr} {kvs : List (A × A)} {k : A} {y : V} (I : Inv X pins σ H s) (d : DRep T G H p kvs) (hk : keyOk k kvs = true) (r : RV T G H k y) :
    ∃ H2 o, Inv X pins σ H2 s ∧ (∀ s', Inv X pins σ H2 s' → Inv X pins σ H s') ∧ DGet H2 p y o ∧ ((valA kvs k = none ∧ o = none) ∨ ∃ a v, valA kvs k = some a ∧ o = some v ∧ RV T G H a v) := by
  rcases keyOk_cases hk with ⟨q, rfl, hall⟩ | ⟨q, rfl, hq, hall⟩
  · have ey := key_rep r
    subst ey
    rcases d with ⟨qs, e, rk⟩ | ⟨qs, e, rk⟩
    · refine ⟨H, valV qs q, I, fun _ z => z, .k e, ?_⟩
      rcases rk.val keyA_inj q with ⟨a, b⟩ | ⟨a, v, b, c, d⟩
      · exact .inl ⟨a, b⟩
      · exact .inr ⟨a, v, b, c, d⟩
    · cases rk with
      | nil => exact ⟨_, none, swapK I e, fun s' z => by have := swapT z upd_same; rwa [upd_back e] at this, .k upd_same, .inl ⟨rfl, rfl⟩⟩
      | cons z _ =>
        obtain ⟨r2, e2⟩ := hall _ List.mem_cons_self
        rw [z.1] at e2
        cases r2 <;> cases e2
  · obtain ⟨b, rfl, eb, _⟩ := keys_rep hq r
    rcases d with ⟨qs, e, rk⟩ | ⟨qs, e, rk⟩
    · cases rk with
      | nil =>
        have hb : b ≠ p := fun z => by subst z; rw [e] at eb; cases eb
        exact ⟨_, none, swapT I e, fun s' z => by have := swapK z upd_same; rwa [upd_back e] at this, .t upd_same (by rw [upd_ne hb]; exact eb), .inl ⟨rfl, rfl⟩⟩
      | cons z _ =>
        obtain ⟨r2, e2⟩ := hall _ List.mem_cons_self
        rw [z.1] at e2
        rename_i q0 _ _ _
        obtain ⟨q1, _⟩ := q0
        cases q1 <;> cases e2
    · refine ⟨H, valV qs q, I, fun _ z => z, .t e eb, ?_⟩
      rcases rk.val keysA_inj q with ⟨a, b⟩ | ⟨a, v, b, c, d⟩
      · exact .inl ⟨a, b⟩
      · exact .inr ⟨a, v, b, c, d⟩
/-- a pair is put -/
theorem dput {p : Addr} {kvs : List (A × A)} {k a : A} {y v : V} (I : Inv X pins σ H s) (rg : RG T H G) (gp : G p = some (.dct kvs)) (hk : keyOk k kvs = true) (hl : kvs.length < sizeLine) (r : RV T G H k y) (rv : RV T G H a v) :
    ∃ H2 H', Inv X pins σ H2 s ∧ DPut H2 p y v H' ∧ RG T H' (G.up p (.dct (putA kvs k a))) ∧ Kp G H (G.up p (.dct (putA kvs k a))) H' := by
  have ne : G p ≠ none := by rw [show G p = some _ from gp]; simp
  have d : DRep T G H p kvs := rg p _ gp
  have fin : ∀ h : HO, RO T (G.up p (.dct (putA kvs k a))) (upd H p h) p (.dct (putA kvs k a)) → RG T (upd H p h) (G.up p (.dct (putA kvs k a))) ∧ Kp G H (G.up p (.dct (putA kvs k a))) (upd H p h) := fun h ro => by
    have kp : Kp G H (G.up p (.dct (putA kvs k a))) (upd H p h) := Kp.wr ne
    exact ⟨rg.up kp ro, kp⟩
  have kp : ∀ h : HO, Kp G H (G.up p (.dct (putA kvs k a))) (upd H p h) := fun h => Kp.wr ne
  rcases keyOk_cases hk with ⟨q, rfl, hall⟩ | ⟨q, rfl, hq, hall⟩
  · have ey := key_rep r
    subst ey
    rcases d with ⟨qs, e, rk⟩ | ⟨qs, e, rk⟩
    · refine ⟨H, _, I, .k e (by rw [rk.len]; exact hl), fin _ (.inl ⟨_, upd_same, ?_⟩)⟩
      exact RKg.put keyA_inj q (rv.mono (kp _)) (Paired.mapP rk fun _ _ z => ⟨z.1, z.2.mono (kp _)⟩)
    · cases rk with
      | nil =>
        refine ⟨_, _, swapK I e, .k upd_same (by decide), ?_⟩
        rw [upd_upd]
        exact fin _ (.inl ⟨_, upd_same, RKg.put keyA_inj q (rv.mono (kp _)) .nil⟩)
      | cons z _ =>
        obtain ⟨r2, e2⟩ := hall _ List.mem_cons_self
        rw [z.1] at e2
        cases r2 <;> cases e2
  · obtain ⟨b, rfl, eb, _⟩ := keys_rep hq r
    have hb : b ≠ p := fun z => by
      subst z
      rcases d with ⟨qs, e, _⟩ | ⟨qs, e, _⟩ <;> rw [e] at eb <;> cases eb
    rcases d with ⟨qs, e, rk⟩ | ⟨qs, e, rk⟩
    · cases rk with
      | nil =>
        refine ⟨_, _, swapT I e, .t upd_same (by rw [upd_ne hb]; exact eb) (by decide), ?_⟩
        rw [upd_upd]
        exact fin _ (.inr ⟨_, upd_same, RKg.put keysA_inj q (rv.mono (kp _)) .nil⟩)
      | cons z _ =>
        obtain ⟨r2, e2⟩ := hall _ List.mem_cons_self
        rw [z.1] at e2
        rename_i q0 _ _ _
        obtain ⟨q1, _⟩ := q0
        cases q1 <;> cases e2
    · refine ⟨H, _, I, .t e eb (by rw [rk.len]; exact hl), fin _ (.inr ⟨_, upd_same, ?_⟩)⟩
      exact RKg.put keysA_inj q (rv.mono (kp _)) (Paired.mapP rk fun _ _ z => ⟨z.1, z.2.mono (kp _)⟩)
end
end Q
/-! Nd2: sorted of a list, of a dict. -/
namespace Q
open PySem PySem.Spec PyProof.Rows L2
/-- all that is never written may be taken for frozen -/
theorem Kp.all {G : GS} {H : Hp} : Kp G H (G.all H) H := by
  refine ⟨fun _ _ a b => ⟨a, b⟩, fun _ h => .inl h, fun b h => ?_⟩
  rcases h with h | h
  · exact .inl h
  · exact .inr (.inr (.inr h))
def dOf (a : A) : PyData := (pyd a).getD .none
def aLe (a b : A) : Bool := !PySem.W.dataLt (dOf b) (dOf a)
def srt (xs : List A) : List A := xs.mergeSort aLe
/-- the items of a list; the keys of a dict -/
def itmOf (G : Gp) (a : A) : Option (List A) := match dctOf G a with
  | some kvs => some (kvs.map (·.1))
  | none => lstOf G a
structure SrtOk (xs : List A) : Prop where
  dat : ∀ x ∈ xs, (pyd x).isSome = true
  al : PySem.W.AllAlike (xs.map dOf)
  sb : PySem.W.Sortable (xs.map dOf)
  dp : ∀ x ∈ xs, (dOf x).depth ≤ 60
  sz : xs.length ≤ sizeLine
def sortA (m : Bool) : PN := fun as G Q => ∃ a xs, as = [a] ∧ itmOf G a = some xs ∧ SrtOk xs ∧ new m (.lst (srt xs)) G Q
abbrev EI {α β : Type} (R : α → β → Prop) (as : List α) (bs : List β) : Prop := PySem.W.EachIs R as bs
theorem ei_map {α β γ : Type} {R : α → β → Prop} {S : α → γ → Prop} {f : β → γ} (h : ∀ a b, R a b → S a (f b)) : ∀ {as : List α} {bs : List β}, EI R as bs → EI S as (bs.map f)
  | _, _, .nil => .nil
  | _, _, .cons r t => .cons (h _ _ r) (ei_map h t)
theorem ei_and {α β : Type} {R : α → β → Prop} {P : β → Prop} : ∀ {as : List α} {bs : List β}, EI R as bs → (∀ b ∈ bs, P b) → EI (fun a b => R a b ∧ P b) as bs
  | _, _, .nil, _ => .nil
  | _, _, .cons r t, h => .cons ⟨r, h _ List.mem_cons_self⟩ (ei_and t fun b m => h b (List.mem_cons_of_mem _ m))
section
variable {X : Cx} {T : Tx} {G : GS} {H : Hp} {pins : List (Addr × Obj)} {σ : L2.St} {s : Shared}
theorem ei_of : ∀ {xs : List A} {vs : List V} {us : List Value}, RVs T G H xs vs → Vals vs us → EI (fun (u : Value) (x : A) => ∃ v, RV T G H x v ∧ RelV v u) us xs
  | [], vs, us, r, q => by
    obtain rfl := rvs0 r
    cases q; exact .nil
  | x :: xs, vs, us, r, q => by
    simp only [RVs] at r
    obtain ⟨v, vs', rfl, r1, r2⟩ := r
    cases q with
    | cons q1 q2 => exact .cons ⟨v, r1, q1⟩ (ei_of r2 q2)
theorem ei_to : ∀ {xs : List A} {us : List Value}, EI (fun (u : Value) (x : A) => ∃ v, RV T G H x v ∧ RelV v u) us xs → ∃ vs, RVs T G H xs vs ∧ Vals vs us
  | _, _, .nil => ⟨[], .nil, .nil⟩
  | _, _, .cons ⟨v, r, q⟩ t => let ⟨vs, a, b⟩ := ei_to t; ⟨v :: vs, .cons r a, .cons q b⟩
theorem vals_self {κ : PyProof.Rows.KeyKind} (us : List Value) : PySem.W.sortVals κ false us us = us.mergeSort (fun u u' => !κ.blt (PySem.W.keyD κ u') (PySem.W.keyD κ u)) := by
  unfold PySem.W.sortVals
  rw [PySem.W.sort_maps Prod.snd (s := fun u u' => !κ.blt (PySem.W.keyD κ u') (PySem.W.keyD κ u)), List.map_snd_zip (Nat.le_refl _)]
  intro p hp q hq
  show (!κ.blt (PySem.W.keyD κ q.1) (PySem.W.keyD κ p.1)) = _
  rw [(mem_zip_self hp).1, (mem_zip_self hq).1]
/-- the values of a list of data, sorted -/
theorem sort_core (ok : T.Ok X) (I : Inv X pins σ H s) (rg : RG T H G) {xs : List A} {vs : List V} {us : List Value} (rv : RVs T G H xs vs) (vl : Vals vs us) (h : SrtOk xs) {h' : Heap} (hk : ∀ b o, s.heap.get? b = some o → h'.get? b = some o) (A : Around) (hA : A.units + 62 < cLine) (tk : Nat) :
    ∃ κ, PySem.W.SortsAt X.prog X.w A { s with heap := h', toks := tk } κ us ∧ ∃ vs', RVs T G H (srt xs) vs' ∧ Vals vs' (PySem.W.sortVals κ false us us) := by
  have e0 := ei_and (ei_of rv vl) h.dat
  have rd : ∀ (u : Value) (x : Q.A), (∃ v, RV T G H x v ∧ RelV v u) ∧ (pyd x).isSome = true → ∃ as, Reads h' u (dOf x) as := by
    rintro u x ⟨⟨v, r, q⟩, hx⟩
    obtain ⟨d, e⟩ := Option.isSome_iff_exists.mp hx
    obtain ⟨as, z, _⟩ := dat_reads ok I rg (Dt.of e) r q
    have e2 : dOf x = d := by unfold dOf; rw [e]; rfl
    rw [e2]
    exact ⟨as, Reads.keeps hk z⟩
  have e1 : EI (fun u d => ∃ as, Reads h' u d as) us (xs.map dOf) := ei_map rd e0
  refine ⟨PySem.W.dataKind h' (xs.map dOf), PySem.W.SortsAt.data (s := { s with heap := h', toks := tk }) e1 h.al h.sb fun d m => ?_, ?_⟩
  · obtain ⟨x, hx, rfl⟩ := List.mem_map.mp m
    have := h.dp x hx; omega
  · rw [vals_self]
    refine ei_to (PySem.W.sort_each (s := aLe) (ei_of rv vl) fun p hp q hq => ?_)
    have key : ∀ p ∈ us.zip xs, PySem.W.keyD (PySem.W.dataKind h' (xs.map dOf)) p.1 = PySem.W.keyToks (dOf p.2) := fun p hp => by
      obtain ⟨as, z⟩ := rd _ _ (e0.zip p hp)
      exact PySem.W.keyD_some (PySem.W.dataKind_some h.al (List.mem_map.mpr ⟨p.2, (List.of_mem_zip hp).2, rfl⟩) z)
    rw [key p hp, key q hq]
    rfl
theorem vals_len {vs : List V} {us : List Value} (h : Vals vs us) : vs.length = us.length := h.length
/-- sorted of a list -/
theorem sorted_list (ok : T.Ok X) (hu : X.A.units + 64 < cLine) (I : Inv X pins σ H s) (rg : RG T H G) {m : Bool} {xs : List A} {vs : List V} {p : Addr} (sq : H p = some (.lst vs)) (rv : RVs T G H xs vs) (h : SrtOk xs) {Qa : KA} {Q : VK} (hf : new m (.lst (srt xs)) G Qa) (q : LQ T G H Qa Q) :
    wpAny (model X.prog X.w) X.A (call (.builtin "sorted") [.ref p]) (EP X pins σ Q) X.xe s := by
  obtain ⟨its, vl, pl, hz⟩ := I.list (.of sq)
  have hA : X.A.in1.in1.units + 62 < cLine := by have : X.A.in1.in1.units = X.A.units + 2 := rfl; omega
  obtain ⟨κ, S, vs', rv', vl'⟩ := sort_core ok I rg rv vl h (h' := PySem.W.sortingHeap (PySem.W.copyHeap s.heap its) (s.heap.objs.size + 1) its) (fun b o e => PySem.W.sorting_copy_old e) X.A.in1.in1 hA s.toks
  refine PySem.W.sorted_vals pl.isList S (by rw [← vl.length]; exact hz) ?_
  obtain ⟨ep, he'⟩ := PyProof.Rows.sortedAll_at s.heap its (PySem.W.sortVals κ false its its).toArray
  refine ⟨.ref _, upd H (s.heap.objs.size + 1) (.lst vs'), I.laid (t' := s.toks) (fun _ _ => PyProof.Rows.sortedAll_old) (Nat.le_succ _) ⟨?_, _, ep, vl', he'⟩, rfl, new_lst rg rv' hf q (I.hok.fresh (Nat.le_succ _))⟩
  rw [rv'.len]
  show (xs.mergeSort aLe).length ≤ _
  rw [List.length_mergeSort]
  exact h.sz
theorem arr_keys {es : Array DictEntry} {acc : Array Value} (h : ItemsOf (fun i v => ∃ en : DictEntry, es[i]? = some en ∧ v = en.key) acc es.size) : acc.toList = es.toList.map (·.key) := by
  have hl : acc.toList.length = es.size := by rw [Array.length_toList]; exact h.1
  apply List.ext_getElem?
  intro j
  rw [List.getElem?_map]
  by_cases hj : j < es.size
  · have e1 : acc.toList[j]? = some (acc.toList[j]'(by omega)) := List.getElem?_eq_getElem _
    obtain ⟨en, hen, hv⟩ := h.2 j _ (by rw [← Array.getElem?_toList]; exact e1)
    rw [e1, hv, Array.getElem?_toList, hen]; rfl
  · rw [List.getElem?_eq_none (by omega), List.getElem?_eq_none (by simpa using hj)]; rfl
/-- a dict's object: its keys -/
theorem drep_keys (I : Inv X pins σ H s) {kvs : List (A × A)} {p : Addr} (d : DRep T G H p kvs) (free : ∀ p u, imm u → H p = some u → Fx G p) :
    ∃ es ob ep ks, s.heap.get? p = some ob ∧ ob.ExactDict ∧ ob.data = .dict es ep ∧ p ≠ sysModules ∧ RVs T G H (kvs.map (·.1)) ks ∧ Vals ks (es.toList.map (·.key)) := by
  rcases d with ⟨qs, e, rk⟩ | ⟨qs, e, rk⟩
  · obtain ⟨es, ob, ep, ho, hx, hd, ne, a1, a2, _⟩ := rd_dK (T := T) (G := G) I (.inl e)
    exact ⟨es, ob, ep, _, ho, hx, hd, ne, by rw [(rk_split rk).1]; exact a1, a2⟩
  · obtain ⟨es, ob, ep, ks, ho, hx, hd, ne, a1, a2, _⟩ := rd_dT (T := T) (G := G) I free (.inl e)
    exact ⟨es, ob, ep, ks, ho, hx, hd, ne, by rw [(rkt_split rk).1]; exact a1, a2⟩
theorem RG.free_all (rg : RG T H G) : ∀ p u, imm u → H p = some u → Fx (G.all H) p := fun p u i e => ⟨.inr ⟨u, i, e⟩, rg.free_imm p u i e⟩
theorem DRep.all {p : Addr} {kvs : List (A × A)} (d : DRep T G H p kvs) : DRep T (G.all H) H p kvs := by
  rcases d with ⟨qs, e, rk⟩ | ⟨qs, e, rk⟩
  · exact .inl ⟨qs, e, Paired.mapP rk fun _ _ z => ⟨z.1, z.2.mono Kp.all⟩⟩
  · exact .inr ⟨qs, e, Paired.mapP rk fun _ _ z => ⟨z.1, z.2.mono Kp.all⟩⟩
/-- sorted of a dict -/
theorem sorted_dict (hc : X.calm = true) (ok : T.Ok X) (hu : X.A.units + 64 < cLine) (I : Inv X pins σ H s) (rg0 : RG T H G) {m : Bool} {kvs : List (A × A)} {p : Addr} (d0 : DRep T G H p kvs) (h : SrtOk (kvs.map (·.1))) {Qa : KA} {Q : VK} (hf : new m (.lst (srt (kvs.map (·.1)))) G Qa) (q0 : LQ T G H Qa Q) :
    wpAny (model X.prog X.w) X.A (call (.builtin "sorted") [.ref p]) (EP X pins σ Q) X.xe s := by
  have rg := rg0.all
  have q : LQ T (G.all H) H Qa Q := q0.step Kp.all
  obtain ⟨es, ob, ep, ks, ho, hx, hd, ne, rv, vl⟩ := drep_keys I d0.all rg0.free_all
  have hn : es.size ≤ sizeLine := by
    have z1 := vl.length
    rw [rv.len, List.length_map (as := es.toList), Array.length_toList (xs := es)] at z1
    have z2 := h.sz
    omega
  refine Calls.call_function_entry kind_sorted plain_sorted entry_sorted (args_sorted1 (.ref p)) ?_
  unfold Builtin.«sorted»
  refine wpAny_bind (m := checkCount "sorted" 1 1 _) (wpAny_pure (wpAny_bind (PySem.W.kdu_collect (A := X.A.in1) (L2.kdl_raw (by simpa using ne) hx hd) (I.ok.hd hc) ho hn fun h1 tk acc hk hacc => ?_)))
  have ea := arr_keys hacc
  have I1 : Inv X pins σ H { s with heap := h1, toks := tk } := I.kept hk
  rw [ea]
  generalize es.toList.map (·.key) = us at vl ea
  have hz : us.length ≤ sizeLine := by rw [← vl.length, rv.len]; exact h.sz
  refine wpAny_bind (wpAny_newList ?_ hz)
  have hoL : (h1.push (seqObj "list" us.toArray 0)).get? h1.objs.size = some (seqObj "list" us.toArray 0) := Heap.get?_push_size _ rfl
  have hA : X.A.in1.in1.units + 62 < cLine := by have : X.A.in1.in1.units = X.A.units + 2 := rfl; omega
  obtain ⟨κ, S, vs', rv', vl'⟩ := sort_core ok I1 rg rv vl h (h' := PySem.W.sortingHeap (h1.push (seqObj "list" us.toArray 0)) h1.objs.size us)
    (fun b o e => PySem.W.sortingHeap_old (Nat.ne_of_lt (Heap.lt_size e)) (Heap.get?_push_of_some _ e)) X.A.in1.in1 hA tk
  show wpAny _ _ _ _ _ { s with heap := h1.push (seqObj "list" us.toArray 0), toks := tk }
  refine wpAny_bind (wpAny_holding (wpAny_call_entry slot_list_sort ⟨_, hoL, rfl⟩ entry_list_sort
    (PySem.W.list_sort_vals (s := { s with heap := h1.push (seqObj "list" us.toArray 0), toks := tk }) hoL S hz ⟨_, rfl, ?_⟩) (args_list_sort _)))
  obtain ⟨e', he'⟩ := sortedHeap_at (vs := us) (out := (PySem.W.sortVals κ false us us).toArray) hoL
  have hlen : vs'.length ≤ sizeLine := by
    rw [rv'.len]
    show (List.mergeSort _ aLe).length ≤ _
    rw [List.length_mergeSort]
    exact h.sz
  refine wpAny_pure ⟨_, rfl, .ref h1.objs.size, upd H h1.objs.size (.lst vs'), I1.laid (t' := tk) (fun b u e => ?_) (Nat.le_refl _) ⟨hlen, _, e', vl', he'⟩, rfl, new_lst rg rv' hf q (I1.hok.fresh (Nat.le_refl _))⟩
  have hb : b < h1.objs.size := Heap.lt_size e
  rw [sortedHeap_old (Nat.ne_of_lt hb) (by rw [size_push']; exact Nat.lt_succ_of_lt hb)]
  exact Heap.get?_push_of_some _ e
theorem c_sorted {m : Bool} (hc : X.calm = true) (ok : T.Ok X) (hu : X.A.units + 64 < cLine) : CallR X (.builtin "sorted") (lN T (sortA m)) := by
  intro pins s σ H xs us Q I r h
  obtain ⟨as, G, Qa, rv, rg, ⟨a, ys, rfl, h1, hs, hf⟩, q⟩ := h
  obtain ⟨v, rfl, ra⟩ := rvs1 rv
  obtain ⟨u, rfl, ru⟩ := vals1 r
  unfold itmOf at h1
  cases e : dctOf G a with
  | some kvs =>
    rw [e] at h1
    cases h1
    obtain ⟨p, rfl, d⟩ := dctOf_rep rg e ra
    cases ru
    exact sorted_dict hc ok hu I rg d hs hf q
  | none =>
    rw [e] at h1
    obtain ⟨p, vs, rfl, sq, rv'⟩ := lstOf_rep rg h1 ra
    cases ru
    exact sorted_list ok hu I rg sq rv' hs hf q
end
end Q
/-! Nd3: dicts in expressions. -/
namespace Q
open PySem PySem.Spec PyProof.Rows L2
/-- a subscript of a dict too -/
def ixD : P2 := fun a b G Q => match dctOf G a with
  | some kvs => keyOk b kvs = true ∧ ∃ x, valA kvs b = some x ∧ Q x G
  | none => ixA a b G Q
def inD (neg : Bool) : P2 := fun a b G Q => match dctOf G b with
  | some kvs => keyOk a kvs = true ∧ Q (.bl (if neg then !(valA kvs a).isSome else (valA kvs a).isSome)) G
  | none => inA neg a b G Q
def lenD : PN := fun as G Q => match as with
  | [a] => match dctOf G a with
    | some kvs => kvs.length ≤ sizeLine ∧ Q (.int kvs.length) G
    | none => lenA as G Q
  | _ => lenA as G Q
def getA : A → PN := fun a as G Q => match dctOf G a with
  | some kvs => match as with
    | [k] => keyOk k kvs = true ∧ Q ((valA kvs k).getD .non) G
    | [k, z] => keyOk k kvs = true ∧ Q ((valA kvs k).getD z) G
    | _ => False
  | none => False
def gSubD (to ti : EA) : GA := fun v ς G Q => to ς G (fun x G1 => ti ς G1 (fun y G2 => ∃ p, x = .ref p ∧ ((∃ xs k j, y = .int k ∧ G2 p = some (.lst xs) ∧ ixN xs.length k = some j ∧ Q ς (up G2 p (.lst (xs.set j v)))) ∨
  ∃ kvs, G2 p = some (.dct kvs) ∧ keyOk y kvs = true ∧ kvs.length < sizeLine ∧ Q ς (up G2 p (.dct (putA kvs y v))))) (fun _ _ => False)) (fun _ _ => False)
section
variable {X : Cx} {T : Tx} {W : L2.WX} {a b e o i : Expr} {ta tb to ti : EA} {pos tpos : Pos}
theorem dtype {pins : List (Addr × Obj)} {σ : L2.St} {H : Hp} {s : Shared} {G : GS} {p : Addr} {kvs : List (A × A)} (I : Inv X pins σ H s) (d : DRep T G H p kvs) : IsD H p := by
  rcases d with ⟨qs, e, _⟩ | ⟨qs, e, _⟩
  · exact .inl ⟨qs, .inl e⟩
  · exact .inr ⟨qs, .inl e⟩
theorem ix_any2 (hT : T.K = X.K) (hu : X.A.units + 1 < cLine) : IxR X (l2 T ixD) := by
  intro value slice pins s σ H x y v u Q I rx ry ⟨a, b, G, Qa, ra, rb, rg, h, q⟩ hs
  unfold ixD at h
  split at h
  · rename_i kvs e
    obtain ⟨p, rfl, d⟩ := dctOf_rep rg e ra
    obtain ⟨hk, z, hz, h⟩ := h
    obtain ⟨H2, o, I2, back, g, res⟩ := dget I d hk rb
    cases rx
    have ty := (isD_at I (dtype I d)).1
    rcases res with ⟨n, _⟩ | ⟨a', v', h1, h2, r⟩
    · rw [n] at hz; cases hz
    · rw [h1] at hz; cases hz
      subst h2
      exact PyProof.Rows.tail_any ty PySem.F.slot_dict_getitem.lookup (d_getItem hu I2 g ry fun w' s' I' rw' => ⟨v', H, back s' I', rw', q _ _ _ _ h r rg Kp.refl⟩) hs
  · have sq_case : (∃ xs x', ∃ j, b = .int j ∧ seqOf G a = some xs ∧ atI xs j = some x' ∧ Qa x' G) → wpAny (model X.prog X.w) X.A (subscriptTail value slice v u) (EP X pins σ Q) X.xe s := fun ⟨xs, x', j, e0, e1, e2, h2⟩ => by
      subst e0
      obtain ⟨p, vs, rfl, sq, rvs⟩ := seqOf_rep rg e1 ra
      obtain ⟨v', e3, r3⟩ := atI_rep rvs e2
      refine ix_seq value slice pins s σ H _ y v u Q I rx ry ?_ hs
      rcases sq with sq | sq
      · exact .inl ⟨p, vs, j, v', rfl, rv_int rb, hT ▸ sq, e3, q _ _ _ _ h2 r3 rg Kp.refl⟩
      · exact .inr (.inl ⟨p, vs, j, v', rfl, rv_int rb, hT ▸ sq.1.sq, e3, q _ _ _ _ h2 r3 rg Kp.refl⟩)
    unfold ixA at h
    cases b with
    | int j => ?_
    | _ => exact False.elim h
    cases a with
    | str z =>
      obtain ⟨hz, c, e, h2⟩ := h
      exact ix_seq value slice pins s σ H _ y v u Q I rx ry (.inr (.inr ⟨z, j, c, rv_str ra, rv_int rb, hz, e, q _ _ _ _ h2 (rv_s _) rg Kp.refl⟩)) hs
    | _ => exact sq_case (let ⟨xs, x', z1, z2, z3⟩ := h; ⟨xs, x', j, rfl, z1, z2, z3⟩)
theorem p_ixD (hT : T.K = X.K) (hu : X.A.units + 1 < cLine) (ha : PE X a (lE T W ta)) (hb : PE X b (lE T W tb)) (hs : PlainIx b) : PE X (.Subscript a b pos) (lE T W (eBin ixD ta tb)) := by
  refine PE.imp (pe_ix (ix_any2 hT hu) ha hb hs) fun σ H Q ⟨ς, G, Qa, Xa, rs, rg, h, q, hx⟩ => ⟨ς, G, _, Xa, rs, rg, h, fun x G1 v H1 h1 rv rg1 k1 => ?_, hx⟩
  exact ⟨ς, G1, _, Xa, rs.mono k1, rg1, h1, fun y G2 w H2 h2 rw rg2 k2 => ⟨x, y, G2, Qa, rv.mono k2, rw, rg2, h2, q.step (k1.trans k2)⟩, hx.step k1⟩
theorem o_inD (ok : T.Ok X) (hu : X.A.units + 65 < cLine) : OpR X (compareOp .In) (l2 T (inD false)) := by
  intro pins s σ H x y v u Q I rx ry ⟨a, b, G, Qa, ra, rb, rg, h, q⟩
  unfold inD at h
  split at h
  · rename_i kvs e
    obtain ⟨p, rfl, d⟩ := dctOf_rep rg e rb
    obtain ⟨H2, o, I2, back, g, res⟩ := dget I d h.1 ra
    cases ry
    have eo : o.isSome = (valA kvs a).isSome := by rcases res with ⟨n, rfl⟩ | ⟨_, _, h1, rfl, _⟩ <;> simp_all
    exact d_in (by omega) I2 g rx fun s' I' => ⟨.bl _, H, back s' I', rfl, q _ _ _ _ h.2 (by rw [← eo]; exact rv_b _) rg Kp.refl⟩
  · exact o_in ok hu pins s σ H x y v u Q I rx ry ⟨a, b, G, Qa, ra, rb, rg, h, q⟩
theorem o_notinD (ok : T.Ok X) (hu : X.A.units + 65 < cLine) : OpR X (compareOp .NotIn) (l2 T (inD true)) := by
  intro pins s σ H x y v u Q I rx ry ⟨a, b, G, Qa, ra, rb, rg, h, q⟩
  unfold inD at h
  split at h
  · rename_i kvs e
    obtain ⟨p, rfl, d⟩ := dctOf_rep rg e rb
    obtain ⟨H2, o, I2, back, g, res⟩ := dget I d h.1 ra
    cases ry
    have eo : o.isSome = (valA kvs a).isSome := by rcases res with ⟨n, rfl⟩ | ⟨_, _, h1, rfl, _⟩ <;> simp_all
    exact d_notIn (by omega) I2 g rx fun s' I' => ⟨.bl _, H, back s' I', rfl, q _ _ _ _ h.2 (by rw [← eo]; exact rv_b _) rg Kp.refl⟩
  · exact o_notin ok hu pins s σ H x y v u Q I rx ry ⟨a, b, G, Qa, ra, rb, rg, h, q⟩
theorem c_lenD (hT : T.K = X.K) : CallR X (.builtin "len") (lN T lenD) := by
  intro pins s σ H xs us Q I r ⟨as, G, Qa, rv, rg, hf, q⟩
  unfold lenD at hf
  split at hf
  · rename_i a
    split at hf
    · rename_i kvs e
      obtain ⟨v, rfl, ra⟩ := rvs1 rv
      obtain ⟨p, rfl, d⟩ := dctOf_rep rg e ra
      obtain ⟨u, rfl, ru⟩ := vals1 r
      cases ru
      rcases d with ⟨qs, e, rk⟩ | ⟨qs, e, rk⟩
      · exact d_len I (.inl e) fun t s' I' => ⟨.int qs.length, H, I', ⟨t, rfl⟩, q _ _ _ _ hf.2 (by rw [rk.len]; exact rv_i _) rg Kp.refl⟩
      · exact call_len_dT pins s σ H _ _ Q I r ⟨p, qs, rfl, e, q _ _ _ _ hf.2 (by rw [rk.len]; exact rv_i _) rg Kp.refl⟩
    · exact c_len hT pins s σ H xs us Q I r ⟨_, G, Qa, rv, rg, hf, q⟩
  · exact c_len hT pins s σ H xs us Q I r ⟨as, G, Qa, rv, rg, hf, q⟩
theorem m_get (hu : X.A.units + 1 < cLine) : MtR X "dict.get" (lM T getA) := by
  intro pins s σ H x xs v us Q I rx rs hh
  obtain ⟨a, as, G, Qa, ra, rv, rg, h, q⟩ := hh
  unfold getA at h
  split at h
  · rename_i kvs e
    obtain ⟨p, rfl, d⟩ := dctOf_rep rg e ra
    cases rx
    split at h
    · rename_i k
      obtain ⟨v1, rfl, r1⟩ := rvs1 rv
      obtain ⟨u1, rfl, q1⟩ := vals1 rs
      obtain ⟨H2, o, I2, back, g, res⟩ := dget I d h.1 r1
      refine d_get1 hu I2 g q1 fun w' s' I' rw' => ⟨_, H, back s' I', rw', q _ _ _ _ h.2 ?_ rg Kp.refl⟩
      rcases res with ⟨n, rfl⟩ | ⟨a', v', h1, rfl, r⟩
      · rw [n]; exact rv_n
      · rw [h1]; exact r
    · rename_i k z
      obtain ⟨v1, v2, rfl, r1, r2⟩ := rvs2 rv
      obtain ⟨u1, u2, rfl, q1, q2⟩ := vals2 rs
      obtain ⟨H2, o, I2, back, g, res⟩ := dget I d h.1 r1
      refine d_get2 hu I2 g q1 q2 fun w' s' I' rw' => ⟨_, H, back s' I', rw', q _ _ _ _ h.2 ?_ rg Kp.refl⟩
      rcases res with ⟨n, rfl⟩ | ⟨a', v', h1, rfl, r⟩
      · rw [n]; exact r2
      · rw [h1]; exact r
    · exact h.elim
  · exact h.elim
/-- the store o[i] = v, of a list, of a dict -/
def tSetD (T : Tx) : TSet := fun o i v H Q => ∃ p a b, ∃ G : GS, o = .ref p ∧ RV T G H a i ∧ RV T G H b v ∧ RG T H G ∧
  ((∃ xs k j, a = .int k ∧ G p = some (.lst xs) ∧ ixN xs.length k = some j ∧ ∀ H', RG T H' (G.up p (.lst (xs.set j b))) → Kp G H (G.up p (.lst (xs.set j b))) H' → Q H') ∨
   ∃ kvs, G p = some (.dct kvs) ∧ keyOk a kvs = true ∧ kvs.length < sizeLine ∧ ∀ H', RG T H' (G.up p (.dct (putA kvs a b))) → Kp G H (G.up p (.dct (putA kvs a b))) H' → Q H')
theorem set_any (hu : X.A.units + 1 < cLine) : PSet X (tSetD T) := by
  intro pins s σ H o i v ov iv u Q I ro ri rv hh
  obtain ⟨p, a, b, G, rfl, ra, rb, rg, h⟩ := hh
  rcases h with ⟨xs, k, j, rfl, e, hj, h⟩ | ⟨kvs, e, hk, hl, h⟩
  · obtain ⟨ws, hw, rw'⟩ := rg p _ e
    have kw : Kp G H (G.up p (.lst (xs.set j b))) (upd H p (.lst (ws.set j v))) := Kp.wr (by rw [e]; simp)
    exact set_list pins s σ H _ i v ov iv u Q I ro ri rv ⟨p, ws, k, j, rfl, rv_int ra, hw, by rw [rw'.len]; exact hj, h _ (rg.up kw ⟨_, upd_same, (rw'.set j rb).mono kw⟩) kw⟩
  · obtain ⟨H2, H', I2, dp, rg', kp⟩ := dput I rg e hk hl ra rb
    cases ro
    exact d_setItem hu I2 dp ri rv fun s' I' => ⟨H', I', h H' rg' kp⟩
theorem g_subD {vs : List Nat} (hu : X.A.units + 1 < cLine) (ho : PE X o (lE T W to)) (hi : PE X i (lE T W ti)) (ha : ∀ v, assign (.Subscript o i tpos) X.env v = (do
      let ov ← holding [v] (eval o X.env)
      let iv ← holding [v, ov] (eval i X.env)
      standAt tpos
      holding [v, ov, iv] (setItem ov iv v)
      release [v, ov, iv] [])) : PG X (.Subscript o i tpos) (lG T vs (gSubD to ti)) := by
  refine PG.imp (pg_sub ho hi (set_any (T := T) hu) ha) fun v σ H Q ⟨a, ς, G, Qa, rv, rs, rg, h, q⟩ => ⟨ς, G, _, _, rs, rg, h, fun x G1 v1 H1 h1 r1 rg1 k1 => ?_, lX_no⟩
  refine ⟨ς, G1, _, _, rs.mono k1, rg1, h1, fun y G2 v2 H2 h2 r2 rg2 k2 => ?_, lX_no⟩
  have k12 := k1.trans k2
  obtain ⟨p, rfl, h2⟩ := h2
  refine ⟨p, y, a, G2, rv_ref (r1.mono k2), r2, rv.mono k12, rg2, ?_⟩
  rcases h2 with ⟨xs, k, j, e1, e2, e3, h2⟩ | ⟨kvs, e1, e2, e3, h2⟩
  · exact .inl ⟨xs, k, j, e1, e2, e3, fun H' rg' kp => q _ (G2.up p (.lst (xs.set j a))) _ _ h2 ((rs.mono k12).mono kp) rg' (k12.trans kp) rfl⟩
  · exact .inr ⟨kvs, e1, e2, e3, fun H' rg' kp => q _ (G2.up p (.dct (putA kvs y a))) _ _ h2 ((rs.mono k12).mono kp) rg' (k12.trans kp) rfl⟩
end
end Q
/-! Nd4: dict comprehensions, any keys. -/
namespace Q
open PySem PySem.Spec PyProof.Rows L2
/-- what stands behind D[y] = v: an empty dict is of either kind -/
def PutD (H : Hp) (D : Addr) (y v : V) (H' : Hp) : Prop := ∃ H2, (H2 = H ∨ (H D = some (.dK []) ∧ H2 = upd H D (.dT [])) ∨ (H D = some (.dT []) ∧ H2 = upd H D (.dK []))) ∧ DPut H2 D y v H'
section
variable {X : Cx} {T : Tx}
theorem d_setC {pins : List (Addr × Obj)} {σ : L2.St} {H H' : Hp} {s : Shared} {E : Value → Shared → Prop} {D : Addr} {y v : V} {u r : Value} {Q : Unit → Shared → Prop} (hu : X.A.units + 1 < cLine) (I : Inv X pins σ H s) (g : PutD H D y v H')
    (ry : RelV y u) (rv : RelV v r) (h : ∀ s', Inv X pins σ H' s' → Q () s') : wpAny (model X.prog X.w) X.A (dictSet D u r) Q E s := by
  obtain ⟨H2, hh, g⟩ := g
  have I2 : Inv X pins σ H2 s := by
    rcases hh with rfl | ⟨e, rfl⟩ | ⟨e, rfl⟩
    · exact I
    · exact swapT I e
    · exact swapK I e
  rcases g with ⟨kvs, k, e, rfl, l, rfl⟩ | ⟨kvs, k, b, e, rfl, eb, l, rfl⟩
  · exact d_dictSet I2 e l ry rv h
  · cases ry
    obtain ⟨z, nd, xs, rel, dd⟩ := dt_of I2.hok e
    have hz : xs.length ≤ sizeLine := by rw [← Paired.length rel]; exact z
    have hl := length_putK kvs k v
    refine wpAny_dictSet_heap (hsz := hz) (show (tupleKind (mixKind X.prog X.w)).room X.A from by show X.A.units < cLine; omega) (key_of I2.hok eb) dd fun h' d2 hs => h _ ?_
    obtain ⟨q, es, ep, hq, g2, g3, g4, _, g5⟩ := d2
    refine d_write I2 (by rw [e]; exact True.intro) hs ⟨q, hq⟩ ⟨by omega, nd, _, (rel.put k eb rv).keeps fun c ys ec => ?_, q, es, ep, hq, g2, g3, g4, g5⟩
    have hc : c ≠ D := fun z => by subst z; rw [e] at ec; cases ec
    rw [upd_ne hc]
    exact ec
/-- the reading of a dict comprehension, whatever the keys: D is the new dict -/
def tDg (wi : TI) (g : TG) (tt : TT) (tk tv : TE) (vs : List Nat) : TE := fun σ H Q => wi σ H fun J H1 => ∀ D, H1 D = none → ∃ W : Nat → Nat → Hp → Prop, (∃ m, W 0 m (upd H1 D (.dK []))) ∧ ∀ i m H, W i m H →
  (J.stop i H ∧ Q (.ref D) H) ∨ (J.go i H ∧ ∃ Z : Hp → Prop, (∀ H', Z H' → ∃ m', m' < m ∧ W (i + 1) m' H') ∧ ∀ x H', J.yld i H x H' → g x (wipe σ vs) H' fun σ2 H2 => wipe σ2 vs = wipe σ vs ∧ tt σ2 H2 fun b H3 =>
    if b = true then tk σ2 H3 fun y H4 => tv σ2 H4 fun z H5 => ∃ H6, PutD H5 D y z H6 ∧ Z H6 else Z H3)
variable {kx vx tg iter : Expr} {ifs : List Expr} {scope : Scope} {own : List (Str × Nat)} {pos : Pos} {wi : TI} {g : TG} {tt : TT} {tk tv : TE}
/-- what a block's parts are asked -/
structure DcOk (X : Cx) (kx vx tg iter : Expr) (ifs : List Expr) (scope : Scope) (own : List (Str × Nat)) (wi : TI) (g : TG) (tt : TT) (tk tv : TE) : Prop where
  calm : X.calm = true
  nd : X.N.Nodup
  it : PI X tg iter wi
  blk : BlkOk X.N X.env.scope scope own
  g : ∀ s H C cl fp, PG (X.blk s H scope (compEnvC scope cl C X.env) fp) tg g
  t : ∀ s H C cl fp, PTs (X.blk s H scope (compEnvC scope cl C X.env) fp) ifs tt
  k : ∀ s H C cl fp, PE (X.blk s H scope (compEnvC scope cl C X.env) fp) kx tk
  v : ∀ s H C cl fp, PE (X.blk s H scope (compEnvC scope cl C X.env) fp) vx tv
  fs : ∀ x, foldedSetIterable iter X.env x = pure x
theorem pe_dg (hu : X.A.units + 1 < cLine) (O : DcOk X kx vx tg iter ifs scope own wi g tt tk tv) : PE X (.DictComp kx vx [⟨tg, iter, ifs, 0⟩] scope pos) (tDg wi g tt tk tv (own.map (·.2))) := by
  refine ⟨fun pins s₀ σ H₀ Q I₀ h => ?_⟩
  rw [arm_eval_DictComp]
  have cells : ∀ y ∈ scope.names, y.2 = .free → ∃ c, X.env.cells.lookup y.1 = some c := fun y hy e => (O.blk.free y hy e).elim (fun k => I₀.ok.has _ (.inl k)) fun k => I₀.ok.has _ (.inr k)
  refine wpAny_comprehension_free rfl O.fs (closure_ok cells) O.blk.kind (fun y hy e => by rw [O.blk.uniq y hy, e]) (thn (O.it.run pins s₀ σ H₀ _ I₀ h) fun _ _ hx => thn hx fun _ sa ha => ?_)
  obtain ⟨it, fp, tn, J, Ha, rfl, Ia, Tn, sta, fpa, q⟩ := ha
  refine wpAny_newObj_type (newEnv_comp ?_)
  generalize hD : sa.heap.objs.size = D
  obtain ⟨Wr, ⟨m0, w0⟩, turn⟩ := q D (Ia.hok.fresh (Nat.le_of_eq hD))
  generalize hsb : ({ sa with heap := sa.heap.push { cls := .type "dict", data := .dict #[] } } : Shared) = sb
  have hpb : sb.heap = sa.heap.push { cls := .type "dict", data := .dict #[] } := by rw [← hsb]
  have Ib : Inv X pins σ (upd Ha D (.dK [])) sb := by
    subst hsb hD
    exact Ia.laid (t' := sa.toks) (fun _ _ e => Heap.get?_push_of_some _ e) (Nat.le_refl _) (dk_empty sa.heap Ia.big)
  have fpb : ∀ b ∈ fp, FpOk X pins (upd Ha D (.dK [])) b ∧ b < sb.heap.objs.size := fun b hb => by
    obtain ⟨ob, e, _⟩ := Tn.obj _ _ sta b hb
    have lt : b < sa.heap.objs.size := Heap.lt_size e
    exact ⟨⟨by rw [upd_ne (by rw [← hD]; exact Nat.ne_of_lt lt)]; exact (fpa b hb).1, (fpa b hb).2⟩, by rw [hpb, Heap.size_push]; exact Nat.lt_succ_of_lt lt⟩
  have stb : tn 0 sb.heap := Tn.keep _ _ _ sta fun b _ ob e => by rw [hpb]; exact Heap.get?_push_of_some _ e
  have Ic := block_start Ib O.blk O.nd fpb
  show codeAny _ _ (.compStart (.DictComp kx vx [⟨tg, iter, ifs, 0⟩] scope pos) 0 (.ref it) (.ref D)
    (compEnvC scope (cellsFrom (sb.heap.objs.size + 1) scope.names (cloFrom X.env.cells scope.names [])) sb.heap.objs.size X.env))
    (compPost (model X.prog X.w) X.A X.xe none _ (.ref D) sb.heap.objs.size)
    { sb with heap := pushCells (sb.heap.push { cls := .type "dict", data := .dict #[] }) scope.names }
  generalize hL : sb.heap.objs.size = L at *
  generalize hcl : cellsFrom (L + 1) scope.names (cloFrom X.env.cells scope.names []) = cl at *
  generalize hHb : upd Ha D (.dK []) = Hb at *
  have rg := O.g sb Hb L cl fp
  have rt := O.t sb Hb L cl fp
  have rk := O.k sb Hb L cl fp
  have rv := O.v sb Hb L cl fp
  generalize hce : compEnvC scope cl L X.env = ce at *
  have loc : ce.locals = L := by subst hce; rfl
  generalize hsc : ({ sb with heap := pushCells (sb.heap.push { cls := .type "dict", data := .dict #[] }) scope.names } : Shared) = sc at *
  have stc : tn 0 sc.heap := Tn.keep _ _ _ stb fun b _ ob e => by rw [← hsc]; exact pushCells_keeps _ _ _ _ (Heap.get?_push_of_some _ e)
  have fpo : ∀ {τ : L2.St} {H' : Hp} {s' : Shared}, Inv (X.blk sb Hb scope ce fp) [] τ H' s' → (∀ b ∈ fp, H' b = none) → ∀ b ∈ fp, FpOk (X.blk sb Hb scope ce fp) [] H' b := fun {τ H' s'} I n b hb =>
    ⟨n b hb, (I.ok.exf b hb).1, I.ok.exfs b hb, .inl hb, fun x c e => (I.ok.exf b hb).2 x c e, fun p hp => by cases (show p ∈ ([] : List (Addr × Obj)) from hp)⟩
  refine codeAny_compStart_dict ?walk (Tn.self X.A 0 _ _ _ stc ?walk)
  case walk =>
  refine compLoop_anyD (fun n s' => ∃ i H', Inv (X.blk sb Hb scope ce fp) [] (wipe σ (own.map (·.2))) H' s' ∧ tn i s'.heap ∧ (∀ b ∈ fp, H' b = none) ∧ Wr i n H') ?_ m0 ⟨0, Hb, Ic, stc, fun b hb => (fpb b hb).1.1, w0⟩
  rintro n sd ⟨i, Hd, Id, std, nd, wd⟩
  rcases turn i n Hd wd with ⟨stop, fin⟩ | ⟨go, Z, hZ, step⟩
  · refine thnF (Tn.done (X.blk sb Hb scope ce fp) rfl rfl rfl O.calm i [] sd _ Hd (fun _ _ => False) Id (fpo Id nd) std stop) fun r se ⟨hr, Ie⟩ => ?_
    subst hr
    have If : Inv X pins σ Hd se := Ib.call' (ch := fp) Ie.os Ie.base Ie.hok Ie.bare fun b hb => let z := (fpb b hb).1; ⟨z.2.2.2.1, z.2.1, z.2.2.2.2.1, z.2.2.2.2.2⟩
    have nL : Hd L = none := by rw [← loc]; exact Ie.free
    obtain ⟨mm, hn, _⟩ := Ie.loc
    have hn' : se.heap.Ns L mm := by rw [← loc]; exact hn
    obtain ⟨f0, f1, _, f3, f4, f5⟩ := Ib.fpOk (Nat.le_of_eq hL) nL
    exact ⟨mm, hn', fun h2 sb2 => ⟨.ref D, Hd, If.turned (t' := se.toks) (fun b ob hb e => (sb2.2 b hb).trans e) f0 f1 f3 f4 f5, rfl, fin⟩⟩
  · refine thnF (Tn.item (X.blk sb Hb scope ce fp) rfl rfl rfl O.calm i [] sd _ Hd (fun _ _ => False) Id (fpo Id nd) std go) fun r se ⟨u, hr, he⟩ => ?_
    subst hr
    refine thnF he fun _ sf ⟨x, Hf, If, rx, yx, stf, nf⟩ => ?_
    have Ip := If.pinned (fpo If nf) (Tn.obj _ _ stf)
    refine thnF (rg.run _ sf _ Hf x u _ Ip rx (step x Hf yx)) fun _ sg ⟨τ, Hg, Ig, hw, qg⟩ => thnF (rt.run _ sg τ Hg _ Ig qg) fun b sh ⟨Hh, Ih, qh⟩ => ?_
    have close : ∀ {s' : Shared} {H' : Hp}, Inv (X.blk sb Hb scope ce fp) ([] ++ pinsAt fp sf.heap) τ H' s' → Z H' → ∃ m, m < n ∧ ∃ i H', Inv (X.blk sb Hb scope ce fp) [] (wipe σ (own.map (·.2))) H' s' ∧ tn i s'.heap ∧ (∀ b ∈ fp, H' b = none) ∧ Wr i m H' := fun {s' H'} I nz => by
      obtain ⟨m', lt, w'⟩ := hZ H' nz
      have pin : ∀ b ∈ fp, ∀ ob, sf.heap.get? b = some ob → s'.heap.get? b = some ob ∧ H' b = none := fun b hb ob e =>
        let z := I.pin (b, ob) (List.mem_append_right _ (List.mem_append_right _ (mem_pinsAt hb e))); ⟨z.1, z.2.1⟩
      refine ⟨m', lt, i + 1, H', (I.unpinned (pins := [])).weak (by rw [← hw, wipe_length]) (fun j v e => (wipe_some (by rw [hw]; exact e)).1), Tn.keep _ _ _ stf fun b hb ob e => (pin b hb ob e).1, fun b hb => ?_, w'⟩
      obtain ⟨ob, e, _⟩ := Tn.obj _ _ stf b hb
      exact (pin b hb ob e).2
    cases b with
    | false =>
      rw [if_neg Bool.false_ne_true] at qh ⊢
      exact close Ih qh
    | true =>
      rw [if_pos rfl] at qh ⊢
      refine thnF (rk.run _ sh τ Hh _ Ih qh) fun uk si ⟨yk, Hi, Ii, ri, qi⟩ => thnF (rv.run _ si τ Hi _ Ii qi) fun uv sj ⟨yv, Hj, Ij, rj, Hz, pz, nz⟩ => ?_
      exact d_setC (X := X.blk sb Hb scope ce fp) hu Ij pz ri rj fun sl Il => close Il nz
end
end Q
/-! Nd5: dict comprehensions and displays, lifted. -/
namespace Q
open PySem PySem.Spec PyProof.Rows L2
/-- an object that is being made, hidden from the abstract heap -/
structure Hdo (G1 : GS) (H1 : Hp) (G : GS) (H : Hp) (D : Addr) (o : HO) : Prop where
  g : G D = none
  s : ¬ G.S D
  h : H D = some o
  k : Kp G1 H1 G H
  n : ¬ imm o
section
variable {T : Tx} {G1 G G' : GS} {H1 H H' : Hp} {D : Addr} {o u : HO}
theorem Hdo.go (x : Hdo G1 H1 G H D o) (k : Kp G H G' H') : Hdo G1 H1 G' H' D o := by
  obtain ⟨a, b⟩ := k.kp D _ x.g x.h
  refine ⟨a, fun z => ?_, b, x.k.trans k, x.n⟩
  rcases k.nw D z with z | z | z | ⟨u, i, z⟩
  · exact x.s z
  · exact z x.g
  · rw [x.h] at z; cases z
  · rw [x.h] at z; cases z; exact x.n i
theorem ks_off (s : ¬ G.S D) : Ks G H G (upd H D o) := fun b u f h => by
  have : b ≠ D := fun z => by subst z; exact s f.1
  exact ⟨f, (upd_ne this).trans h⟩
theorem Hdo.ks (x : Hdo G1 H1 G H D o) : Ks G H G (upd H D u) := ks_off x.s
theorem Hdo.put (x : Hdo G1 H1 G H D o) (h1 : H1 D = none) (n : ¬ imm u) : Hdo G1 H1 G (upd H D u) D u := by
  refine ⟨x.g, x.s, upd_same, ⟨fun b u a c => ?_, x.k.sm, x.k.nw⟩, n⟩
  have : b ≠ D := fun z => by subst z; rw [h1] at c; cases c
  obtain ⟨z1, z2⟩ := x.k.kp b u a c
  exact ⟨z1, (upd_ne this).trans z2⟩
theorem Hdo.rg (x : Hdo G1 H1 G H D o) (r : RG T H G) : RG T (upd H D u) G := by
  refine ⟨fun b u q => ?_, fun b h => upd_there (r.st b h)⟩
  have hb : b ≠ D := fun z => by subst z; have := x.g; rw [show G b = some u from q] at this; cases this
  exact (r b u q).mono x.ks (upd_ne hb)
theorem Hdo.lay (r : RG T H1 G1) (h : H1 D = none) (n : ¬ imm o) : Hdo G1 H1 G1 (upd H1 D o) D o := by
  refine ⟨r.free h, fun z => r.st D z h, upd_same, ⟨fun b u a c => ?_, fun _ z => z, fun _ z => .inl z⟩, n⟩
  have : b ≠ D := fun z => by subst z; rw [h] at c; cases c
  exact ⟨a, (upd_ne this).trans c⟩
/-- the object is done -/
theorem Hdo.fin {m : Bool} {ob : O} {Qa : KA} {Q : VK} (x : Hdo G1 H1 G H D o) (hD : H1 D = none) (rg : RG T H G) (ro : ∀ G' : GS, Ks G H G' H → RO T G' H D ob) (f : new m ob G Qa) (q : LQ T G1 H1 Qa Q) : Q (.ref D) H := by
  have apart : ∀ b u, G1 b = none → H1 b = some u → b ≠ D := fun b u _ c z => by subst z; rw [hD] at c; cases c
  cases m with
  | true =>
    have ks : Ks G H (G.up D ob) H := fun b u f h => by
      have : b ≠ D := fun z => by subst z; exact x.s f.1
      exact ⟨⟨f.1, (up_ne this).trans f.2⟩, h⟩
    refine q _ (G.up D ob) _ _ (f D x.g) (rv_r D) ⟨fun b u z => ?_, rg.st⟩ ⟨fun b u c d => ?_, x.k.sm, x.k.nw⟩
    · have z : up G.G D ob b = some u := z
      by_cases hb : b = D
      · subst hb; rw [up_same] at z; cases z; exact ro _ ks
      · rw [up_ne hb] at z; exact (rg b u z).mono ks rfl
    · obtain ⟨z1, z2⟩ := x.k.kp b u c d
      exact ⟨(up_ne (apart b u c d)).trans z1, z2⟩
  | false =>
    have ks : Ks G H (G.fx D) H := fun b u f h => ⟨⟨.inr f.1, f.2⟩, h⟩
    refine q _ (G.fx D) _ _ f (rv_frz ⟨.inl rfl, x.g⟩ (ro _ ks)) ⟨fun b u z => (rg b u z).mono ks rfl, fun b z => ?_⟩ ⟨x.k.kp, fun b z => .inr (x.k.sm b z), fun b z => ?_⟩
    · rcases z with rfl | z
      · rw [x.h]; simp
      · exact rg.st b z
    · rcases z with rfl | z
      · exact .inr (.inr (.inl hD))
      · exact x.k.nw b z
theorem DRep.mono {p : Addr} {kvs : List (A × A)} (d : DRep T G H p kvs) (k : Ks G H G' H') (e : H' p = H p) : DRep T G' H' p kvs := by
  rcases d with ⟨qs, h, rk⟩ | ⟨qs, h, rk⟩
  · exact .inl ⟨qs, e.trans h, Paired.mapP rk fun _ _ z => ⟨z.1, RV.mono' k z.2⟩⟩
  · exact .inr ⟨qs, e.trans h, Paired.mapP rk fun _ _ z => ⟨z.1, RV.mono' k z.2⟩⟩
theorem DRep.ro {p : Addr} {kvs : List (A × A)} (d : DRep T G H p kvs) : RO T G H p (.dct kvs) := d
/-- a pair is put into a hidden dict -/
theorem dputH {kvs : List (A × A)} {k a : A} {y v : V} (ns : ¬ G.S D) (d : DRep T G H D kvs) (hk : keyOk k kvs = true) (hl : kvs.length < sizeLine) (r : RV T G H k y) (rv : RV T G H a v) :
    ∃ o', PutD H D y v (upd H D o') ∧ DRep T G (upd H D o') D (putA kvs k a) ∧ ¬ imm o' := by
  have ks : ∀ o' : HO, Ks G H G (upd H D o') := fun o' => ks_off ns
  rcases keyOk_cases hk with ⟨q, rfl, hall⟩ | ⟨q, rfl, hq, hall⟩
  · have ey := key_rep r
    subst ey
    rcases d with ⟨qs, e, rk⟩ | ⟨qs, e, rk⟩
    · exact ⟨_, ⟨H, .inl rfl, .k e (by rw [rk.len]; exact hl)⟩, .inl ⟨_, upd_same, RKg.put keyA_inj q (RV.mono' (ks _) rv) (Paired.mapP rk fun _ _ z => ⟨z.1, RV.mono' (ks _) z.2⟩)⟩, id⟩
    · cases rk with
      | nil =>
        refine ⟨_, ⟨_, .inr (.inr ⟨e, rfl⟩), ?_⟩, .inl ⟨_, upd_same, RKg.put keyA_inj q (RV.mono' (ks _) rv) .nil⟩, id⟩
        have := DPut.k (v := v) (k := q) (kvs := []) (H := upd H D (.dK [])) upd_same (by decide)
        rwa [upd_upd] at this
      | cons z _ =>
        obtain ⟨r2, e2⟩ := hall _ List.mem_cons_self
        rw [z.1] at e2
        cases r2 <;> cases e2
  · obtain ⟨b, rfl, eb, _⟩ := keys_rep hq r
    have hb : b ≠ D := fun z => by
      subst z
      rcases d with ⟨qs, e, _⟩ | ⟨qs, e, _⟩ <;> rw [e] at eb <;> cases eb
    rcases d with ⟨qs, e, rk⟩ | ⟨qs, e, rk⟩
    · cases rk with
      | nil =>
        refine ⟨_, ⟨_, .inr (.inl ⟨e, rfl⟩), ?_⟩, .inr ⟨_, upd_same, RKg.put keysA_inj q (RV.mono' (ks _) rv) .nil⟩, id⟩
        have := DPut.t (v := v) (k := q) (kvs := []) (H := upd H D (.dT [])) upd_same (by rw [upd_ne hb]; exact eb) (by decide)
        rwa [upd_upd] at this
      | cons z _ =>
        obtain ⟨r2, e2⟩ := hall _ List.mem_cons_self
        rw [z.1] at e2
        rename_i q0 _ _ _
        obtain ⟨q1, _⟩ := q0
        cases q1 <;> cases e2
    · exact ⟨_, ⟨H, .inl rfl, .t e eb (by rw [rk.len]; exact hl)⟩, .inr ⟨_, upd_same, RKg.put keysA_inj q (RV.mono' (ks _) rv) (Paired.mapP rk fun _ _ z => ⟨z.1, RV.mono' (ks _) z.2⟩)⟩, id⟩
end
/-- the turns of a dict comprehension -/
def dcR (g : GA) (tt : BA) (tk tv : EA) (vs : List Nat) (chk : Gp → Prop) (Qf : List (A × A) → Gp → Prop) : List A → List (A × A) → En → Gp → Prop
  | [], acc, _, G => chk G ∧ Qf acc G
  | x :: xs, acc, ς, G => chk G ∧ g x (wipeA ς vs) G fun ς2 G2 => tt ς2 G2 (fun b G3 => if b = true then tk ς2 G3 (fun y G4 => tv ς2 G4 (fun z G5 => keyOk y acc = true ∧ acc.length < sizeLine ∧ dcR g tt tk tv vs chk Qf xs (putA acc y z) ς G5) (fun _ _ => False)) (fun _ _ => False)
      else dcR g tt tk tv vs chk Qf xs acc ς G3) (fun _ _ => False)
def eDc (m : Bool) (it : IA) (g : GA) (tt : BA) (tk tv : EA) (vs : List Nat) : EA := fun ς G Q X => it ς G (fun xs chk G1 => dcR g tt tk tv vs chk (fun acc G2 => new m (.dct acc) G2 Q) xs [] ς G1) X
theorem dc_lift {mu : Bool} {T : Tx} {W : L2.WX} {it : IA} {g : GA} {tt : BA} {tk tv : EA} {vs : List Nat} {σ : L2.St} {H : Hp} {Q : VK} (h : lE T W (eDc mu it g tt tk tv vs) σ H Q) :
    tDg (lI T W it) (lG T vs g) (lB T W0 tt) (lE T W0 tk) (lE T W0 tv) vs σ H Q := by
  obtain ⟨ς, G, Qa, Xa, rs, rg, h, q, hx⟩ := h
  refine ⟨ς, G, _, Xa, rs, rg, h, fun xs chk G1 J H1 h1 ok rg1 k1 => ?_, hx⟩
  intro D hD
  have hid := Hdo.lay (o := .dK []) rg1 hD id
  refine ⟨fun i m H' => m = xs.length - i ∧ i ≤ xs.length ∧ ∃ acc o, ∃ G' : GS, RG T H' G' ∧ Hdo G1 H1 G' H' D o ∧ DRep T G' H' D acc ∧
      dcR g tt tk tv vs chk (fun acc G2 => new mu (.dct acc) G2 Qa) (xs.drop i) acc ς G', ⟨_, rfl, Nat.zero_le _, [], _, G1, Hid.rg0 rg1 hD, hid, .inl ⟨[], upd_same, .nil⟩, h1⟩, ?_⟩
  rintro i m H' ⟨rfl, hi, acc, o, G', rg', hd, da, f⟩
  by_cases hlt : i < xs.length
  · have hx' : xs[i]? = some xs[i] := by simp [hlt]
    rw [drop_some hx'] at f
    obtain ⟨hchk, f⟩ := f
    refine .inr ⟨ok.go i H' G' hd.k rg' hchk hlt, fun H'' => ∃ acc o, ∃ G'' : GS, RG T H'' G'' ∧ Hdo G1 H1 G'' H'' D o ∧ DRep T G'' H'' D acc ∧
      dcR g tt tk tv vs chk (fun acc G2 => new mu (.dct acc) G2 Qa) (xs.drop (i + 1)) acc ς G'', fun H'' z => ⟨_, by omega, rfl, hlt, z⟩, fun x H2 y => ?_⟩
    obtain ⟨a, e, rv, rg2, k2⟩ := ok.yld i H' G' x H2 hd.k rg' hchk y hlt
    have ea : xs[i] = a := by rw [hx'] at e; exact Option.some.inj e
    subst ea
    have rs2 : RS T G' H2 ς σ := ((rs.mono k1).mono hd.k).mono k2
    refine ⟨_, wipeA ς vs, G', _, rv, rs2.wipe vs, rg2, f, fun ς3 G3 σ3 H3 h3 rs3 rg3 k3 hw => ⟨hw.trans wipe_wipe, ς3, G3, _, _, rs3, rg3, h3, fun b G4 H4 h4 rg4 k4 => ?_, lX_no⟩⟩
    have k24 := (k2.trans k3).trans k4
    have hd4 := hd.go k24
    have da4 : DRep T G4 H4 D acc := da.mono k24.ks (hd4.h.trans hd.h.symm)
    cases b with
    | false =>
      rw [if_neg Bool.false_ne_true] at h4
      exact L2.iteF ⟨acc, o, G4, rg4, hd4, da4, h4⟩
    | true =>
      rw [if_pos rfl] at h4
      refine L2.iteT ⟨ς3, G4, _, _, rs3.mono k4, rg4, h4, fun y G5 v H5 h5 rv5 rg5 k5 => ⟨ς3, G5, _, _, (rs3.mono k4).mono k5, rg5, h5, fun z G6 v6 H6 h6 rv6 rg6 k6 => ?_, lX_no⟩, lX_no⟩
      have hd6 := hd4.go (k5.trans k6)
      have da6 : DRep T G6 H6 D acc := da4.mono (k5.trans k6).ks (hd6.h.trans hd4.h.symm)
      obtain ⟨o', p1, p2, p3⟩ := dputH hd6.s da6 h6.1 h6.2.1 (rv5.mono k6) rv6
      exact ⟨_, p1, putA acc y z, o', G6, hd6.rg rg6, hd6.put hD p3, p2, h6.2.2⟩
  · have e : i = xs.length := by omega
    subst e
    rw [List.drop_length] at f
    exact .inl ⟨ok.stop H' G' hd.k rg' f.1, hd.fin (ob := .dct acc) hD rg' (fun G2 ks => (da.mono ks rfl).ro) f.2 (q.step k1)⟩
/-! displays -/
def prs : List (EA × EA) → En → Gp → (List (A × A) → Gp → Prop) → KX → Prop
  | [], _, G, Q, _ => Q [] G
  | (tk, tv) :: r, ς, G, Q, X => tk ς G (fun x G1 => tv ς G1 (fun y G2 => prs r ς G2 (fun kvs G3 => Q ((x, y) :: kvs) G3) X) X) X
def putsA (acc kvs : List (A × A)) : List (A × A) := kvs.foldl (fun acc p => putA acc p.1 p.2) acc
def eDis (m : Bool) (ps : List (EA × EA)) : EA := fun ς G Q X => prs ps ς G (fun kvs G1 => kvs.length ≤ 15 ∧ (kvs.all fun p => (isK p.1).isSome) = true ∧ new m (.dct (putsA [] kvs)) G1 Q) X
section
variable {X : Cx} {T : Tx} {W : L2.WX}
abbrev RPs (T : Tx) (G : GS) (H : Hp) (kvs : List (A × A)) (vps : List (V × V)) : Prop := Paired (fun (p : A × A) (q : V × V) => RV T G H p.1 q.1 ∧ RV T G H p.2 q.2) kvs vps
theorem prs_lift : ∀ (ps : List (EA × EA)) {ς : En} {σ : L2.St} {G : GS} {H : Hp} {Qa : List (A × A) → Gp → Prop} {Xa : KX} {Q : List (V × V) → Hp → Prop}, RS T G H ς σ → RG T H G → prs ps ς G Qa Xa →
    (∀ kvs (G' : GS) vps H', Qa kvs G' → RPs T G' H' kvs vps → RG T H' G' → Kp G H G' H' → Q vps H') → LX T G H Xa (WE W σ) → tPairs (ps.map fun p => (lE T W p.1, lE T W p.2)) σ H Q
  | [], ς, σ, G, H, Qa, Xa, Q, rs, rg, h, q, hx => q [] G [] H h .nil rg Kp.refl
  | p :: ps, ς, σ, G, H, Qa, Xa, Q, rs, rg, h, q, hx => by
    refine ⟨ς, G, _, Xa, rs, rg, h, fun x G1 v H1 h1 rv rg1 k1 => ⟨ς, G1, _, Xa, rs.mono k1, rg1, h1, fun y G2 w H2 h2 rw rg2 k2 => ?_, hx.step k1⟩, hx⟩
    have k12 := k1.trans k2
    exact prs_lift ps (rs.mono k12) rg2 h2 (fun kvs G3 vps H3 h3 rp rg3 k3 => q _ G3 _ H3 h3 (.cons ⟨(rv.mono k2).mono k3, rw.mono k3⟩ rp) rg3 (k12.trans k3)) (hx.step k12)
theorem keys_lift : ∀ {kvs : List (A × A)} {vps : List (V × V)} {G : GS} {H : Hp}, RPs T G H kvs vps → (kvs.all fun p => (isK p.1).isSome) = true → ∃ qs : List (Key × V), vps = qs.map (fun kv => (kV kv.1, kv.2)) ∧ RKg T G H keyA kvs qs
  | _, _, G, H, .nil, _ => ⟨[], rfl, .nil⟩
  | _, _, G, H, @Paired.cons _ _ _ p q kvs vps r t, h => by
    rw [List.all_cons, Bool.and_eq_true] at h
    obtain ⟨k, e⟩ := Option.isSome_iff_exists.mp h.1
    obtain ⟨qs, rfl, rk⟩ := keys_lift t h.2
    have e1 := isK_eq e
    obtain ⟨p1, p2⟩ := p
    obtain ⟨q1, q2⟩ := q
    simp only at e1 r
    subst e1
    obtain rfl := key_rep r.1
    exact ⟨(k, q2) :: qs, rfl, .cons ⟨rfl, r.2⟩ rk⟩
theorem puts_lift {G : GS} {H : Hp} : ∀ {kvs : List (A × A)} (acc : List (A × A)) {qs : List (Key × V)} (bs : List (Key × V)), RKg T G H keyA kvs qs → RKg T G H keyA acc bs → RKg T G H keyA (putsA acc kvs) (mergeK bs qs)
  | _, _, _, _, .nil, h => h
  | _, acc, _, bs, @Paired.cons _ _ _ p q kvs qs r t, h => by
    obtain ⟨p1, p2⟩ := p
    obtain ⟨q1, q2⟩ := q
    obtain ⟨e, rv⟩ := r
    simp only at e rv
    subst e
    show RKg T G H keyA (putsA (putA acc (keyA q1) p2) kvs) (mergeK (putK bs q1 q2) qs)
    exact puts_lift _ _ t (RKg.put keyA_inj q1 rv h)
theorem p_dis {m : Bool} {pos : Pos} {ks : List (Option Expr)} {vs : List Expr} {ps : List (EA × EA)} (h : PPs X pos ks vs (ps.map fun p => (lE T W p.1, lE T W p.2))) (hall : ks.all (·.isSome) = true) (hl : ks.length = vs.length) (h0 : ks ≠ []) (h15 : ks.length ≤ 15) :
    PE X (.Dict ks vs pos) (lE T W (eDis m ps)) := by
  refine PE.imp (pe_disp h hall hl h0 h15) fun σ H Q ⟨ς, G, Qa, Xa, rs, rg, h, q, hx⟩ => fun D hD => ?_
  have hid := Hdo.lay (o := .dK []) rg hD id
  have rg0 : RG T (upd H D (.dK [])) G := Hid.rg0 rg hD
  refine prs_lift ps (rs.mono hid.k) rg0 h (fun kvs G' vps H' h' rp rg' k' => ?_) (hx.step hid.k)
  have hd := hid.go k'
  obtain ⟨qs, rfl, rk⟩ := keys_lift rp h'.2.1
  refine ⟨hd.h, qs, rfl, by rw [rk.len]; exact h'.1, ?_⟩
  have hd2 := hd.put (u := .dK (mergeK [] qs)) hD id
  refine hd2.fin (ob := .dct (putsA [] kvs)) hD (hd.rg rg') (fun G2 ks => .inl ⟨_, upd_same, ?_⟩) h'.2.2 q
  exact Paired.mapP (puts_lift [] [] rk .nil) fun _ _ z => ⟨z.1, RV.mono' ks (RV.mono' hd.ks z.2)⟩
end
end Q
/-! Nd6: dict(zip(a, b)) of two lists. -/
namespace Q
open PySem PySem.Spec PyProof.Rows L2
def dzA (m : Bool) : PN := fun as G Q => ∃ x y xs ys, as = [x, y] ∧ lstOf G x = some xs ∧ lstOf G y = some ys ∧ (xs.all fun a => (isK a).isSome) = true ∧ new m (.dct (putsA [] (xs.zip ys))) G Q
def eDz (m : Bool) (t : LA) : EA := eBi (dzA m) t
section
variable {X : Cx} {T : Tx} {W : L2.WX} {a b : Expr} {t : LA}
theorem keys_all {G : GS} {H : Hp} : ∀ {xs : List A} {vs : List V}, RVs T G H xs vs → (xs.all fun a => (isK a).isSome) = true → ∃ ks : List Key, xs = ks.map keyA ∧ vs = ks.map kV
  | [], vs, r, _ => ⟨[], rfl, rvs0 r⟩
  | x :: xs, vs, r, h => by
    rw [List.all_cons, Bool.and_eq_true] at h
    simp only [RVs] at r
    obtain ⟨v, vs', rfl, r1, r2⟩ := r
    obtain ⟨k, e⟩ := Option.isSome_iff_exists.mp h.1
    obtain ⟨ks, rfl, rfl⟩ := keys_all r2 h.2
    have e1 := isK_eq e
    subst e1
    exact ⟨k :: ks, rfl, by rw [key_rep r1]; rfl⟩
theorem zip_rk {G : GS} {H : Hp} : ∀ {ks : List Key} {ys : List A} {ws : List V}, RVs T G H ys ws → RKg T G H keyA ((ks.map keyA).zip ys) (ks.zip ws)
  | [], ys, ws, r => .nil
  | k :: ks, [], ws, r => by obtain rfl := rvs0 r; exact .nil
  | k :: ks, y :: ys, ws, r => by
    simp only [RVs] at r
    obtain ⟨w, ws', rfl, r1, r2⟩ := r
    exact .cons ⟨rfl, r1⟩ (zip_rk r2)
theorem zip_kv : ∀ {ks : List Key} {ws : List V} {us : List Value}, Vals ws us → KV (ks.zip ws) (ks.zip us)
  | [], ws, us, r => .nil
  | k :: ks, [], us, r => by cases r; exact .nil
  | k :: ks, w :: ws, us, r => by
    cases r with
    | cons r1 r2 => exact .cons ⟨rfl, r1⟩ (zip_kv r2)
theorem vals_get {vs : List V} {us : List Value} (r : Vals vs us) {i : Nat} {u : Value} (e : us[i]? = some u) : ∃ v, vs[i]? = some v ∧ RelV v u := by
  have hl := r.length
  have hi : i < us.length := (List.getElem?_eq_some_iff.mp e).1
  have e1 : vs[i]? = some (vs[i]'(by omega)) := List.getElem?_eq_getElem _
  obtain ⟨w, e2, r2⟩ := r.get e1
  rw [e] at e2; cases e2
  exact ⟨_, e1, r2⟩
theorem p_dz {m : Bool} {pd pz posd posz : Pos} (hc : X.calm = true) (gd : Gl X "dict") (md : X.mg "dict" = none) (gz : Gl X "zip") (mz : X.mg "zip" = none) (ha : PA X [a, b] (lL T W t))
    (h2 : starEach [a, b] X.env = (false, eval a X.env) :: starEach [b] X.env) (p2 : (backTo posz (starEach [b] X.env)).any (·.1) = false) :
    PE X (.Call (.Name "dict" pd) [.Call (.Name "zip" pz) [a, b] [] posz] [] posd) (lE T W (eDz m t)) := by
  refine ⟨fun pins s σ H Q I h => ?_⟩
  obtain ⟨ς, G, Qa, Xa, rs, rg, h, q, hx⟩ := h
  have hh : lL T W t σ H (fun vs H1 => ∃ as, ∃ G1 : GS, RVs T G1 H1 as vs ∧ RG T H1 G1 ∧ Kp G H G1 H1 ∧ dzA m as G1 Qa) := ⟨ς, G, _, Xa, rs, rg, h, fun as G1 vs H1 h1 rv rg1 k1 => ⟨as, G1, rv, rg1, k1, h1⟩, hx⟩
  refine Call_ (ld_blt I gd md PyProof.Rows.boot_dict (PyProof.Rows.callWith_type1 ?_ rfl rfl))
  show wpAny _ _ (spliced ((false, eval (.Call (.Name "zip" pz) [a, b] [] posz) X.env) :: backTo posd (starEach [] X.env))) _ _ s
  refine Calls.spliced_cons (Call_ (ld_blt I gz mz boot_zip (PyProof.Rows.callWith_type1 (thn (ha.run posz pins s σ H _ I hh) fun us s1 q1 => ?_) h2 p2)))
  obtain ⟨vs, H1, I1, r1, as, G1, rv, rg1, k1, x, y, xs, ys, rfl, e1, e2, hk, hn⟩ := q1
  obtain ⟨v1, v2, rfl, rx, ry⟩ := rvs2 rv
  obtain ⟨u1, u2, rfl, q1, q2⟩ := vals2 r1
  obtain ⟨l1, ws1, rfl, sq1, rv1⟩ := lstOf_rep rg1 e1 rx
  obtain ⟨l2, ws2, rfl, sq2, rv2⟩ := lstOf_rep rg1 e2 ry
  cases q1; cases q2
  obtain ⟨i1, vl1, pl1, z1⟩ := I1.list (.of sq1)
  obtain ⟨i2, vl2, pl2, z2⟩ := I1.list (.of sq2)
  refine call_zip_2 pl1.isList pl2.isList fun h' hz hTI hTO g1 g2 hsz keep => Calls.spliced_nil ?_
  have D := PySem.W.ktu_apart s1.heap.objs.size l1 l2 pl1.lt pl2.lt
  obtain ⟨ks, rfl, rfl⟩ := keys_all rv1 hk
  have lk : i1.length = ks.length := by rw [← vl1.length, List.length_map]
  refine call_dict_pairs (knd := mixKind X.prog X.w) (kvs := ks.zip i2) (s := { s1 with heap := h' }) (PairArg.zip _ _ _ _ _ l1 l2 D i1.toArray i2.toArray) (I1.ok.hd hc)
    ⟨hz, hTI, ⟨_, _, hTO⟩, g1, g2, pl1.isList.at fun o e => keep _ o e, pl2.isList.at fun o e => keep _ o e⟩ ⟨by rw [List.length_zip]; simp [lk], fun i key v he => ?_⟩ (by
      rw [List.length_map] at z1
      simp only [List.size_toArray]
      omega) fun h3 tk dd hk3 => ?_
  · obtain ⟨ek, ev⟩ := he
    rw [List.getElem?_toArray] at ek ev
    obtain ⟨w, ew, rw'⟩ := vals_get vl1 ek
    rw [List.getElem?_map] at ew
    cases ekk : ks[i]? with
    | none => rw [ekk] at ew; cases ew
    | some k =>
      rw [ekk] at ew
      cases ew
      exact ⟨k, by rw [List.getElem?_zip_eq_some]; exact ⟨ekk, ev⟩, kV_is rw'⟩
  · have old : ∀ b o, s1.heap.get? b = some o → h3.get? b = some o := fun b o e => by
      refine hk3 b o (fun hm => ?_) (keep b o e)
      have lt : b < s1.heap.objs.size := Heap.lt_size e
      simp only [List.mem_cons, List.not_mem_nil, or_false] at hm
      rcases hm with e | e | e | e <;> (rw [e] at lt; first | exact absurd lt (Nat.not_lt.mpr (Nat.le_add_right _ _)) | exact absurd lt (Nat.lt_irrefl _))
    have kv : KV (mergeK [] (ks.zip ws2)) (merged [] (ks.zip i2)) := KV.merge (zip_kv vl2) .nil
    have hsz' : s1.heap.objs.size ≤ h'.objs.size := by omega
    have hl : (mergeK [] (ks.zip ws2)).length ≤ sizeLine := by
      have z3 := length_mergeK (ks.zip ws2) []
      rw [List.length_nil, List.length_zip] at z3
      rw [List.length_map] at z1
      omega
    have fresh := I1.hok.fresh hsz'
    have nd : (h'.objs.size == sysModules) = false := by
      exact beq_eq_false_iff_ne.mpr (Nat.ne_of_gt (Nat.lt_of_lt_of_le I1.big hsz'))
    exact ⟨.ref h'.objs.size, upd H1 h'.objs.size (.dK (mergeK [] (ks.zip ws2))), I1.laid (t' := tk) old hsz' ⟨hl, nd, _, kv, dd⟩, rfl,
      new_obj (o := .dct (putsA [] ((ks.map keyA).zip ys))) rg1 (fun G' k => .inl ⟨_, upd_same, Paired.mapP (puts_lift [] [] (zip_rk rv2) .nil) fun _ _ z => ⟨z.1, z.2.mono k⟩⟩) hn (q.step k1) fresh⟩
end
end Q
/-! Ns1: sets of rows of ints and texts: looking for a row. -/
namespace Q
open PySem PySem.Spec PyProof.Rows L2
abbrev KS := List L2.Key
abbrev hsh (P : Program) (w : World) (k : KS) : Int := tupleKeyHash (mixKind P w) k
abbrev IsR (P : Program) (w : World) (h : Heap) (k : KS) (b : Addr) : Prop := IsTupleKey (mixKind P w) h k b
section
variable {P : Program} {w : World} {A : Around} {E : Value → Shared → Prop} {s : Shared}
def Atm (v : Value) : Prop := (∃ i t, v = Value.int i t) ∨ ∃ z t, v = Value.str z t
theorem atms {k : KS} {vs : List Value} (h : ItemsAre (mixKind P w) k vs) : ∀ v ∈ vs, Atm v := by
  induction h with
  | nil => exact fun v m => nomatch m
  | cons h1 _ ih =>
    intro v m
    rcases List.mem_cons.mp m with rfl | m
    · rcases keyIs_shape h1 with ⟨i, t, _, e⟩ | ⟨z, t, _, e⟩
      · exact .inl ⟨i, t, e⟩
      · exact .inr ⟨z, t, e⟩
    · exact ih v m
theorem atm_cls {v : Value} (h : Atm v) (n : Nat) : ofAClassStatement n v = pure false := by
  rcases h with ⟨i, t, rfl⟩ | ⟨z, t, rfl⟩ <;> cases n <;> rfl
theorem atm_hash {v : Value} (h : Atm v) (n : Nat) : ∃ r, hashByValue n v = pure r := by
  rcases h with ⟨i, t, rfl⟩ | ⟨z, t, rfl⟩ <;> cases n <;> exact ⟨_, rfl⟩
theorem row_cls {k : KS} {b : Addr} {Q : Bool → Shared → Prop} (hk : IsR P w s.heap k b) (q : Q false s) : wpAny (model P w) A (ofAClassStatement 8 (.ref b)) Q E s := by
  have ty := hk.typeIs
  obtain ⟨o, its, m, ho, _, hd, hi⟩ := hk
  have tt : (("tuple" : String) == "tuple") = true := by decide
  unfold ofAClassStatement
  refine wpAny_bind (wpAny_typeOf ty ?_)
  dsimp only
  simp only [tt, if_true, Bool.not_true, Bool.false_eq_true, if_false]
  try refine wpAny_bind (wpAny_pure ?_)
  try simp only [Bool.not_true, Bool.false_eq_true, if_false]
  refine wpAny_bind (m := seqItems? (.ref b)) (wpAny_seqItems ho hd ?_)
  dsimp only
  refine wpAny_bind (m := forIn its _ _) ?_
  rw [← Array.forIn_toList]
  refine wpAny_forIn_list _ (fun left r t' => r.1 = none ∧ t' = s ∧ ∀ v ∈ left, Atm v) _ (fun v left r t' ⟨h1, h2, h3⟩ => ?_) (fun r t' ⟨h1, h2, _⟩ => ?_) _ _ ⟨rfl, rfl, atms hi⟩
  · subst h2
    rw [atm_cls (h3 v List.mem_cons_self)]
    refine wpAny_bind (wpAny_pure ?_)
    simp only [Bool.false_eq_true, if_false]
    exact wpAny_pure ⟨rfl, rfl, fun u m => h3 u (List.mem_cons_of_mem _ m)⟩
  · subst h2
    obtain ⟨r1, r2⟩ := r
    simp only at h1
    subst h1
    exact wpAny_pure q
/-- whether a row's hash is one by value: it answers -/
theorem row_hash {k : KS} {b : Addr} {Q : Bool → Shared → Prop} (hk : IsR P w s.heap k b) (q : ∀ r, Q r s) : wpAny (model P w) A (hashByValue 8 (.ref b)) Q E s := by
  have ty := hk.typeIs
  obtain ⟨o, its, m, ho, _, hd, hi⟩ := hk
  unfold hashByValue
  refine wpAny_bind (wpAny_specialOf ty F.slot_tuple_hash.lookup ?_)
  refine wpAny_bind (m := seqItems? (.ref b)) (wpAny_seqItems ho hd ?_)
  refine wpAny_bind (m := forIn _ _ _) ?_
  show wpAny _ _ (forIn its _ _) _ _ s
  rw [← Array.forIn_toList]
  refine wpAny_forIn_list _ (fun left r t' => r.1 = none ∧ t' = s ∧ ∀ v ∈ left, Atm v) _ (fun v left r t' ⟨h1, h2, h3⟩ => ?_) (fun r t' ⟨h1, h2, _⟩ => ?_) _ _ ⟨rfl, rfl, atms hi⟩
  · subst h2
    obtain ⟨x, e⟩ := atm_hash (h3 v List.mem_cons_self) 7
    rw [e]
    refine wpAny_bind (wpAny_pure ?_)
    cases x
    · simp only [Bool.not_false, if_true]
      exact wpAny_pure (wpAny_pure (q false))
    · simp only [Bool.not_true, Bool.false_eq_true, if_false]
      exact wpAny_pure ⟨rfl, rfl, fun u m => h3 u (List.mem_cons_of_mem _ m)⟩
  · subst h2
    obtain ⟨r1, r2⟩ := r
    simp only at h1
    subst h1
    exact wpAny_pure (q true)
theorem row_seen {k : KS} {b : Addr} {Q : Bool → Shared → Prop} (hk : IsR P w s.heap k b) {ys : List Value} (hy : ∀ y ∈ ys, ∃ k' c, y = Value.ref c ∧ IsR P w s.heap k' c) (q : Q false s) :
    wpAny (model P w) A (searchCouldBeSeen (.ref b) ys) Q E s := by
  unfold searchCouldBeSeen
  refine wpAny_bind (wpAny_forIn_list _ (fun left r t' => r.1 = none ∧ t' = s ∧ ∀ y ∈ left, ∃ k' c, y = Value.ref c ∧ IsR P w s.heap k' c) _ (fun v left r t' ⟨h1, h2, h3⟩ => ?_) (fun r t' ⟨h1, h2, _⟩ => ?_) _ _ ⟨rfl, rfl, hy⟩)
  · subst h2
    obtain ⟨k', c, rfl, hc⟩ := h3 v List.mem_cons_self
    have more : ∀ y ∈ left, ∃ k' c, y = Value.ref c ∧ IsR P w t'.heap k' c := fun u m => h3 u (List.mem_cons_of_mem _ m)
    dsimp only
    refine wpAny_ite_split (fun _ => wpAny_pure ⟨rfl, rfl, more⟩) fun _ => ?_
    refine wpAny_bind (wpAny_eqIsQuiet_tuple hk ?_)
    simp only [Bool.not_true, Bool.false_eq_true, if_false]
    refine wpAny_bind (wpAny_eqIsQuiet_tuple hc ?_)
    simp only [Bool.not_true, Bool.false_eq_true, if_false]
    refine wpAny_bind (row_cls hk ?_)
    simp only [Bool.false_eq_true, if_false]
    refine wpAny_bind (row_cls hc ?_)
    simp only [Bool.false_eq_true, if_false]
    exact wpAny_pure ⟨rfl, rfl, more⟩
  · subst h2
    obtain ⟨r1, r2⟩ := r
    simp only at h1
    subst h1
    exact wpAny_pure q
/-- the set at a: its rows and where they lie, in the table's order -/
structure MS (P : Program) (w : World) (h : Heap) (a : Addr) (L : List (KS × Addr)) (es : Array (Int × Value)) (ep : Nat) (t : SetTable) : Prop where
  ob : ∃ o, h.get? a = some o ∧ o.ExactSet ∧ o.data = .set es ep t
  en : es.toList = L.map fun p => (hsh P w p.1, Value.ref p.2)
  tb : TabOk t (L.map fun p => hsh P w p.1)
  nd : (L.map (·.1)).Nodup
  is : ∀ p ∈ L, IsR P w h p.1 p.2
  ld : w.params.followText "set-order" = true ∨ t.led = true
  rm : L.length * 5 < t.mask * 3
  fw : L.length < 64
variable {a : Addr} {L : List (KS × Addr)} {es : Array (Int × Value)} {ep : Nat} {t : SetTable}
theorem MS.len (R : MS P w s.heap a L es ep t) : es.size = L.length := by
  have := congrArg List.length R.en
  rwa [List.length_map, Array.length_toList] at this
theorem MS.psz (R : MS P w s.heap a L es ep t) : t.place.toList.length = L.length := by
  have := R.tb.sz
  rwa [List.length_map, ← Array.length_toList] at this
theorem MS.fit (R : MS P w s.heap a L es ep t) : t.fits es.size = true := by
  have h1 := R.psz
  rw [Array.length_toList] at h1
  have h2 := R.len
  have h3 := R.rm
  simp only [SetTable.fits, SetTable.fill, R.tb.dm, Bool.and_eq_true, beq_iff_eq, decide_eq_true_eq, List.size_toArray, List.length_nil]
  omega
theorem MS.at (R : MS P w s.heap a L es ep t) {i : Nat} {p : KS × Addr} (e : L[i]? = some p) : es[i]? = some (hsh P w p.1, Value.ref p.2) := by
  rw [← Array.getElem?_toList, R.en, List.getElem?_map, e]; rfl
theorem MS.odd (R : MS P w s.heap a L es ep t) : ¬ t.gaveWay = true := by
  simp only [SetTable.gaveWay, mask_odd R.tb.mok]; decide
abbrev stp (m : Nat) (h : Int) (c : Nat) : SetTable.Probe := nth m (runAt m (SetTable.bits h % (m + 1)) (SetTable.bits h)) c
theorem nth_dm (m : Nat) : ∀ (n : Nat) (p : SetTable.Probe), p.dummy = none → (nth m p n).dummy = none
  | 0, p, h => h
  | n + 1, p, h => nth_dm m n (adv m p) (by unfold adv; split <;> exact h)
/-- the search, from step c of the way on: k is met behind c, if it is there -/
theorem look (R : MS P w s.heap a L es ep t) {x : Addr} {k : KS} (hx : IsR P w s.heap k x) (hu : A.units < cLine) {K : Nat} (hK : K < 10 * SetTable.turns t.mask) (free : way t.mask (hsh P w k) K ∉ t.place.toList)
    (full : ∀ c, c < K → way t.mask (hsh P w k) c ∈ t.place.toList) {Q : SetFound → Shared → Prop} (yes : k ∈ L.map (·.1) → Q (.there none) s) (no : k ∉ L.map (·.1) → Q (.free (way t.mask (hsh P w k) K) false) s) :
    ∀ (f c : Nat) (from_ : Option SetTable.Probe), from_.getD (t.probeStart (hsh P w k)) = stp t.mask (hsh P w k) c → c ≤ K → K - c < f →
      (∀ (i : Nat) p, L[i]? = some p → p.1 = k → ∃ d, c ≤ d ∧ d < K ∧ t.place.toList[i]? = some (way t.mask (hsh P w k) d)) → wpAny (model P w) A (setSearchFrom a (.ref x) (hsh P w k) true f from_) Q E s
  | 0, c, from_, _, _, hf, _ => absurd hf (Nat.not_lt_zero _)
  | f + 1, c, from_, hfrom, hc, hf, ahead => by
    obtain ⟨o, ho, hex, hd⟩ := R.ob
    have tail : ∀ q, nth t.mask (stp t.mask (hsh P w k) c) q = stp t.mask (hsh P w k) (c + q) := fun q => (nth_add t.mask c _ q).symm
    have tj : ∀ q, (nth t.mask (stp t.mask (hsh P w k) c) q).j = way t.mask (hsh P w k) (c + q) := fun q => congrArg SetTable.Probe.j (tail q)
    have hh : ∀ (i : Nat) p, L[i]? = some p → (es[i]?.map (·.1)).getD 0 = hsh P w p.1 := fun i p e => by rw [R.at e]; rfl
    have eK : c + (K - c) = K := by omega
    have S := go_spec t R.tb.ris R.tb.dm (fun i => (es[i]?.map (·.1)).getD 0) (hsh P w k) (10 * SetTable.turns t.mask) (K - c) (stp t.mask (hsh P w k) c) (nth_dm _ _ _ rfl) (by omega)
      (fun q hq => by rw [tj]; exact full _ (by omega)) (by rw [tj, eK]; exact free)
    -- where a row of key k lies, its hash is met
    have met : ∀ {n : Nat}, (∀ (q i' : Nat), q < n → t.place.toList[i']? = some (nth t.mask (stp t.mask (hsh P w k) c) q).j → (es[i']?.map (·.1)).getD 0 ≠ hsh P w k) → ∀ (i : Nat) (p : KS × Addr), L[i]? = some p → p.1 = k → ∀ d, c ≤ d → d < c + n → t.place.toList[i]? ≠ some (way t.mask (hsh P w k) d) := by
      intro n hn i p e ek d d0 d1 hp
      refine hn (d - c) i (by omega) (by rw [tj, show c + (d - c) = d by omega]; exact hp) ?_
      rw [hh i p e, ek]
    rw [setSearchFrom_succ]
    refine wpAny_bind (wpAny_setState_of ho hd R.fit ?_)
    dsimp only
    refine wp_if_neg R.odd ?_
    try refine wpAny_bind (wpAny_pure ?_)
    rw [hfrom]
    rcases S with ⟨q, i, hq, hi, heq, hno, hgo⟩ | ⟨hno, hgo⟩
    · rw [show t.probe (fun i => (es[i]?.map (·.1)).getD 0) (hsh P w k) (stp t.mask (hsh P w k) c) = _ from hgo]
      rw [tj] at hi
      dsimp only
      rw [tj, tail]
      have hil : i < L.length := by rw [← R.psz]; exact (List.getElem?_eq_some_iff.mp hi).1
      obtain ⟨p, hp⟩ : ∃ p, L[i]? = some p := ⟨_, List.getElem?_eq_getElem hil⟩
      have pm := List.mem_of_getElem? hp
      have slot : t.slot (way t.mask (hsh P w k) (c + q)) = .live i := slot_live R.tb.ris hi
      have core : wpAny (model P w) A (searchRest a (.ref x) (hsh P w k) true f es t (way t.mask (hsh P w k) (c + q)) i (stp t.mask (hsh P w k) (c + (q + 1)))) Q E s := by
        unfold searchRest
        rw [R.at hp]
        dsimp only
        refine wpAny_bind (wpAny_holding (wpAny_eqBool_tuple hu (R.is p pm) hx (wpAny_bind (wpAny_setState_of ho hd R.fit ?_))))
        dsimp only
        by_cases same : p.1 = k
        · exact wp_if_pos (by simp [same]) (wpAny_pure (yes (List.mem_map.mpr ⟨p, pm, same⟩)))
        · refine wp_if_neg (by simp [same]) ?_
          try refine wpAny_bind (wpAny_pure ?_)
          rw [sameMem]
          dsimp only
          simp only [if_true, slot, R.at hp]
          refine wpAny_bind (wpAny_isSame_ref_self (wpAny_bind (wpAny_pure ?_)))
          simp only [if_true]
          refine wp_if_neg (by simp [same]) ?_
          refine look R hx hu hK free full yes no f (c + (q + 1)) _ rfl (by omega) (by omega) fun i' p' e' k' => ?_
          obtain ⟨d, d0, d1, hd'⟩ := ahead i' p' e' k'
          refine ⟨d, ?_, d1, hd'⟩
          rcases Nat.lt_trichotomy d (c + q) with z | z | z
          · exact absurd hd' (met (n := q) hno i' p' e' k' d d0 z)
          · rw [z] at hd'
            have s2 := slot_live R.tb.ris hd'
            rw [slot] at s2
            injection s2 with s2
            rw [← s2, hp] at e'
            cases e'
            exact absurd k' same
          · omega
      by_cases led : t.led = true
      · refine wp_if_neg (by simp [led]) ?_
        try refine wpAny_bind (wpAny_pure ?_)
        exact core
      · refine wp_if_pos (by simp [led]) (wpAny_bind (row_seen hx (fun y hy => ?_) ?_))
        · obtain ⟨e, he, rfl⟩ := List.mem_map.mp hy
          have he1 : e ∈ es.toList := by
            rw [Array.toList_filter] at he
            exact (List.mem_filter.mp he).1
          rw [R.en] at he1
          obtain ⟨p', mp, rfl⟩ := List.mem_map.mp he1
          exact ⟨p'.1, p'.2, rfl, R.is p' mp⟩
        · refine wp_if_neg (by decide) ?_
          try refine wpAny_bind (wpAny_pure ?_)
          exact core
    · rw [show t.probe (fun i => (es[i]?.map (·.1)).getD 0) (hsh P w k) (stp t.mask (hsh P w k) c) = _ from hgo]
      dsimp only
      rw [tj, eK]
      refine wpAny_pure (no fun hm => ?_)
      obtain ⟨p, pm, pk⟩ := List.mem_map.mp hm
      obtain ⟨i, hi, e⟩ := List.getElem_of_mem pm
      have e' : L[i]? = some p := by rw [List.getElem?_eq_getElem hi, e]
      obtain ⟨d, d0, d1, hp⟩ := ahead i p e' pk
      exact met (n := K - c) hno i p e' pk d d0 (by omega) hp
/-- the search that adding asks for -/
theorem look_all (R : MS P w s.heap a L es ep t) {x : Addr} {k : KS} (hx : IsR P w s.heap k x) (hu : A.units < cLine) {Q : SetFound → Shared → Prop} (yes : k ∈ L.map (·.1) → Q (.there none) s)
    (no : ∀ K, k ∉ L.map (·.1) → way t.mask (hsh P w k) K ∉ t.place.toList → (∀ c, c < K → way t.mask (hsh P w k) c ∈ t.place.toList) → Q (.free (way t.mask (hsh P w k) K) false) s) :
    wpAny (model P w) A (setSearch a (.ref x) (hsh P w k) true) Q E s := by
  have hr := R.rm
  obtain ⟨K, h1, h2, h3⟩ := R.tb.first (by rw [List.length_map]; omega) (hsh P w k)
  have small : 10 * SetTable.turns t.mask ≤ 1420 := by
    unfold SetTable.turns
    rcases R.tb.mok with e | e | e <;> omega
  unfold setSearch
  refine look R hx hu h1 h2 h3 yes (fun n => no K n h2 h3) 100000 0 none rfl (Nat.zero_le _) (by omega) fun i p e pk => ?_
  have hi : i < t.place.toList.length := by rw [R.psz]; exact (List.getElem?_eq_some_iff.mp e).1
  obtain ⟨d, d1, d2⟩ := R.tb.before (h := hsh P w k) h2 (by rw [List.getElem?_map, e, ← pk]; rfl) (List.getElem?_eq_getElem hi)
  exact ⟨d, Nat.zero_le _, d1, by rw [List.getElem?_eq_getElem hi, d2]⟩
end
end Q
/-! Ns2: sets of rows: a row is put in. -/
namespace Q
open PySem PySem.Spec PyProof.Rows L2
theorem perm_back {α β : Type} (f : α → β) {l : List α} {m : List β} (h : m.Perm (l.map f)) : ∃ l' : List α, m = l'.map f ∧ l'.Perm l := by
  generalize hx : l.map f = x at h
  induction h generalizing l with
  | nil => exact ⟨[], rfl, by cases l <;> simp_all⟩
  | cons y _ ih =>
    cases l with
    | nil => simp at hx
    | cons z l =>
      simp only [List.map_cons, List.cons.injEq] at hx
      obtain ⟨l', e, p⟩ := ih hx.2
      exact ⟨z :: l', by rw [e, ← hx.1]; rfl, p.cons z⟩
  | swap y z _ =>
    match l, hx with
    | u :: v :: l, hx =>
      simp only [List.map_cons, List.cons.injEq] at hx
      exact ⟨v :: u :: l, by simp [hx.1, hx.2.1, hx.2.2], List.Perm.swap ..⟩
  | trans _ _ ih1 ih2 =>
    obtain ⟨l2, e2, p2⟩ := ih2 hx
    obtain ⟨l1, e1, p1⟩ := ih1 e2.symm
    exact ⟨l1, e1, p1.trans p2⟩
theorem perm_ins' {α : Type} (xs : List α) (i : Nat) (y : α) : (xs.take i ++ y :: xs.drop i).Perm (y :: xs) := by
  have h : (xs.take i ++ y :: xs.drop i).Perm (y :: (xs.take i ++ xs.drop i)) := List.perm_middle
  rwa [List.take_append_drop] at h
section
variable {P : Program} {w : World} {A : Around} {E : Value → Shared → Prop} {s : Shared} {a : Addr} {es : Array (Int × Value)} {ep : Nat} {t : SetTable}
/-- a set's table, whatever its keys -/
structure Tbl (w : World) (h : Heap) (a : Addr) (es : Array (Int × Value)) (ep : Nat) (t : SetTable) : Prop where
  ob : ∃ o, h.get? a = some o ∧ o.ExactSet ∧ o.data = .set es ep t
  tb : TabOk t (es.toList.map (·.1))
  ld : w.params.followText "set-order" = true ∨ t.led = true
  rm : es.size * 5 < t.mask * 3
  fw : es.size < 64
theorem fits_of (p : t.place.size = es.size) (d : t.dummies = #[]) (l : es.size ≤ t.mask) : t.fits es.size = true := by
  simp only [SetTable.fits, SetTable.fill, d, Bool.and_eq_true, beq_iff_eq, decide_eq_true_eq, List.size_toArray, List.length_nil]
  omega
theorem Tbl.psz (R : Tbl w s.heap a es ep t) : t.place.size = es.size := by
  have := R.tb.sz
  rwa [List.length_map, Array.length_toList] at this
theorem Tbl.fit (R : Tbl w s.heap a es ep t) : t.fits es.size = true := fits_of R.psz R.tb.dm (by have := R.rm; omega)
/-- the table laid anew -/
theorem relayT {o : Obj} (ho : s.heap.get? a = some o) (hex : o.ExactSet) (hd : o.data = .set es ep t) (p : t.place.size = es.size) (dm : t.dummies = #[]) (le : es.size ≤ t.mask) (ld : w.params.followText "set-order" = true ∨ t.led = true) (fw : es.size < 64)
    {wanted M : Nat} (hw : SetTable.sizeAbove wanted - 1 = M) (hM : MaskOk M) (h128 : SetTable.sizeAbove wanted ≤ 128) (rm : es.size * 5 < M * 3) {Q : Unit → Shared → Prop}
    (q : ∀ h' es' ep' t', Heap.SameBut a s.heap h' → Tbl w h' a es' ep' t' → es'.toList.Perm es.toList → Q () { s with heap := h' }) : wpAny (model P w) A (setRelay a wanted) Q E s := by
  have hz : sizeLine = 16777216 := by decide
  obtain ⟨t', order, e, hp, T, em, el, _, ed⟩ := relaid_ok t (hs := es.map (·.1)) (wanted := wanted) hw hM (by rw [Array.size_map]; omega)
  rw [Array.size_map] at hp
  have all : ∀ i ∈ order.toList, ∃ x, es[i]? = some x := fun i m => by
    have : i < es.size := List.mem_range.mp (hp.mem_iff.mp m)
    exact ⟨es[i], Array.getElem?_eq_getElem this⟩
  have el2 : (order.filterMap (es[·]?)).toList = order.toList.filterMap (fun i => es.toList[i]?) := by
    rw [Array.toList_filterMap]
    simp only [Array.getElem?_toList]
  have pm : (order.filterMap (es[·]?)).toList.Perm es.toList := by
    rw [el2]
    have h1 := hp.filterMap (fun i => es.toList[i]?)
    rw [← Array.length_toList, List.filterMap_getElem?_range_length] at h1
    exact h1
  have hs : (order.filterMap (es[·]?)).toList.map (·.1) = order.toList.map fun i => (es.map (·.1)).getD i 0 := by
    rw [el2]
    generalize order.toList = l at all
    clear T hp pm el2
    induction l with
    | nil => rfl
    | cons i l ih =>
      obtain ⟨x, ex⟩ := all i List.mem_cons_self
      have e1 : es.toList[i]? = some x := by rw [Array.getElem?_toList]; exact ex
      have e2 : (es.map (·.1)).getD i 0 = x.1 := by simp [Array.getD_eq_getD_getElem?, ex]
      rw [List.filterMap_cons_some e1, List.map_cons, List.map_cons, ih fun j m => all j (List.mem_cons_of_mem _ m), e2]
  rw [← hs] at T
  have sz : (order.filterMap (es[·]?)).size = es.size := by rw [← Array.length_toList, pm.length_eq, Array.length_toList]
  rw [setRelay_eq]
  refine wpAny_bind (wpAny_setState_of ho hd (fits_of p dm le) ?_)
  dsimp only
  refine wp_if_neg (by omega) ?_
  try refine wpAny_bind (wpAny_pure ?_)
  rw [e]
  dsimp only
  refine wpAny_bind (wp_if_neg (by rw [sz]; simp) ?_)
  try refine wpAny_bind (wpAny_pure ?_)
  refine wpAny_pure ?_
  dsimp only
  refine wpAny_storeSet_of ho hd ?_ (by omega)
  exact q _ _ _ t' (Heap.SameBut.update ..) ⟨⟨_, store_at ho hd, ⟨hex.1, hex.2.1, hex.2.2⟩, rfl⟩, T, by rw [el]; exact ld, by rw [sz, em]; exact rm, by rw [sz]; exact fw⟩ pm
/-- the end of adding: (h, x) is put where the way from h meets the first free slot -/
def putIn (a : Addr) (x : Value) (h : Int) (slot : Nat) (es : Array (Int × Value)) (t : SetTable) : Sem Bool := do
  let (t, p) := t.put slot
  let byValue ← if t.plain then hashByValue 8 x else pure true
  let t := if byValue then t else { t with plain := false }
  storeSet a (SetTable.insertAt es p (h, x)) t
  if !false && t.tooFull then setRelay a (SetTable.grown (es.size + 1))
  return true
theorem TabOk.off {t : SetTable} {hs : List Int} (T : TabOk t hs) : TabOk { t with plain := false } hs := ⟨T.ris, T.dm, T.sz, T.mok, T.bd, T.reach⟩
theorem putIn_ok (R : Tbl w s.heap a es ep t) {x : Value} {h : Int} {K : Nat} (fw : es.size + 1 < 64) (free : way t.mask h K ∉ t.place.toList) (full : ∀ c, c < K → way t.mask h c ∈ t.place.toList)
    (hb : ∀ Q' : Bool → Shared → Prop, (∀ r, Q' r s) → wpAny (model P w) A (hashByValue 8 x) Q' E s) {Q : Bool → Shared → Prop}
    (q : ∀ h' es' ep' t', Heap.SameBut a s.heap h' → Tbl w h' a es' ep' t' → es'.toList.Perm ((h, x) :: es.toList) → Q true { s with heap := h' }) : wpAny (model P w) A (putIn a x h (way t.mask h K) es t) Q E s := by
  have hz : sizeLine = 16777216 := by decide
  obtain ⟨o, ho, hex, hd⟩ := R.ob
  obtain ⟨q1, q2, q3, q4, q5, _, _, _, q9⟩ := R.tb.put free full
  have hrm := R.rm
  unfold putIn
  generalize hpt : t.put (way t.mask h K) = pt at q1 q3 q4 q5 q9 ⊢
  obtain ⟨t1, p⟩ := pt
  dsimp only at q1 q3 q4 q5 q9 ⊢
  rw [← q1] at q2 q3
  rw [List.length_map, Array.length_toList] at q9
  have ins : (SetTable.insertAt es p (h, x)).toList = es.toList.take p ++ (h, x) :: es.toList.drop p := SetTable.toList_insertAt _ _ _
  have pm : (SetTable.insertAt es p (h, x)).toList.Perm ((h, x) :: es.toList) := by rw [ins]; exact perm_ins' _ _ _
  have hs1 : (SetTable.insertAt es p (h, x)).toList.map (·.1) = (es.toList.map (·.1)).take p ++ h :: (es.toList.map (·.1)).drop p := by
    rw [ins, List.map_append, List.map_cons, List.map_take, List.map_drop]
  have sz : (SetTable.insertAt es p (h, x)).size = es.size + 1 := by rw [← Array.length_toList, pm.length_eq, List.length_cons, Array.length_toList]
  rw [← hs1] at q3
  generalize SetTable.insertAt es p (h, x) = es1 at pm sz q3 ⊢
  have rest : ∀ t2 : SetTable, TabOk t2 (es1.toList.map (·.1)) → t2.mask = t.mask → t2.led = t.led → t2.fill = es.size + 1 →
      wpAny (model P w) A (do
        storeSet a es1 t2
        if !false && t2.tooFull then setRelay a (SetTable.grown (es.size + 1))
        return true : Sem Bool) Q E s := by
    intro t2 T em el ef
    refine wpAny_bind (wpAny_storeSet_of ho hd ?_ (by omega))
    have sb : Heap.SameBut a s.heap (s.heap.update a (Obj.putSet es1 t2)) := Heap.SameBut.update ..
    have ho1 := store_at (es' := es1) (t' := t2) ho hd
    generalize s.heap.update a (Obj.putSet es1 t2) = h1 at sb ho1 ⊢
    have ld1 : w.params.followText "set-order" = true ∨ t2.led = true := by rw [el]; exact R.ld
    have psz1 : t2.place.size = es1.size := by have := T.sz; rwa [List.length_map, Array.length_toList] at this
    by_cases tf : t2.tooFull = true
    · have big := tf
      unfold SetTable.tooFull at big
      rw [decide_eq_true_eq, ef, em] at big
      have go : ∀ M, SetTable.sizeAbove (SetTable.grown (es.size + 1)) - 1 = M → MaskOk M → SetTable.sizeAbove (SetTable.grown (es.size + 1)) ≤ 128 → es1.size * 5 < M * 3 →
          wpAny (model P w) A (do
            if !false && t2.tooFull then setRelay a (SetTable.grown (es.size + 1))
            return true : Sem Bool) Q E { s with heap := h1 } := fun M a1 a2 a3 a4 => by
        rw [tf]
        refine wpAny_bind (relayT (s := { s with heap := h1 }) ho1 ⟨hex.1, hex.2.1, hex.2.2⟩ rfl psz1 T.dm (by rw [em]; omega) ld1 (by omega) a1 a2 a3 a4 fun h2 es2 ep2 t2' sb2 R2 pm2 => ?_)
        exact wpAny_pure (q h2 es2 ep2 t2' (sb.trans sb2) R2 (pm2.trans pm))
      rcases R.tb.mok with e | e | e
      · have e2 : es.size = 4 := by rw [e] at hrm big; omega
        exact go 31 (by rw [e2, size_20]) (.inr (.inl rfl)) (by rw [e2, size_20]; decide) (by omega)
      · have e2 : es.size = 18 := by rw [e] at hrm big; omega
        exact go 127 (by rw [e2, size_76]) (.inr (.inr rfl)) (by rw [e2, size_76]; decide) (by omega)
      · rw [e] at big; omega
    · have small := tf
      unfold SetTable.tooFull at small
      rw [decide_eq_true_eq, ef, em] at small
      have ff : (!false && t2.tooFull) = false := by simp [tf]
      rw [ff]
      refine wpAny_bind (wpAny_pure (wpAny_pure (q h1 es1 (ep + 1) t2 sb ⟨⟨_, ho1, ⟨hex.1, hex.2.1, hex.2.2⟩, rfl⟩, T, ld1, by rw [em]; omega, by omega⟩ pm)))
  cases hpl : t1.plain with
  | false =>
    refine wpAny_bind (wpAny_pure ?_)
    exact rest t1 q3 q4 q5 q9
  | true =>
    refine wpAny_bind (hb _ fun r => ?_)
    cases r
    · exact rest { t1 with plain := false } (TabOk.off q3) q4 q5 q9
    · exact rest t1 q3 q4 q5 q9
end
end Q
/-! Ns3: set(a list). -/
namespace Q
open PySem PySem.Spec PyProof.Rows L2
section
variable {P : Program} {w : World} {A : Around} {E : Value → Shared → Prop} {s : Shared}
abbrev Old (h0 h : Heap) : Prop := ∀ b o, h0.get? b = some o → h.get? b = some o
/-- what is put into the set at S, item by item: B i, once the first i are in -/
structure Puts (P : Program) (w : World) (A : Around) (h0 : Heap) (S : Addr) (n : Nat) (Pv : Nat → Value → Prop) (B : Nat → Heap → Prop) : Prop where
  keep : ∀ i h h', B i h → (∀ o, h.get? S = some o → h'.get? S = some o) → Old h0 h' → B i h'
  step : ∀ i v (s : Shared) (Q : Bool → Shared → Prop) (E : Value → Shared → Prop), i < n → Pv i v → Old h0 s.heap → B i s.heap →
    (∀ r h' tk, Heap.SameBut S s.heap h' → B (i + 1) h' → Q r { s with heap := h', toks := tk }) → wpAny (model P w) A (setAdd S v) Q E s
theorem upd_loop {I S : Addr} {fp wr : List Addr} {n : Nat} {Pv : Nat → Value → Prop} {St B : Nat → Heap → Prop} {R : Result → Shared → Prop} {h0 : Heap} (W : Walks P w A.in1 I fp wr n Pv St) (U : Puts P w A.in1 h0 S n Pv B) (off : S ∉ fp)
    (hS : h0.get? S = none) (hw : ∀ b ∈ wr, h0.get? b = none) : ∀ (k i : Nat) (s : Shared), n - i = k → i ≤ n → St i s.heap → Old h0 s.heap → B i s.heap →
      (∀ h' tk, B n h' → Old h0 h' → R (.ok (.ret .none)) { s with heap := h', toks := tk }) → codeAny (model P w) A (.builtin "set.update.loop" ⟨[.ref S, .ref I], []⟩) R s := by
  have offw : S ∉ wr := fun m => off (W.sub _ m)
  have go : ∀ {h h' : Heap}, Old h0 h → (∀ b o, b ∉ wr → h.get? b = some o → h'.get? b = some o) → Old h0 h' := fun {h h'} ol k b o e => k b o (fun m => by rw [hw b m] at e; cases e) (ol b o e)
  intro k
  induction k with
  | zero =>
    intro i s hk hi st ol b q
    obtain rfl : i = n := by omega
    refine codeAny_builtin F.entry_set_update_loop ?_
    rw [Around.under_plainId F.plain_set_update_loop _]
    refine wpAny_bind (m := pyNext (.ref I)) (W.done s _ _ st fun h' tk k => ?_)
    have ol' := go ol k
    exact wpAny_pure (q h' tk (U.keep _ _ _ b (fun o e => k S o offw e) ol') ol')
  | succ k ih =>
    intro i s hk hi st ol b q
    have lt : i < n := by omega
    refine codeAny_builtin F.entry_set_update_loop ?_
    rw [Around.under_plainId F.plain_set_update_loop _]
    refine wpAny_bind (m := pyNext (.ref I)) (W.item i s _ _ lt st fun v h' tk hv st' k => ?_)
    have ol' := go ol k
    have b' := U.keep _ _ _ b (fun o e => k S o offw e) ol'
    refine wpAny_bind (m := holding [v] (setAdd S v)) (wpAny_holding (U.step i v { s with heap := h', toks := tk } _ _ lt hv ol' b' fun r h2 tk2 sb b2 => ?_))
    have ol2 : Old h0 h2 := fun c o e => (sb.2 c (fun z => by rw [z, hS] at e; cases e)).trans (ol' c o e)
    refine wpAny_pure ⟨plainId_quiet F.plain_set_update_loop _, ih (i + 1) { s with heap := h2, toks := tk2 } (by omega) lt (W.frame _ _ _ st' fun c hc o e => ?_) ol2 b2 fun h3 tk3 b3 ol3 => q h3 tk3 b3 ol3⟩
    exact (sb.2 c (fun z : c = S => off (by rw [← z]; exact hc))).trans e
/-- a new set -/
abbrev fset (w : World) : Obj := { cls := .type "set", dict := none, data := .set #[] 0 (.fresh 0 0 (!w.params.followText "set-order")) }
theorem set_of {l : Addr} {items : Array Value} {B : Nat → Heap → Prop} {Q : Value → Shared → Prop} (hh : A.handled = none) (hl : s.heap.IsList l items) (U : Puts P w A.in1.in1.in1 s.heap s.heap.objs.size items.size (fun i v => items[i]? = some v) B)
    (b0 : ∀ h', h'.get? s.heap.objs.size = some (fset w) → Old s.heap h' → B 0 h') (q : ∀ h' tk, B items.size h' → Old s.heap h' → Q (.ref s.heap.objs.size) { s with heap := h', toks := tk }) : wpAny (model P w) A (call (.type "set") [.ref l]) Q E s := by
  obtain ⟨_, _, mro⟩ := F.called_set.mro
  have made := F.called_set.made
  have sub := F.called_set.sub
  have notT := F.called_set.notType
  have canC := F.called_set.canCreate
  have chk := F.typeCall_set_1 (.ref l)
  refine wpAny_call (codeAny_of_tree ?_)
  show wpAny _ _ (callAny (Value.type "set") _) _ _ s
  refine wpAny_pure ⟨Code.quiet_builtin _ (by decide +kernel), codeAny_builtin F.entry_type_call ?_⟩
  rw [Around.under_plain (weight_type_call_type "set" [Value.ref l] []) rfl]
  repeat (any_goals (first | wp_step | assumption))
  refine codeAny_mono (code_set_led1 (Value.ref l) (E := E) (Q₁ := fun ob t => ob = .ref s.heap.objs.size ∧ t = { s with heap := s.heap.push (fset w) }) ⟨rfl, rfl⟩) fun r t hr => ?_
  have hS : (s.heap.push (fset w)).get? s.heap.objs.size = some (fset w) := Heap.get?_push_size _ rfl
  match r, hr with
  | .error e, hr => exact hr
  | .ok (.ret ob), hr =>
    obtain ⟨rfl, rfl⟩ := hr
    have ty : Shared.TypeIs { s with heap := s.heap.push (fset w) } (.ref s.heap.objs.size) "set" := ⟨_, hS, rfl⟩
    have look := F.called_set.init.lookup
    have bnd := F.called_set.init.bind (.ref s.heap.objs.size)
    repeat (any_goals (first | wp_step | assumption))
    refine codeAny_mono (codeAny_call_builtin (R := wants (fun r t => r = .none ∧ ∃ h' tk, t = { s with heap := h', toks := tk } ∧ B items.size h' ∧ Old s.heap h') E) F.called_set.init.plain F.entry_set_init (check_set_init_1 ty ?body)) fun r t hr => ?_
    case body =>
      obtain ⟨ol, hol, hcl, nl, hdl⟩ := hl
      obtain ⟨c1, d1, x1, sl1⟩ := ol
      simp only at hcl hdl
      subst hcl hdl
      have hol2 : (s.heap.push (fset w)).get? l = some { cls := .type "list", dict := d1, data := .seq items nl, slots := sl1 } := Heap.get?_push_of_some _ hol
      have n1 := F.sub_list_set
      have n2 := F.sub_list_frozenset
      have n3 : (Value.type "list" == Value.type "dict") = false := by decide
      have il : (s.heap.push (fset w)).IsList l items := ⟨_, hol2, rfl, nl, rfl⟩
      unfold Builtin.«set.__init__» noKeywords Builtin.Frozenset.updateFrom
      generalize hp : pyIter = it_
      wp_walk
      subst hp
      refine wpAny_pyIter_list il (wpAny_bind (wpAny_runValue ?_))
      have ll : l < s.heap.objs.size := Heap.lt_size hol
      have z1 : (s.heap.push (fset w)).objs.size = s.heap.objs.size + 1 := Heap.size_push ..
      have hh3 : A.in1.in1.in1.handled = none := by simp [hh]
      have gone : ∀ b, s.heap.objs.size ≤ b → s.heap.get? b = none := fun b hb => Heap.get?_none_of_le hb
      refine upd_loop (Walks.list hh3 _ l (Nat.ne_of_lt (by rw [z1]; exact Nat.lt_succ_of_lt ll)) items) U (by
          rw [z1]
          simp only [List.mem_cons, List.not_mem_nil, or_false, not_or]
          exact ⟨Nat.ne_of_lt (Nat.lt_succ_self _), Nat.ne_of_gt ll⟩) (gone _ (Nat.le_refl _)) (fun b m => gone b (by rw [List.mem_singleton.mp m, z1]; exact Nat.le_succ _)) (items.size - 0) 0 _ rfl (Nat.zero_le _)
        ⟨⟨_, Heap.get?_push_size _ rfl, rfl, rfl⟩, il.push _⟩ (fun b o e => Heap.get?_push_of_some _ (Heap.get?_push_of_some _ e)) (b0 _ (Heap.get?_push_of_some _ hS) fun b o e => Heap.get?_push_of_some _ (Heap.get?_push_of_some _ e)) fun h' tk bn ol' => ?_
      refine wpAny_pure ?_
      exact wpAny_pure ⟨rfl, h', tk, rfl, bn, ol'⟩
    match r, hr with
    | .error e, hr => exact hr
    | .ok (.ret x), hr =>
      obtain ⟨rfl, h', tk, rfl, bn, ol'⟩ := hr
      repeat (any_goals (first | wp_step | assumption))
      exact q h' tk bn ol'
end
end Q
/-! Ns4: sorting does not ask for the order. -/
namespace Q
open PySem PySem.Spec PyProof.Rows L2
mutual
theorem alike_eq : ∀ x y : PyData, PySem.W.alike x y = true → PyData.eqv x y = true → x = y
  | .none, y, h, _ => by cases y <;> simp_all [PySem.W.alike]
  | .bool a, y, h, e => by cases y <;> simp_all [PySem.W.alike, PyData.eqv]
  | .int a, y, h, e => by cases y <;> simp_all [PySem.W.alike, PyData.eqv]
  | .str a, y, h, e => by cases y <;> simp_all [PySem.W.alike, PyData.eqv]
  | .list xs, y, h, e => by
    cases y with
    | list ys => rw [alikes_eq xs ys (by simpa [PySem.W.alike] using h) (by simpa [PyData.eqv] using e)]
    | _ => simp [PySem.W.alike] at h
  | .tuple xs, y, h, e => by
    cases y with
    | tuple ys => rw [alikes_eq xs ys (by simpa [PySem.W.alike] using h) (by simpa [PyData.eqv] using e)]
    | _ => simp [PySem.W.alike] at h
  | .dict _, y, h, _ => by cases y <;> simp [PySem.W.alike] at h
theorem alikes_eq : ∀ xs ys : List PyData, PySem.W.alikeAll xs ys = true → PyData.eqvAll xs ys = true → xs = ys
  | [], ys, _, e => by cases ys <;> simp_all [PyData.eqvAll]
  | x :: xs, [], _, e => by simp [PyData.eqvAll] at e
  | x :: xs, y :: ys, h, e => by
    obtain ⟨h1, h2⟩ := PySem.W.alike_all_cons h
    rw [PySem.W.eqv_all_cons, Bool.and_eq_true] at e
    rw [alike_eq x y h1 e.1, alikes_eq xs ys h2 e.2]
end
mutual
theorem pyd_inj : ∀ (a b : A) (d : PyData), pyd a = some d → pyd b = some d → PySem.W.alike d d = true → a = b
  | .non, b, d, h, k, _ => by
    simp only [pyd, Option.some.injEq] at h; subst h
    cases b <;> simp only [pyd, Option.some.injEq, Option.map_eq_some_iff, reduceCtorEq] at k <;> first | rfl | (obtain ⟨_, _, z⟩ := k; cases z) | (split at k <;> first | (split at k <;> cases k) | cases k) | cases k
  | .bl x, b, d, h, k, _ => by
    simp only [pyd, Option.some.injEq] at h; subst h
    cases b <;> simp only [pyd, Option.some.injEq, Option.map_eq_some_iff, reduceCtorEq] at k <;> first | (cases k; rfl) | (obtain ⟨_, _, z⟩ := k; cases z) | (split at k <;> first | (split at k <;> cases k) | cases k) | cases k
  | .int x, b, d, h, k, _ => by
    simp only [pyd, Option.some.injEq] at h; subst h
    cases b <;> simp only [pyd, Option.some.injEq, Option.map_eq_some_iff, reduceCtorEq] at k <;> first | (cases k; rfl) | (obtain ⟨_, _, z⟩ := k; cases z) | (split at k <;> first | (split at k <;> cases k) | cases k) | cases k
  | .str x, b, d, h, k, _ => by
    simp only [pyd, Option.some.injEq] at h; subst h
    cases b <;> simp only [pyd, Option.some.injEq, Option.map_eq_some_iff, reduceCtorEq] at k <;> first | (cases k; rfl) | (obtain ⟨_, _, z⟩ := k; cases z) | (split at k <;> first | (split at k <;> cases k) | cases k) | cases k
  | .tup xs, b, d, h, k, l => by
    simp only [pyd, Option.map_eq_some_iff] at h
    obtain ⟨ds, e, rfl⟩ := h
    cases b <;> simp only [pyd, Option.some.injEq, Option.map_eq_some_iff, reduceCtorEq] at k
    case tup ys => obtain ⟨es, e2, z⟩ := k; cases z; rw [pyds_inj xs ys ds e e2 (by simpa [PySem.W.alike] using l)]
    all_goals first | (obtain ⟨_, _, z⟩ := k; cases z) | (split at k <;> first | (split at k <;> cases k) | cases k) | cases k
  | .fro xs, b, d, h, k, l => by
    simp only [pyd, Option.map_eq_some_iff] at h
    obtain ⟨ds, e, rfl⟩ := h
    cases b <;> simp only [pyd, Option.some.injEq, Option.map_eq_some_iff, reduceCtorEq] at k
    case fro ys => obtain ⟨es, e2, z⟩ := k; cases z; rw [pyds_inj xs ys ds e e2 (by simpa [PySem.W.alike] using l)]
    all_goals first | (obtain ⟨_, _, z⟩ := k; cases z) | (split at k <;> first | (split at k <;> cases k) | cases k) | cases k
  | .fdc ks vs, b, d, h, k, l => by
    simp only [pyd] at h
    split at h
    · split at h
      · cases h; simp [PySem.W.alike] at l
      · cases h
    · cases h
  | .scr _, b, d, h, k, l => by simp [pyd] at h
  | .fin _ _ _, b, d, h, k, l => by simp [pyd] at h
  | .exn _ _ _, b, d, h, k, l => by simp [pyd] at h
  | .ref _, b, d, h, k, l => by simp [pyd] at h
theorem pyds_inj : ∀ (xs ys : List A) (ds : List PyData), pyds xs = some ds → pyds ys = some ds → PySem.W.alikeAll ds ds = true → xs = ys
  | [], ys, ds, h, k, l => by
    simp only [pyds, Option.some.injEq] at h; subst h
    cases ys with
    | nil => rfl
    | cons y ys => simp only [pyds] at k; split at k <;> cases k
  | x :: xs, ys, ds, h, k, l => by
    simp only [pyds] at h
    split at h
    · rename_i d ds' e1 e2
      cases h
      obtain ⟨l1, l2⟩ := PySem.W.alike_all_cons l
      cases ys with
      | nil => simp only [pyds, Option.some.injEq] at k; cases k
      | cons y ys =>
        simp only [pyds] at k
        split at k
        · rename_i d2 ds2 f1 f2
          cases k
          rw [pyd_inj x y d e1 f1 l1, pyds_inj xs ys ds' e2 f2 l2]
        · cases k
    · cases h
end
theorem lex_ext (T : List (Int ⊕ List Nat)) : PyProof.Rows.lexLt PyProof.Rows.itemOrd (T ++ []) (T ++ [Sum.inl 0]) = true := by
  rw [PySem.W.lex_pre]; rfl
theorem anti_data {x y : PyData} (h : PySem.W.alike x y = true) (h1 : PySem.W.dataLt x y = false) (h2 : PySem.W.dataLt y x = false) : x = y := by
  have e : PySem.W.keyToks x = PySem.W.keyToks y := (PyProof.Rows.listOrd PyProof.Rows.itemOrd).total _ _ h1 h2
  refine alike_eq x y h ?_
  cases v : PyData.eqv x y with
  | true => rfl
  | false =>
    have z := (PySem.W.toks_eqv x y h).2 v [] [Sum.inl 0]
    rw [← e, lex_ext] at z
    rw [PyProof.Rows.lex_irrefl] at z
    cases z
theorem SrtOk.anti {xs : List A} (h : SrtOk xs) {a b : A} (ha : a ∈ xs) (hb : b ∈ xs) (h1 : aLe a b = true) (h2 : aLe b a = true) : a = b := by
  obtain ⟨d, e1⟩ := Option.isSome_iff_exists.mp (h.dat a ha)
  obtain ⟨d', e2⟩ := Option.isSome_iff_exists.mp (h.dat b hb)
  have q1 : dOf a = d := by unfold dOf; rw [e1]; rfl
  have q2 : dOf b = d' := by unfold dOf; rw [e2]; rfl
  have m1 : d ∈ xs.map dOf := List.mem_map.mpr ⟨a, ha, q1⟩
  have m2 : d' ∈ xs.map dOf := List.mem_map.mpr ⟨b, hb, q2⟩
  unfold aLe at h1 h2
  rw [q1, q2, Bool.not_eq_true'] at h1 h2
  have e := anti_data (h.al d m1 d' m2) h2 h1
  subst e
  exact pyd_inj a b d e1 e2 (h.al d m1 d m1)
theorem aLe_total : PySem.W.TotalLe aLe where
  trans := fun a b c h1 h2 => (PySem.W.sortLe_total (PyProof.Rows.listOrd PyProof.Rows.itemOrd) false fun a => PySem.W.keyToks (dOf a)).trans a b c h1 h2
  total := fun a b => (PySem.W.sortLe_total (PyProof.Rows.listOrd PyProof.Rows.itemOrd) false fun a => PySem.W.keyToks (dOf a)).total a b
/-- rows in another order are sorted alike -/
theorem srt_perm {xs ys : List A} (h : SrtOk xs) (p : ys.Perm xs) : srt ys = srt xs := by
  have p2 : (srt ys).Perm (srt xs) := ((List.mergeSort_perm ys aLe).trans p).trans (List.mergeSort_perm xs aLe).symm
  refine List.Perm.eq_of_pairwise (le := fun a b => aLe a b = true) (fun a b ha hb h1 h2 => ?_) (PySem.W.sort_pairwise aLe_total ys) (PySem.W.sort_pairwise aLe_total xs) p2
  have ma : a ∈ xs := (List.mergeSort_perm xs aLe).mem_iff.mp (p2.mem_iff.mp ha)
  have mb : b ∈ xs := (List.mergeSort_perm xs aLe).mem_iff.mp hb
  exact h.anti ma mb h1 h2
theorem SrtOk.sub {xs ys : List A} (h : SrtOk xs) (s : ∀ y ∈ ys, y ∈ xs) (l : ys.length ≤ sizeLine) : SrtOk ys := by
  have m : ∀ d ∈ ys.map dOf, d ∈ xs.map dOf := fun d md => by
    obtain ⟨y, my, rfl⟩ := List.mem_map.mp md
    exact List.mem_map.mpr ⟨y, s y my, rfl⟩
  refine ⟨fun y my => h.dat y (s y my), fun d md e me => h.al d (m d md) e (m e me), ?_, fun y my => h.dp y (s y my), l⟩
  rcases h.sb with z | z
  · exact .inl fun d md => z d (m d md)
  · exact .inr fun d md => z d (m d md)
/-- one each, as they come -/
def ddF (acc : List A) (x : A) : List A := if x ∈ acc then acc else acc ++ [x]
def ddA (xs : List A) : List A := xs.foldl ddF []
theorem dd_go : ∀ (xs acc : List A), acc.Nodup → (xs.foldl ddF acc).Nodup ∧ ∀ x, x ∈ xs.foldl ddF acc ↔ x ∈ acc ∨ x ∈ xs
  | [], acc, h => ⟨h, fun x => by simp⟩
  | y :: xs, acc, h => by
    have h2 : (ddF acc y).Nodup := by
      unfold ddF
      split
      · exact h
      · rename_i n
        rw [List.nodup_append]
        exact ⟨h, by simp, fun a ma b mb => by simp only [List.mem_singleton] at mb; subst mb; exact fun e => n (e ▸ ma)⟩
    obtain ⟨a, b⟩ := dd_go xs (ddF acc y) h2
    refine ⟨a, fun x => (b x).trans ?_⟩
    have : x ∈ ddF acc y ↔ x ∈ acc ∨ x = y := by
      unfold ddF
      split
      · rename_i m
        exact ⟨.inl, fun z => z.elim id fun e => e ▸ m⟩
      · simp
    rw [this, List.mem_cons, or_assoc]
theorem dd_nodup (xs : List A) : (ddA xs).Nodup := (dd_go xs [] (by simp)).1
theorem dd_mem {xs : List A} {x : A} : x ∈ ddA xs ↔ x ∈ xs := by
  have := (dd_go xs [] (by simp)).2 x
  show x ∈ xs.foldl ddF [] ↔ x ∈ xs
  simpa using this
theorem dd_len : ∀ (xs acc : List A), (xs.foldl ddF acc).length ≤ acc.length + xs.length
  | [], acc => by simp
  | y :: xs, acc => by
    have h := dd_len xs (ddF acc y)
    have : (ddF acc y).length ≤ acc.length + 1 := by unfold ddF; split <;> simp
    simp only [List.foldl_cons, List.length_cons]
    omega
end Q
/-! Ns5: sets of rows. -/
namespace Q
open PySem PySem.Spec PyProof.Rows L2
section
variable {P : Program} {w : World} {A : Around} {E : Value → Shared → Prop} {s : Shared} {a : Addr} {L : List (KS × Addr)} {es : Array (Int × Value)} {ep : Nat} {t : SetTable}
theorem MS.tbl (R : MS P w s.heap a L es ep t) : Tbl w s.heap a es ep t := by
  have e : es.toList.map (·.1) = L.map fun p => hsh P w p.1 := by rw [R.en, List.map_map]; rfl
  have l := R.len
  exact ⟨R.ob, by rw [e]; exact R.tb, R.ld, by rw [l]; exact R.rm, by rw [l]; exact R.fw⟩
theorem Tbl.ms {h : Heap} (R : Tbl w h a es ep t) (en : es.toList = L.map fun p => (hsh P w p.1, Value.ref p.2)) (nd : (L.map (·.1)).Nodup) (is : ∀ p ∈ L, IsR P w h p.1 p.2) : MS P w h a L es ep t := by
  have e : es.toList.map (·.1) = L.map fun p => hsh P w p.1 := by rw [en, List.map_map]; rfl
  have l : es.size = L.length := by rw [← Array.length_toList, en, List.length_map]
  exact ⟨R.ob, en, by rw [← e]; exact R.tb, nd, is, R.ld, by rw [← l]; exact R.rm, by rw [← l]; exact R.fw⟩
theorem isR_but {h h' : Heap} {k : KS} {b : Addr} (x : IsR P w h k b) {o : Obj} (ho : h.get? a = some o) (hd : o.data = .set es ep t) (sb : Heap.SameBut a h h') : IsR P w h' k b := by
  obtain ⟨o2, its, m, ho2, hc, hd2, hi⟩ := x
  have n : b ≠ a := fun z => by
    subst z
    rw [ho] at ho2; cases ho2
    rw [hd] at hd2; cases hd2
  exact ⟨o2, its, m, (sb.2 b n).trans ho2, hc, hd2, hi⟩
theorem isR_old {h h' : Heap} {k : KS} {b : Addr} (x : IsR P w h k b) (o : Old h h') : IsR P w h' k b := by
  obtain ⟨o2, its, m, ho2, r⟩ := x
  exact ⟨o2, its, m, o b o2 ho2, r⟩
/-- a row is put in -/
theorem addRow (R : MS P w s.heap a L es ep t) {x : Addr} {k : KS} (hx : IsR P w s.heap k x) (hu : A.units < cLine) (fw : L.length + 1 < 64) {Q : Bool → Shared → Prop}
    (q : ∀ r h' L' es' ep' t', Heap.SameBut a s.heap h' → MS P w h' a L' es' ep' t' → (k ∈ L.map (·.1) → L' = L) → (k ∉ L.map (·.1) → L'.Perm ((k, x) :: L)) → Q r { s with heap := h' }) :
    wpAny (model P w) A (setAddHashed a (.ref x) (hsh P w k)) Q E s := by
  obtain ⟨o, ho, hex, hd⟩ := R.ob
  unfold setAddHashed
  refine wpAny_holding ?_
  rw [show (100000 : Nat) = 99999 + 1 from rfl, setAddHashedIn_succ]
  refine wpAny_bind (wpAny_setState_of ho hd R.fit ?_)
  dsimp only
  refine wp_if_neg (by simp [byScan, Value.scannable]) ?_
  try refine wpAny_bind (wpAny_pure ?_)
  refine wpAny_bind (look_all R hx hu (fun m => ?_) fun K n free full => ?_)
  · dsimp only
    exact wpAny_pure (q false s.heap L es ep t (Heap.SameBut.refl a s.heap) R (fun _ => rfl) fun z => absurd m z)
  · dsimp only
    refine wpAny_bind (wpAny_setState_of ho hd R.fit ?_)
    dsimp only
    refine putIn_ok (R.tbl) (x := .ref x) (by rw [R.len]; exact fw) free full (fun Q' hq => row_hash hx hq) fun h' es' ep' t' sb T pm => ?_
    have pm2 : es'.toList.Perm (((k, x) :: L).map fun p => (hsh P w p.1, Value.ref p.2)) := by rw [List.map_cons, ← R.en]; exact pm
    obtain ⟨L', e, pl⟩ := perm_back _ pm2
    refine q true h' L' es' ep' t' sb (T.ms e ((pl.map (·.1)).nodup_iff.mpr ?_) fun p m => ?_) (fun z => absurd z n) fun _ => pl
    · rw [List.map_cons]; exact List.nodup_cons.mpr ⟨n, R.nd⟩
    · rcases List.mem_cons.mp (pl.mem_iff.mp m) with rfl | m
      · exact isR_but hx ho hd sb
      · exact isR_but (R.is p m) ho hd sb
/-- the rows of the first i items -/
def Bset (P : Program) (w : World) (S : Addr) (ks : List (KS × Addr)) (i : Nat) (h : Heap) : Prop := ∃ L es ep t, MS P w h S L es ep t ∧ (∀ p ∈ L, p ∈ ks.take i) ∧ (∀ p ∈ ks.take i, p.1 ∈ L.map (·.1)) ∧ L.length ≤ i
theorem bset_puts {h0 : Heap} {S : Addr} {ks : List (KS × Addr)} {n : Nat} {Pv : Nat → Value → Prop} (hn : n = ks.length) (fw : ∀ l : List KS, l.Nodup → (∀ k ∈ l, k ∈ ks.map (·.1)) → l.length < 63) (hu : A.units < cLine) (hP : ∀ i v, Pv i v → ∃ p, ks[i]? = some p ∧ v = .ref p.2) (is : ∀ p ∈ ks, IsR P w h0 p.1 p.2) : Puts P w A h0 S n Pv (Bset P w S ks) where
  keep := fun i h h' ⟨L, es, ep, t, R, s1, s2, l⟩ hS ol => by
    obtain ⟨o, ho, r⟩ := R.ob
    exact ⟨L, es, ep, t, ⟨⟨o, hS o ho, r⟩, R.en, R.tb, R.nd, fun p m => isR_old (is p (List.mem_of_mem_take (s1 p m))) ol, R.ld, R.rm, R.fw⟩, s1, s2, l⟩
  step := fun i v s Q E lt hv ol ⟨L, es, ep, t, R, s1, s2, l⟩ q => by
    obtain ⟨p, hp, rfl⟩ := hP i v hv
    have hx : IsR P w s.heap p.1 p.2 := isR_old (is p (List.mem_of_getElem? hp)) ol
    have tk : ks.take (i + 1) = ks.take i ++ [p] := by rw [List.take_add_one, hp]; rfl
    unfold setAdd
    refine wpAny_holding (wpAny_bind (wpAny_pyHash_tuple hu hx ?_))
    have f63 := fw (L.map (·.1)) R.nd fun k m => by
      obtain ⟨p', mp, rfl⟩ := List.mem_map.mp m
      exact List.mem_map.mpr ⟨p', List.mem_of_mem_take (s1 p' mp), rfl⟩
    rw [List.length_map] at f63
    refine addRow (s := { s with toks := s.toks + (p.1.length + 1) }) R hx hu (by omega) fun r h' L' es' ep' t' sb R' c1 c2 => q r h' _ sb ⟨L', es', ep', t', R', ?_⟩
    by_cases m : p.1 ∈ L.map (·.1)
    · rw [c1 m, tk]
      refine ⟨fun x mx => List.mem_append_left _ (s1 x mx), fun x mx => ?_, by omega⟩
      rcases List.mem_append.mp mx with mx | mx
      · exact s2 x mx
      · simp only [List.mem_singleton] at mx; subst mx; exact m
    · have pm := c2 m
      rw [tk]
      refine ⟨fun x mx => ?_, fun x mx => ?_, by rw [pm.length_eq, List.length_cons]; omega⟩
      · rcases List.mem_cons.mp (pm.mem_iff.mp mx) with rfl | mx
        · simp
        · exact List.mem_append_left _ (s1 x mx)
      · rw [(pm.map (·.1)).mem_iff, List.map_cons]
        rcases List.mem_append.mp mx with mx | mx
        · exact List.mem_cons_of_mem _ (s2 x mx)
        · simp only [List.mem_singleton] at mx; subst mx; simp
theorem fresh_tb (b : Bool) : TabOk (.fresh 0 0 b) [] := ⟨List.Pairwise.nil, rfl, rfl, .inl rfl, fun x m => (by cases m), fun i h j m => (by simp at m)⟩
theorem fresh_tbl {h : Heap} (ho : h.get? a = some (fset w)) : Tbl w h a #[] 0 (.fresh 0 0 (!w.params.followText "set-order")) := by
  refine ⟨⟨_, ho, ⟨rfl, rfl, rfl⟩, rfl⟩, fresh_tb _, ?_, by show 0 * 5 < 7 * 3; decide, by decide⟩
  show _ ∨ (!w.params.followText "set-order") = true
  cases w.params.followText "set-order"
  · exact .inr rfl
  · exact .inl rfl
theorem bset0 {h : Heap} {ks : List (KS × Addr)} (ho : h.get? a = some (fset w)) : Bset P w a ks 0 h :=
  ⟨[], #[], 0, _, (fresh_tbl ho).ms rfl (by simp) (fun p m => by cases m), fun p m => (by cases m), fun p m => (by simp at m), Nat.le_refl _⟩
end
end Q
/-! Ns6: sets of ints and texts. -/
namespace Q
open PySem PySem.Spec PyProof.Rows L2
section
variable {P : Program} {w : World} {A : Around} {E : Value → Shared → Prop} {s : Shared} {a : Addr} {es : Array (Int × Value)} {ep : Nat} {t : SetTable}
theorem relaid_pure {wanted M : Nat} (hw : SetTable.sizeAbove wanted - 1 = M) (hM : MaskOk M) (l : es.size ≤ M) : ∃ t' order, t.relaid (es.map (·.1)) wanted = some (t', order) ∧ order.toList.Perm (List.range es.size) ∧
    TabOk t' ((order.filterMap (es[·]?)).toList.map (·.1)) ∧ (order.filterMap (es[·]?)).toList.Perm es.toList ∧ t'.mask = M ∧ t'.led = t.led := by
  obtain ⟨t', order, e, hp, T, em, el, _, _⟩ := relaid_ok t (hs := es.map (·.1)) (wanted := wanted) hw hM (by rw [Array.size_map]; omega)
  rw [Array.size_map] at hp
  have all : ∀ i ∈ order.toList, ∃ x, es[i]? = some x := fun i m => ⟨_, Array.getElem?_eq_getElem (List.mem_range.mp (hp.mem_iff.mp m))⟩
  have el2 : (order.filterMap (es[·]?)).toList = order.toList.filterMap (fun i => es.toList[i]?) := by
    rw [Array.toList_filterMap]
    simp only [Array.getElem?_toList]
  have pm : (order.filterMap (es[·]?)).toList.Perm es.toList := by
    rw [el2]
    have h1 := hp.filterMap (fun i => es.toList[i]?)
    rwa [← Array.length_toList, List.filterMap_getElem?_range_length] at h1
  refine ⟨t', order, e, hp, ?_, pm, em, el⟩
  have hs : (order.filterMap (es[·]?)).toList.map (·.1) = order.toList.map fun i => (es.map (·.1)).getD i 0 := by
    rw [el2]
    generalize order.toList = l at all
    clear T hp pm el2
    induction l with
    | nil => rfl
    | cons i l ih =>
      obtain ⟨x, ex⟩ := all i List.mem_cons_self
      have e1 : es.toList[i]? = some x := by rw [Array.getElem?_toList]; exact ex
      have e2 : (es.map (·.1)).getD i 0 = x.1 := by simp [Array.getD_eq_getD_getElem?, ex]
      rw [List.filterMap_cons_some e1, List.map_cons, List.map_cons, ih fun j m => all j (List.mem_cons_of_mem _ m), e2]
  rw [hs]; exact T
theorem free_slot (T : TabOk t (es.toList.map (·.1))) {h : Int} {K : Nat} (hK : K < 10 * SetTable.turns t.mask) (free : way t.mask h K ∉ t.place.toList) (full : ∀ c, c < K → way t.mask h c ∈ t.place.toList) : t.freeSlot h = some (way t.mask h K, false) := by
  have S := go_spec t T.ris T.dm (fun _ => h + 1) h (10 * SetTable.turns t.mask) K (runAt t.mask (SetTable.bits h % (t.mask + 1)) (SetTable.bits h)) rfl hK full free
  rcases S with ⟨q, i, _, _, e, _⟩ | ⟨_, e⟩
  · exact absurd (show h + 1 = h from e) (by omega)
  · unfold SetTable.freeSlot
    rw [show t.probe (fun _ => h + 1) h (t.probeStart h) = _ from e]
    rfl
theorem relay_all {t2 : SetTable} {es1 : Array (Int × Value)} {wanted M : Nat} (hw : SetTable.sizeAbove wanted - 1 = M) (hM : MaskOk M) (l : es1.size ≤ M) : ∃ t' es2, relayAll t2 es1 wanted = (es2, t', false) ∧ TabOk t' (es2.toList.map (·.1)) ∧ es2.toList.Perm es1.toList ∧ t'.mask = M ∧ t'.led = t2.led := by
  obtain ⟨t', order, e, hp, T, pm, em, el⟩ := relaid_pure (t := t2) (es := es1) hw hM l
  have sz : (order.filterMap (es1[·]?)).size = es1.size := by rw [← Array.length_toList, pm.length_eq, Array.length_toList]
  have ps : t'.place.size = (order.filterMap (es1[·]?)).size := by have := T.sz; rwa [List.length_map, Array.length_toList] at this
  have f : t'.fits (order.filterMap (es1[·]?)).size = true := fits_of ps T.dm (by rw [sz, em]; exact l)
  have cv : coversAll order es1.size = true := by unfold coversAll; exact List.isPerm_iff.mpr hp
  refine ⟨t', _, ?_, T, pm, em, el⟩
  unfold relayAll
  rw [e]
  dsimp only
  rw [cv, f]
  rfl
/-- the set at a: its ints, texts -/
structure MA (P : Program) (w : World) (h : Heap) (a : Addr) (L : List (L2.Key × Value)) (es : Array (Int × Value)) (ep : Nat) (t : SetTable) : Prop where
  tb : Tbl w h a es ep t
  en : es.toList = L.map fun p => ((mixKind P w).hash p.1, p.2)
  is : ∀ p ∈ L, (mixKind P w).is p.1 p.2 = true
  nd : (L.map (·.1)).Nodup
variable {L : List (L2.Key × Value)}
theorem atm_scan {k : L2.Key} {v : Value} (h : (mixKind P w).is k v = true) : v.scannable = true := by
  rcases keyIs_shape h with ⟨i, t, _, rfl⟩ | ⟨z, t, _, rfl⟩ <;> rfl
theorem MA.els (R : MA P w s.heap a L es ep t) : ElemsOf (mixKind P w) es.toList := fun e m => by
  rw [R.en] at m
  obtain ⟨p, mp, rfl⟩ := List.mem_map.mp m
  exact ⟨⟨p.1, R.is p mp, rfl⟩, atm_scan (R.is p mp)⟩
theorem gw0 {s₁ : Shared} {Q' : Unit → Shared → Prop} (hq : Q' () s₁) : wpAny (model P w) A (match false with | true => rule "set.scan.the-table-gave-way" | false => pure ()) Q' E s₁ := wpAny_pure hq
theorem addAtm (R : MA P w s.heap a L es ep t) {x : Value} {k : L2.Key} (hx : (mixKind P w).is k x = true) (fw : L.length + 1 < 64) {Q : Bool → Shared → Prop}
    (q : ∀ r h' L' es' ep' t', Heap.SameBut a s.heap h' → MA P w h' a L' es' ep' t' → (k ∈ L.map (·.1) → L' = L) → (k ∉ L.map (·.1) → L'.Perm ((k, x) :: L)) → Q r { s with heap := h' }) :
    wpAny (model P w) A (setAddHashed a x ((mixKind P w).hash k)) Q E s := by
  have hz : sizeLine = 16777216 := by decide
  obtain ⟨o, ho, hex, hd⟩ := R.tb.ob
  have len : es.size = L.length := by rw [← Array.length_toList, R.en, List.length_map]
  have hrm := R.tb.rm
  have find : es.toList.findIdx? (fun e => (mixKind P w).is k e.2) = L.findIdx? fun p => (mixKind P w).is k p.2 := by rw [R.en, List.findIdx?_map]; rfl
  unfold setAddHashed
  refine wpAny_holding ?_
  rw [show (100000 : Nat) = 99999 + 1 from rfl, setAddHashedIn_succ]
  refine wpAny_bind (wpAny_setState_of ho hd R.tb.fit ?_)
  dsimp only
  refine wp_if_pos (byScan_of (atm_scan hx) (by unfold scanBound; omega) R.els) ?_
  unfold setAddByScan
  refine wpAny_bind (wpAny_bind (wpAny_rule (wpAny_bind (wpAny_setScan_of hx ho hd R.tb.fit R.els ?_))))
  rw [find]
  cases hf : L.findIdx? fun p => (mixKind P w).is k p.2 with
  | some j =>
    obtain ⟨hj, hpj, _⟩ := List.findIdx?_eq_some_iff_getElem.mp hf
    have mj : L[j] ∈ L := List.getElem_mem hj
    have km : k ∈ L.map (·.1) := List.mem_map.mpr ⟨L[j], mj, (mixKind P w).inj _ _ _ (R.is _ mj) hpj⟩
    dsimp only
    exact wpAny_pure (wpAny_pure (q false s.heap L es ep t (Heap.SameBut.refl a s.heap) R (fun _ => rfl) fun z => absurd km z))
  | none =>
    have kn : k ∉ L.map (·.1) := fun m => by
      obtain ⟨p, mp, rfl⟩ := List.mem_map.mp m
      have := List.findIdx?_eq_none_iff.mp hf p mp
      rw [R.is p mp] at this; cases this
    dsimp only
    obtain ⟨K, hK, free, full⟩ := R.tb.tb.first (by rw [List.length_map, Array.length_toList]; omega) ((mixKind P w).hash k)
    obtain ⟨q1, q2, q3, q4, q5, _, _, _, q9⟩ := R.tb.tb.put free full
    have hn : layNew t es ((mixKind P w).hash k) x = (SetTable.insertAt es (t.put (way t.mask ((mixKind P w).hash k) K)).2 ((mixKind P w).hash k, x), (t.put (way t.mask ((mixKind P w).hash k) K)).1, false, false) := by
      unfold layNew
      rw [free_slot R.tb.tb hK free full]
      dsimp only
      have ins : (SetTable.insertAt es (t.put (way t.mask ((mixKind P w).hash k) K)).2 ((mixKind P w).hash k, x)).size = es.size + 1 := by
        rw [← Array.length_toList, SetTable.toList_insertAt, (perm_ins' _ _ _).length_eq, List.length_cons, Array.length_toList]
      have pz : (t.put (way t.mask ((mixKind P w).hash k) K)).1.place.size = es.size + 1 := by
        have := q3.sz
        rw [this, (perm_ins' _ _ _).length_eq, List.length_cons, List.length_map, Array.length_toList]
      have ft : (t.put (way t.mask ((mixKind P w).hash k) K)).1.fits (es.size + 1) = true := fits_of (es := SetTable.insertAt es (t.put (way t.mask ((mixKind P w).hash k) K)).2 ((mixKind P w).hash k, x)) (by rw [ins]; exact pz) q3.dm (by rw [ins, q4]; omega) |> fun z => by rwa [ins] at z
      rw [ins, ft]
      unfold SetTable.orStandIn
      rw [ft]
      rfl
    rw [hn]
    dsimp only
    generalize hpt : t.put (way t.mask ((mixKind P w).hash k) K) = pt at q1 q3 q4 q5 q9 ⊢
    obtain ⟨t1, p⟩ := pt
    dsimp only at q1 q3 q4 q5 q9 ⊢
    rw [← q1] at q3
    rw [List.length_map, Array.length_toList] at q9
    have ins : (SetTable.insertAt es p ((mixKind P w).hash k, x)).toList = es.toList.take p ++ ((mixKind P w).hash k, x) :: es.toList.drop p := SetTable.toList_insertAt _ _ _
    have pm : (SetTable.insertAt es p ((mixKind P w).hash k, x)).toList.Perm (((mixKind P w).hash k, x) :: es.toList) := by rw [ins]; exact perm_ins' _ _ _
    have hs1 : (SetTable.insertAt es p ((mixKind P w).hash k, x)).toList.map (·.1) = (es.toList.map (·.1)).take p ++ (mixKind P w).hash k :: (es.toList.map (·.1)).drop p := by
      rw [ins, List.map_append, List.map_cons, List.map_take, List.map_drop]
    have sz : (SetTable.insertAt es p ((mixKind P w).hash k, x)).size = es.size + 1 := by rw [← Array.length_toList, pm.length_eq, List.length_cons, Array.length_toList]
    rw [← hs1] at q3
    generalize SetTable.insertAt es p ((mixKind P w).hash k, x) = es1 at pm sz q3 ⊢
    -- what is left behind
    have done : ∀ h' es' ep' t', Heap.SameBut a s.heap h' → Tbl w h' a es' ep' t' → es'.toList.Perm es1.toList → Q true { s with heap := h' } := fun h' es' ep' t' sb T p2 => by
      have pm2 : es'.toList.Perm (((k, x) :: L).map fun p => ((mixKind P w).hash p.1, p.2)) := by rw [List.map_cons, ← R.en]; exact p2.trans pm
      obtain ⟨L', e, pl⟩ := perm_back _ pm2
      refine q true h' L' es' ep' t' sb ⟨T, e, fun p m => ?_, (pl.map (·.1)).nodup_iff.mpr ?_⟩ (fun z => absurd z kn) fun _ => pl
      · rcases List.mem_cons.mp (pl.mem_iff.mp m) with rfl | m
        · exact hx
        · exact R.is p m
      · rw [List.map_cons]; exact List.nodup_cons.mpr ⟨kn, R.nd⟩
    have rest : ∀ t2 : SetTable, TabOk t2 (es1.toList.map (·.1)) → t2.mask = t.mask → t2.led = t.led → t2.fill = es.size + 1 → ∀ (R' : Option Bool → Shared → Prop), (∀ s', Q true s' → R' (some true) s') →
        wpAny (model P w) A (do
          storeSet a es1 t2
          if (!false && t2.tooFull) = true then do
              (match (relayAll t2 es1 (SetTable.grown es1.size)).2.2 with | true => rule "set.scan.the-table-gave-way" | false => pure ())
              storeSet a (relayAll t2 es1 (SetTable.grown es1.size)).1 (relayAll t2 es1 (SetTable.grown es1.size)).2.1
              pure (some true)
            else pure (some true)) R' E s := by
      intro t2 T em el ef R' hR
      refine wpAny_bind (wpAny_storeSet_of ho hd ?_ (by omega))
      have sb : Heap.SameBut a s.heap (s.heap.update a (Obj.putSet es1 t2)) := Heap.SameBut.update ..
      have ho1 := store_at (es' := es1) (t' := t2) ho hd
      generalize s.heap.update a (Obj.putSet es1 t2) = h1 at sb ho1 ⊢
      have ld1 : w.params.followText "set-order" = true ∨ t2.led = true := by rw [el]; exact R.tb.ld
      by_cases tf : t2.tooFull = true
      · have big := tf
        unfold SetTable.tooFull at big
        rw [decide_eq_true_eq, ef, em] at big
        refine wp_if_pos (by simp [tf]) ?_
        have go : ∀ M, SetTable.sizeAbove (SetTable.grown es1.size) - 1 = M → MaskOk M → SetTable.sizeAbove (SetTable.grown es1.size) ≤ 128 → es1.size * 5 < M * 3 →
            wpAny (model P w) A (do
              (match (relayAll t2 es1 (SetTable.grown es1.size)).2.2 with | true => rule "set.scan.the-table-gave-way" | false => pure ())
              storeSet a (relayAll t2 es1 (SetTable.grown es1.size)).1 (relayAll t2 es1 (SetTable.grown es1.size)).2.1
              pure (some true)) R' E { s with heap := h1 } := fun M a1 a2 a3 a4 => by
          obtain ⟨t3, es2, e3, T3, pm3, em3, el3⟩ := relay_all (t2 := t2) (es1 := es1) a1 a2 (by omega)
          have sz3 : es2.size = es1.size := by rw [← Array.length_toList, pm3.length_eq, Array.length_toList]
          rw [e3]
          dsimp only
          refine wpAny_bind (wpAny_pure (wpAny_bind (wpAny_storeSet_of ho1 rfl ?_ (by omega))))
          have sb2 : Heap.SameBut a h1 (h1.update a (Obj.putSet es2 t3)) := Heap.SameBut.update ..
          have ho3 := store_at (es' := es2) (t' := t3) ho1 rfl
          exact wpAny_pure (hR _ (done _ es2 _ t3 (sb.trans sb2) ⟨⟨_, ho3, ⟨hex.1, hex.2.1, hex.2.2⟩, rfl⟩, T3, by rw [el3]; exact ld1, by omega, by omega⟩ pm3))
        rcases R.tb.tb.mok with e | e | e
        · have e2 : es1.size = 5 := by rw [e] at hrm big; omega
          exact go 31 (by rw [e2, size_20]) (.inr (.inl rfl)) (by rw [e2, size_20]; decide) (by omega)
        · have e2 : es1.size = 19 := by rw [e] at hrm big; omega
          exact go 127 (by rw [e2, size_76]) (.inr (.inr rfl)) (by rw [e2, size_76]; decide) (by omega)
        · rw [e] at big; omega
      · have small := tf
        unfold SetTable.tooFull at small
        rw [decide_eq_true_eq, ef, em] at small
        refine wp_if_neg (by simp [tf]) ?_
        exact wpAny_pure (hR _ (done h1 es1 _ t2 sb ⟨⟨_, ho1, ⟨hex.1, hex.2.1, hex.2.2⟩, rfl⟩, T, ld1, by omega, by omega⟩ (List.Perm.refl _)))
    refine wpAny_bind (gw0 ?_)
    split
    · rw [hashByValue_scannable 8 (atm_scan hx)]
      refine wpAny_bind (wpAny_pure ?_)
      split
      · exact rest t1 q3 q4 q5 q9 _ fun s' h => wpAny_pure h
      · exact rest { t1 with plain := false } (TabOk.off q3) q4 q5 q9 _ fun s' h => wpAny_pure h
    · refine wpAny_bind (wpAny_pure ?_)
      exact rest t1 q3 q4 q5 q9 _ fun s' h => wpAny_pure h
end
end Q
/-! Ns7: sorted(set(a list)), len(set(a list)). -/
namespace Q
open PySem PySem.Spec PyProof.Rows L2
def setOk (xs : List A) : Prop := (ddA xs).length < 63 ∧ ((∀ x ∈ xs, (isKT x).isSome = true) ∨ ∀ x ∈ xs, (isK x).isSome = true)
theorem dd_perm {xs ys : List A} (n : ys.Nodup) (m : ∀ x, x ∈ ys ↔ x ∈ xs) : ys.Perm (ddA xs) := (List.perm_ext_iff_of_nodup n (dd_nodup xs)).mpr fun x => (m x).trans dd_mem.symm
theorem nodup_len {α : Type} [DecidableEq α] : ∀ (l m : List α), l.Nodup → (∀ x ∈ l, x ∈ m) → l.length ≤ m.length
  | [], _, _, _ => Nat.zero_le _
  | x :: l, m, n, h => by
    have hx := h x List.mem_cons_self
    obtain ⟨n1, n2⟩ := List.nodup_cons.mp n
    have z := nodup_len l (m.erase x) n2 fun y my => (List.mem_erase_of_ne (fun e => by subst e; exact n1 my)).mpr (h y (List.mem_cons_of_mem _ my))
    rw [List.length_erase_of_mem hx] at z
    have := List.length_pos_of_mem hx
    simp only [List.length_cons]; omega
section
variable {P : Program} {w : World} {A : Around} {E : Value → Shared → Prop} {s : Shared}
/-- the atoms of the first i items -/
def Batm (P : Program) (w : World) (S : Addr) (ks : List (L2.Key × Value)) (i : Nat) (h : Heap) : Prop := ∃ L es ep t, MA P w h S L es ep t ∧ (∀ p ∈ L, p ∈ ks.take i) ∧ (∀ p ∈ ks.take i, p.1 ∈ L.map (·.1)) ∧ L.length ≤ i
theorem batm_puts {h0 : Heap} {S : Addr} {ks : List (L2.Key × Value)} {n : Nat} {Pv : Nat → Value → Prop} (hn : n = ks.length) (fw : ∀ l : List L2.Key, l.Nodup → (∀ k ∈ l, k ∈ ks.map (·.1)) → l.length < 63) (hP : ∀ i v, Pv i v → ∃ p, ks[i]? = some p ∧ v = p.2) (is : ∀ p ∈ ks, (mixKind P w).is p.1 p.2 = true) : Puts P w A h0 S n Pv (Batm P w S ks) where
  keep := fun i h h' ⟨L, es, ep, t, R, s1, s2, l⟩ hS ol => by
    obtain ⟨o, ho, r⟩ := R.tb.ob
    exact ⟨L, es, ep, t, ⟨⟨⟨o, hS o ho, r⟩, R.tb.tb, R.tb.ld, R.tb.rm, R.tb.fw⟩, R.en, R.is, R.nd⟩, s1, s2, l⟩
  step := fun i v s Q E lt hv ol ⟨L, es, ep, t, R, s1, s2, l⟩ q => by
    obtain ⟨p, hp, rfl⟩ := hP i v hv
    have hx := is p (List.mem_of_getElem? hp)
    have tk : ks.take (i + 1) = ks.take i ++ [p] := by rw [List.take_add_one, hp]; rfl
    unfold setAdd
    refine wpAny_holding (wpAny_bind ((mixKind P w).pyHash hx ?_))
    have f63 := fw (L.map (·.1)) R.nd fun k m => by
      obtain ⟨p', mp, rfl⟩ := List.mem_map.mp m
      exact List.mem_map.mpr ⟨p', List.mem_of_mem_take (s1 p' mp), rfl⟩
    rw [List.length_map] at f63
    refine addAtm (s := { s with toks := s.toks + 1 }) R hx (by omega) fun r h' L' es' ep' t' sb R' c1 c2 => q r h' _ sb ⟨L', es', ep', t', R', ?_⟩
    by_cases m : p.1 ∈ L.map (·.1)
    · rw [c1 m, tk]
      refine ⟨fun x mx => List.mem_append_left _ (s1 x mx), fun x mx => ?_, by omega⟩
      rcases List.mem_append.mp mx with mx | mx
      · exact s2 x mx
      · simp only [List.mem_singleton] at mx; subst mx; exact m
    · have pm := c2 m
      rw [tk]
      refine ⟨fun x mx => ?_, fun x mx => ?_, by rw [pm.length_eq, List.length_cons]; omega⟩
      · rcases List.mem_cons.mp (pm.mem_iff.mp mx) with rfl | mx
        · simp
        · exact List.mem_append_left _ (s1 x mx)
      · rw [(pm.map (·.1)).mem_iff, List.map_cons]
        rcases List.mem_append.mp mx with mx | mx
        · exact List.mem_cons_of_mem _ (s2 x mx)
        · simp only [List.mem_singleton] at mx; subst mx; simp
theorem batm0 {h : Heap} {a : Addr} {ks : List (L2.Key × Value)} (ho : h.get? a = some (fset w)) : Batm P w a ks 0 h :=
  ⟨[], #[], 0, _, ⟨fresh_tbl ho, rfl, (fun p m => by cases m), by simp⟩, fun p m => (by cases m), fun p m => (by simp at m), Nat.le_refl _⟩
end
section
variable {X : Cx} {T : Tx} {G : GS} {H : Hp} {pins : List (Addr × Obj)} {σ : L2.St} {s : Shared}
theorem rows_of (hT : T.K = X.K) (I : Inv X pins σ H s) : ∀ {xs : List A} {vs : List V}, RVs T G H xs vs → (∀ x ∈ xs, (isKT x).isSome = true) →
    ∃ ps : List (KS × Addr), xs = ps.map (fun p => keysA p.1) ∧ vs = ps.map (fun p => V.ref p.2) ∧ ∀ p ∈ ps, RV T G H (keysA p.1) (.ref p.2) ∧ IsR X.prog X.w s.heap p.1 p.2
  | [], vs, r, _ => ⟨[], rfl, rvs0 r, fun p m => nomatch m⟩
  | x :: xs, vs, r, h => by
    simp only [RVs] at r
    obtain ⟨v, vs', rfl, r1, r2⟩ := r
    obtain ⟨k, e⟩ := Option.isSome_iff_exists.mp (h x List.mem_cons_self)
    have e := isKT_eq e
    subst e
    obtain ⟨ps, rfl, rfl, hp⟩ := rows_of hT I r2 fun y m => h y (List.mem_cons_of_mem _ m)
    obtain ⟨b, us, rfl, sq, ru⟩ := rv_tup (i := k.map keyA) r1
    have eu : us = k.map kV := by
      clear r1 sq e h
      induction k generalizing us with
      | nil => exact rvs0 ru
      | cons y ys ih =>
        simp only [List.map_cons, RVs] at ru
        obtain ⟨v2, us2, rfl, h1, h2⟩ := ru
        rw [key_rep h1, ih us2 h2]; rfl
    subst eu
    obtain ⟨its, q, ⟨o, ho, hc, n, hd⟩, _⟩ := I.tuple (hT ▸ sq.sq)
    refine ⟨(k, b) :: ps, rfl, rfl, fun p m => ?_⟩
    rcases List.mem_cons.mp m with rfl | m
    · exact ⟨r1, o, its.toArray, n, ho, hc, hd, by simpa using items_are q⟩
    · exact hp p m
theorem atms_of : ∀ {xs : List A} {vs : List V} {us : List Value}, RVs T G H xs vs → Vals vs us → (∀ x ∈ xs, (isK x).isSome = true) →
    ∃ ps : List (L2.Key × Value), xs = ps.map (fun p => keyA p.1) ∧ us = ps.map (·.2) ∧ ∀ p ∈ ps, (mixKind X.prog X.w).is p.1 p.2 = true
  | [], vs, us, r, q, _ => by
    obtain rfl := rvs0 r
    cases q
    exact ⟨[], rfl, rfl, fun p m => nomatch m⟩
  | x :: xs, vs, us, r, q, h => by
    simp only [RVs] at r
    obtain ⟨v, vs', rfl, r1, r2⟩ := r
    cases q with
    | @cons _ u _ us q1 q2 =>
      obtain ⟨k, e⟩ := Option.isSome_iff_exists.mp (h x List.mem_cons_self)
      have e := isK_eq e
      subst e
      obtain ⟨ps, rfl, rfl, hp⟩ := atms_of r2 q2 fun y m => h y (List.mem_cons_of_mem _ m)
      have e2 := key_rep r1
      subst e2
      refine ⟨(k, u) :: ps, rfl, rfl, fun p m => ?_⟩
      rcases List.mem_cons.mp m with rfl | m
      · exact kV_is q1
      · exact hp p m
theorem vals_refs : ∀ {ps : List (KS × Addr)} {us : List Value}, Vals (ps.map fun p => V.ref p.2) us → us = ps.map fun p => Value.ref p.2
  | [], us, h => by cases h; rfl
  | p :: ps, us, h => by
    rw [List.map_cons] at h
    cases h with
    | cons h1 h2 => cases h1; rw [vals_refs h2]; rfl
/-- set of a list: what it holds -/
theorem set_items (hT : T.K = X.K) (hc : X.calm = true) (hu : X.A.units + 64 < cLine) (I : Inv X pins σ H s) {p : Addr} {xs : List A} {vs : List V} (sq : H p = some (.lst vs)) (rv : RVs T G H xs vs) (h : setOk xs) {Q : Value → Shared → Prop} {E : Value → Shared → Prop}
    (q : ∀ h' tk es ep t xs1 vs1, Old s.heap h' → Tbl X.w h' s.heap.objs.size es ep t → xs1.Perm (ddA xs) → RVs T G H xs1 vs1 → Vals vs1 (es.toList.map (·.2)) → Q (.ref s.heap.objs.size) { s with heap := h', toks := tk }) :
    wpAny (model X.prog X.w) X.A (call (.type "set") [.ref p]) Q E s := by
  obtain ⟨its, vl, pl, hz⟩ := I.list (.of sq)
  have u3 : X.A.in1.in1.in1.units < cLine := by have : X.A.in1.in1.in1.units = X.A.units + 3 := rfl; omega
  rcases h with ⟨fw, h | h⟩
  · obtain ⟨ps, rfl, rfl, hp⟩ := rows_of hT I rv h
    have eu := vals_refs vl
    subst eu
    have fw : ∀ l : List KS, l.Nodup → (∀ k ∈ l, k ∈ ps.map (·.1)) → l.length < 63 := fun l n m => by
      have z := nodup_len (l.map keysA) (ddA (ps.map fun p => keysA p.1)) (List.pairwise_map.mpr (n.imp fun n e => n (keysA_inj _ _ e))) fun x mx => by
        obtain ⟨k, mk, rfl⟩ := List.mem_map.mp mx
        obtain ⟨p', mp, e⟩ := List.mem_map.mp (m k mk)
        exact dd_mem.mpr (List.mem_map.mpr ⟨p', mp, by rw [e]⟩)
      rw [List.length_map] at z
      omega
    refine set_of (B := Bset X.prog X.w s.heap.objs.size ps) (I.ok.hd hc) pl.isList (bset_puts (by simp) fw u3 (fun i v e => ?_) fun p m => (hp p m).2) (fun h' e _ => bset0 e) fun h' tk B ol => ?_
    · rw [List.getElem?_toArray, List.getElem?_map] at e
      obtain ⟨p, e1, e2⟩ := Option.map_eq_some_iff.mp e
      exact ⟨p, e1, e2.symm⟩
    · obtain ⟨L, es, ep, t, R, s1, s2, lz⟩ := B
      clear lz
      simp only [List.size_toArray, List.length_map, List.take_length] at s1 s2
      have RT : Tbl X.w h' s.heap.objs.size es ep t := MS.tbl (s := { s with heap := h', toks := tk }) R
      refine q h' tk es ep t (L.map fun p => keysA p.1) (L.map fun p => V.ref p.2) ol RT (dd_perm ?_ fun x => ?_) ?_ ?_
      · have : (L.map fun p => keysA p.1) = (L.map (·.1)).map keysA := by rw [List.map_map]; rfl
        rw [this]
        exact List.pairwise_map.mpr (R.nd.imp fun n e => n (keysA_inj _ _ e))
      · rw [List.mem_map, List.mem_map]
        constructor
        · rintro ⟨p, m, rfl⟩; exact ⟨p, s1 p m, rfl⟩
        · rintro ⟨p, m, rfl⟩
          obtain ⟨p', m', e⟩ := List.mem_map.mp (s2 p m)
          exact ⟨p', m', by rw [e]⟩
      · have : ∀ L' : List (KS × Addr), (∀ p ∈ L', p ∈ ps) → RVs T G H (L'.map fun p => keysA p.1) (L'.map fun p => V.ref p.2) := by
          intro L'
          induction L' with
          | nil => exact fun _ => .nil
          | cons x L' ih => exact fun m => .cons (hp x (m x List.mem_cons_self)).1 (ih fun p mp => m p (List.mem_cons_of_mem _ mp))
        exact this L s1
      · have : es.toList.map (·.2) = L.map fun p => Value.ref p.2 := by rw [R.en, List.map_map]; rfl
        rw [this]
        clear RT R s1 s2 this
        induction L with
        | nil => exact .nil
        | cons x L ih => exact .cons rfl ih
  · obtain ⟨ps, rfl, eu, hp⟩ := atms_of (X := X) rv vl h
    subst eu
    have fw : ∀ l : List L2.Key, l.Nodup → (∀ k ∈ l, k ∈ ps.map (·.1)) → l.length < 63 := fun l n m => by
      have z := nodup_len (l.map keyA) (ddA (ps.map fun p => keyA p.1)) (List.pairwise_map.mpr (n.imp fun n e => n (keyA_inj _ _ e))) fun x mx => by
        obtain ⟨k, mk, rfl⟩ := List.mem_map.mp mx
        obtain ⟨p', mp, e⟩ := List.mem_map.mp (m k mk)
        exact dd_mem.mpr (List.mem_map.mpr ⟨p', mp, by rw [e]⟩)
      rw [List.length_map] at z
      omega
    refine set_of (B := Batm X.prog X.w s.heap.objs.size ps) (I.ok.hd hc) pl.isList (batm_puts (by simp) fw (fun i v e => ?_) hp) (fun h' e _ => batm0 e) fun h' tk B ol => ?_
    · rw [List.getElem?_toArray, List.getElem?_map] at e
      obtain ⟨p, e1, e2⟩ := Option.map_eq_some_iff.mp e
      exact ⟨p, e1, e2.symm⟩
    · obtain ⟨L, es, ep, t, R, s1, s2, lz⟩ := B
      clear lz
      simp only [List.size_toArray, List.length_map, List.take_length] at s1 s2
      refine q h' tk es ep t (L.map fun p => keyA p.1) (L.map fun p => kV p.1) ol R.tb (dd_perm ?_ fun x => ?_) ?_ ?_
      · have : (L.map fun p => keyA p.1) = (L.map (·.1)).map keyA := by rw [List.map_map]; rfl
        rw [this]
        exact List.pairwise_map.mpr (R.nd.imp fun n e => n (keyA_inj _ _ e))
      · rw [List.mem_map, List.mem_map]
        constructor
        · rintro ⟨p, m, rfl⟩; exact ⟨p, s1 p m, rfl⟩
        · rintro ⟨p, m, rfl⟩
          obtain ⟨p', m', e⟩ := List.mem_map.mp (s2 p m)
          exact ⟨p', m', by rw [e]⟩
      · have : ∀ L' : List (L2.Key × Value), RVs T G H (L'.map fun p => keyA p.1) (L'.map fun p => kV p.1) := by
          intro L'
          induction L' with
          | nil => exact .nil
          | cons x L' ih =>
            refine .cons ?_ ih
            obtain ⟨k, _⟩ := x
            cases k
            · exact rv_i _
            · exact rv_s _
        exact this L
      · have e2 : es.toList.map (·.2) = L.map (·.2) := by rw [R.en, List.map_map]; rfl
        rw [e2]
        have ri := R.is
        clear R s1 s2 e2
        induction L with
        | nil => exact .nil
        | cons x L ih =>
          refine .cons ?_ (ih fun p m => ri p (List.mem_cons_of_mem _ m))
          rcases keyIs_shape (ri x List.mem_cons_self) with ⟨i, t, e1, e2⟩ | ⟨z, t, e1, e2⟩
          · show L2.RelV (kV x.1) x.2
            rw [e1, e2]; exact ⟨t, rfl⟩
          · show L2.RelV (kV x.1) x.2
            rw [e1, e2]; exact ⟨t, rfl⟩
end
end Q
/-! Ns8: sorted(set(e)), len(set(e)) as one step. -/
namespace Q
open PySem PySem.Spec PyProof.Rows L2
def ssA (m : Bool) : PN := fun as G Q => ∃ a xs, as = [a] ∧ lstOf G a = some xs ∧ setOk xs ∧ SrtOk xs ∧ new m (.lst (srt (ddA xs))) G Q
def lsA : PN := fun as G Q => ∃ a xs, as = [a] ∧ lstOf G a = some xs ∧ setOk xs ∧ Q (.int (ddA xs).length) G
section
variable {X : Cx} {T : Tx} {G : GS} {H : Hp} {pins : List (Addr × Obj)} {σ : L2.St} {s : Shared}
/-- the values of a list of data, sorted, in any later state -/
theorem sort_core2 (ok : T.Ok X) (I : Inv X pins σ H s) (rg : RG T H G) {xs : List A} {vs : List V} {us : List Value} (rv : RVs T G H xs vs) (vl : Vals vs us) (h : SrtOk xs) {s5 : Shared} (hk : Old s.heap s5.heap) (A : Around) (hA : A.units + 62 < cLine) :
    ∃ κ, PySem.W.SortsAt X.prog X.w A s5 κ us ∧ ∃ vs', RVs T G H (srt xs) vs' ∧ Vals vs' (PySem.W.sortVals κ false us us) := by
  have e0 := ei_and (ei_of rv vl) h.dat
  have rd : ∀ (u : Value) (x : Q.A), (∃ v, RV T G H x v ∧ RelV v u) ∧ (pyd x).isSome = true → ∃ as, Reads s5.heap u (dOf x) as := by
    rintro u x ⟨⟨v, r, q⟩, hx⟩
    obtain ⟨d, e⟩ := Option.isSome_iff_exists.mp hx
    obtain ⟨as, z, _⟩ := dat_reads ok I rg (Dt.of e) r q
    have e2 : dOf x = d := by unfold dOf; rw [e]; rfl
    rw [e2]
    exact ⟨as, Reads.keeps hk z⟩
  have e1 : EI (fun u d => ∃ as, Reads s5.heap u d as) us (xs.map dOf) := ei_map rd e0
  refine ⟨PySem.W.dataKind s5.heap (xs.map dOf), PySem.W.SortsAt.data (s := s5) e1 h.al h.sb fun d m => ?_, ?_⟩
  · obtain ⟨x, hx, rfl⟩ := List.mem_map.mp m
    have := h.dp x hx; omega
  · rw [vals_self]
    refine ei_to (PySem.W.sort_each (s := aLe) (ei_of rv vl) fun p hp q hq => ?_)
    have key : ∀ p ∈ us.zip xs, PySem.W.keyD (PySem.W.dataKind s5.heap (xs.map dOf)) p.1 = PySem.W.keyToks (dOf p.2) := fun p hp => by
      obtain ⟨as, z⟩ := rd _ _ (e0.zip p hp)
      exact PySem.W.keyD_some (PySem.W.dataKind_some h.al (List.mem_map.mpr ⟨p.2, (List.of_mem_zip hp).2, rfl⟩) z)
    rw [key p hp, key q hq]
    rfl
theorem ei_perm {α β : Type} {R : α → β → Prop} {as as' : List α} (p : as'.Perm as) : ∀ {bs : List β}, EI R as bs → ∃ bs', bs'.Perm bs ∧ EI R as' bs' := by
  induction p with
  | nil => intro bs h; cases h; exact ⟨[], .nil, .nil⟩
  | cons x _ ih =>
    intro bs h
    cases h with
    | cons h1 h2 =>
      obtain ⟨bs', p, e⟩ := ih h2
      exact ⟨_, p.cons _, .cons h1 e⟩
  | swap x y l =>
    intro bs h
    cases h with
    | cons h1 h2 =>
      cases h2 with
      | cons h3 h4 => exact ⟨_, List.Perm.swap .., .cons h3 (.cons h1 h4)⟩
  | trans _ _ ih1 ih2 =>
    intro bs h
    obtain ⟨b2, p2, e2⟩ := ih2 h
    obtain ⟨b1, p1, e1⟩ := ih1 e2
    exact ⟨b1, p1.trans p2, e1⟩
/-- sorted of the set at S -/
theorem sorted_setT (hc : X.calm = true) (ok : T.Ok X) (hu : X.A.units + 64 < cLine) (I : Inv X pins σ H s) (rg : RG T H G) {m : Bool} {xs xs1 : List A} {vs1 : List V} {S : Addr} {es : Array (Int × Value)} {ep : Nat} {t : SetTable} (R : Tbl X.w s.heap S es ep t)
    (pm : xs1.Perm (ddA xs)) (rv : RVs T G H xs1 vs1) (vl : Vals vs1 (es.toList.map (·.2))) (h : SrtOk xs) {Qa : KA} {Q : VK} (hf : new m (.lst (srt (ddA xs))) G Qa) (q : LQ T G H Qa Q) :
    wpAny (model X.prog X.w) X.A (call (.builtin "sorted") [.ref S]) (EP X pins σ Q) X.xe s := by
  obtain ⟨o, ho, hex, hd⟩ := R.ob
  have fw := R.fw
  have hz : sizeLine = 16777216 := by decide
  refine Calls.call_function_entry kind_sorted plain_sorted entry_sorted (args_sorted1 (Value.ref S)) ?_
  unfold Builtin.«sorted»
  refine wpAny_bind (m := checkCount "sorted" 1 1 _) (wpAny_pure (wpAny_bind (collect_set (A := X.A.in1) (I.ok.hd hc) ⟨o, ho, hex.1, hd⟩ R.fit (by unfold scanBound; omega) R.tb.ris R.ld fun s3 out k3 le g3 o3 p3 => ?_)))
  -- the members, in some order
  obtain ⟨xs2, px, e2⟩ := ei_perm p3 (ei_of rv vl)
  obtain ⟨vs2, rv2, vl2⟩ := ei_to e2
  have ex : srt xs2 = srt (ddA xs) := by
    have sub : SrtOk (ddA xs) := h.sub (fun y my => dd_mem.mp my) (by have := dd_len xs []; have := h.sz; simp only [List.length_nil] at *; show (List.foldl ddF [] xs).length ≤ _; omega)
    exact srt_perm sub (px.trans pm)
  have len : out.length = xs2.length := by rw [← vl2.length, rv2.len]
  have l64 : out.length < 64 := by rw [p3.length_eq, List.length_map, Array.length_toList]; exact fw
  have so : SrtOk xs2 := h.sub (fun y my => dd_mem.mp ((px.trans pm).mem_iff.mp my)) (by omega)
  refine wpAny_bind (wpAny_newList ?_ (by omega))
  have hoL : (s3.heap.push (seqObj "list" out.toArray 0)).get? s3.heap.objs.size = some (seqObj "list" out.toArray 0) := Heap.get?_push_size _ rfl
  have hA : X.A.in1.in1.units + 62 < cLine := by have : X.A.in1.in1.units = X.A.units + 2 := rfl; omega
  obtain ⟨κ, SO, vs', rv', vl'⟩ := sort_core2 ok I rg rv2 vl2 so (s5 := { s3 with heap := PySem.W.sortingHeap (s3.heap.push (seqObj "list" out.toArray 0)) s3.heap.objs.size out })
    (fun b ob e => PySem.W.sortingHeap_old (Nat.ne_of_lt (Heap.lt_size (k3 b ob e))) (Heap.get?_push_of_some _ (k3 b ob e))) X.A.in1.in1 hA
  rw [ex] at rv'
  show wpAny _ _ _ _ _ { s3 with heap := s3.heap.push (seqObj "list" out.toArray 0) }
  refine wpAny_bind (wpAny_holding (wpAny_call_entry slot_list_sort ⟨_, hoL, rfl⟩ entry_list_sort
    (PySem.W.list_sort_vals (s := { s3 with heap := s3.heap.push (seqObj "list" out.toArray 0) }) hoL SO (by omega) ⟨_, rfl, ?_⟩) (args_list_sort (.ref s3.heap.objs.size))))
  obtain ⟨e', he'⟩ := sortedHeap_at (vs := out) (out := (PySem.W.sortVals κ false out out).toArray) hoL
  have hlen : vs'.length ≤ sizeLine := by
    rw [rv'.len, ← ex]
    show (List.mergeSort _ aLe).length ≤ _
    rw [List.length_mergeSort]; omega
  have keep : Old s.heap (sortedHeap (s3.heap.push (seqObj "list" out.toArray 0)) s3.heap.objs.size out (PySem.W.sortVals κ false out out).toArray) := fun b u e => by
    have hb : b < s3.heap.objs.size := Heap.lt_size (k3 b u e)
    rw [sortedHeap_old (Nat.ne_of_lt hb) (by rw [size_push']; exact Nat.lt_succ_of_lt hb)]
    exact Heap.get?_push_of_some _ (k3 b u e)
  have fresh := I.hok.fresh le
  refine wpAny_pure ⟨_, rfl, .ref s3.heap.objs.size, upd H s3.heap.objs.size (.lst vs'), I.call' (ch := []) (s' := { s3 with heap := sortedHeap (s3.heap.push (seqObj "list" out.toArray 0)) s3.heap.objs.size out (PySem.W.sortVals κ false out out).toArray }) o3 (Un.laid keep le fresh)
    (I.hok.laid keep le ⟨hlen, _, e', vl', he'⟩) (by show AllBare s3.gens; rw [g3]; exact I.bare) (fun _ z => nomatch z), rfl, new_lst rg rv' hf q fresh⟩
variable {W : L2.WX} {e : Expr} {te : EA} {p p2 q2 pos : Pos}
theorem p_ss {m : Bool} (hc : X.calm = true) (ok : T.Ok X) (hu : X.A.units + 64 < cLine) (g1 : Gl X "sorted") (m1 : X.mg "sorted" = none) (g2 : Gl X "set") (m2 : X.mg "set" = none) (he : PE X e (lE T W te)) (st : starEach [e] X.env = [(false, eval e X.env)]) :
    PE X (.Call (.Name "sorted" p) [.Call (.Name "set" p2) [e] [] q2] [] pos) (lE T W (eBi (ssA m) (lCons te lNil))) := by
  refine ⟨fun pins s σ H Q I h => ?_⟩
  obtain ⟨ς, G, Qa, Xa, rs, rg, h, q, hx⟩ := h
  have hh : lE T W te σ H (fun v H1 => ∃ a, ∃ G1 : GS, RV T G1 H1 a v ∧ RG T H1 G1 ∧ Kp G H G1 H1 ∧ ssA m [a] G1 Qa) := ⟨ς, G, _, Xa, rs, rg, h, fun a G1 v H1 h1 rv rg1 k1 => ⟨a, G1, rv, rg1, k1, h1⟩, hx⟩
  refine Call_ (ld_blt I g1 m1 boot_sorted (PyProof.Rows.callWith_builtin1 (PyProof.Rows.args_cons ?_ rfl) rfl rfl))
  refine Call_ (ld_blt I g2 m2 PyProof.Rows.boot_set (PyProof.Rows.callWith_type1 (PyProof.Rows.args_cons (thn (he.run pins s σ H _ I hh) fun u s1 q1 => PyProof.Rows.args_nil ?_) st) st rfl))
  obtain ⟨v, H1, I1, ru, a, G1, rv, rg1, k1, a', xs, ea, e1, so, sr, hn⟩ := q1
  cases ea
  obtain ⟨l, vs, rfl, sq, rvs⟩ := lstOf_rep rg1 e1 rv
  cases ru
  refine set_items ok.k hc hu I1 sq rvs so fun h' tk es ep t xs1 vs1 ol R pm rv1 vl1 => PyProof.Rows.args_nil ?_
  exact sorted_setT hc ok hu (I1.kept (t' := tk) ol) rg1 R pm rv1 vl1 sr hn (q.step k1)
theorem p_ls (hc : X.calm = true) (ok : T.Ok X) (hu : X.A.units + 64 < cLine) (g1 : Gl X "len") (m1 : X.mg "len" = none) (g2 : Gl X "set") (m2 : X.mg "set" = none) (he : PE X e (lE T W te)) (st : starEach [e] X.env = [(false, eval e X.env)]) :
    PE X (.Call (.Name "len" p) [.Call (.Name "set" p2) [e] [] q2] [] pos) (lE T W (eBi lsA (lCons te lNil))) := by
  refine ⟨fun pins s σ H Q I h => ?_⟩
  obtain ⟨ς, G, Qa, Xa, rs, rg, h, q, hx⟩ := h
  have hh : lE T W te σ H (fun v H1 => ∃ a, ∃ G1 : GS, RV T G1 H1 a v ∧ RG T H1 G1 ∧ Kp G H G1 H1 ∧ lsA [a] G1 Qa) := ⟨ς, G, _, Xa, rs, rg, h, fun a G1 v H1 h1 rv rg1 k1 => ⟨a, G1, rv, rg1, k1, h1⟩, hx⟩
  refine Call_ (ld_blt I g1 m1 PySem.boot_len (PyProof.Rows.callWith_builtin1 (PyProof.Rows.args_cons ?_ rfl) rfl rfl))
  refine Call_ (ld_blt I g2 m2 PyProof.Rows.boot_set (PyProof.Rows.callWith_type1 (PyProof.Rows.args_cons (thn (he.run pins s σ H _ I hh) fun u s1 q1 => PyProof.Rows.args_nil ?_) st) st rfl))
  obtain ⟨v, H1, I1, ru, a, G1, rv, rg1, k1, a', xs, ea, e1, so, hn⟩ := q1
  cases ea
  obtain ⟨l, vs, rfl, sq, rvs⟩ := lstOf_rep rg1 e1 rv
  cases ru
  refine set_items ok.k hc hu I1 sq rvs so fun h' tk es ep t xs1 vs1 ol R pm rv1 vl1 => PyProof.Rows.args_nil ?_
  obtain ⟨o, ho, hex, hd⟩ := R.ob
  have sz : es.size = (ddA xs).length := by rw [← pm.length_eq, ← rv1.len, vl1.length, List.length_map, Array.length_toList]
  have fw := R.fw
  refine call_len_set (s := { s1 with heap := h', toks := tk }) ho hex hd (Tbl.fit (s := { s1 with heap := h', toks := tk }) R) (by omega) ⟨.int (ddA xs).length, H1, (I1.kept (t' := tk) ol).tok _, ⟨_, by rw [sz]⟩, q.step k1 _ _ _ _ hn (rv_i _) rg1 Kp.refl⟩
end
end Q
/-! Nc1: classes of the text: instances, fields, methods, making. -/
namespace Q
open PySem PySem.Spec PyProof.Rows L2
/-- a class of the text: frz: nobody changes its instances behind __init__; that def's key; its methods; its fields -/
structure CI where
  frz : Bool
  init : String
  ms : List (Str × String)
  fs : List Str
  /-- the properties; how __init__ is called with keywords: how many values ahead, the keywords, what fills up; whether it must be called so -/
  ps : List (Str × String) := []
  kws : List (Nat × List Str × List A) := []
  ko : Bool := false
abbrev CT := List (Str × CI)
/-- an instance's class and its fields' names -/
def clsOf (G : Gp) : A → Option (Str × List Str)
  | .fin C ns _ => some (C, ns)
  | .ref p => match G p with
    | some (.ins C fs) => some (C, fs.map (·.1))
    | _ => none
  | _ => none
def fldOf (G : Gp) (f : Str) : A → Option A
  | .fin _ ns xs => (ns.zip xs).lookup f
  | .ref p => match G p with
    | some (.ins _ fs) => fs.lookup f
    | _ => none
  | _ => none
def mthOf (cl : CT) (C m : Str) : Option String := (cl.lookup C).bind fun ci => ci.ms.lookup m
def prpOf (cl : CT) (C m : Str) : Option String := (cl.lookup C).bind fun ci => ci.ps.lookup m
def isFl (cl : CT) (C f : Str) : Bool := match cl.lookup C with
  | some ci => ci.fs.contains f
  | none => false
section
variable {T : Tx} {H : Hp} {G : GS} {x y : A} {v : V} {C f : Str} {ns : List Str}
theorem cls_rep (rg : RG T H G) (h : clsOf G x = some (C, ns)) (r : RV T G H x v) : ∃ a c dx fs, v = .ref a ∧ H a = some (.ins c dx fs) ∧ T.cm C = some c ∧ fs.map (·.1) = ns := by
  cases x with
  | fin C' ns' xs =>
    simp only [clsOf, Option.some.injEq, Prod.mk.injEq] at h
    obtain ⟨rfl, rfl⟩ := h
    simp only [RV] at r
    obtain ⟨p, c, dx, vs, rfl, _, m, e, l, rv⟩ := r
    refine ⟨p, c, dx, _, rfl, e, m, ?_⟩
    rw [List.map_fst_zip]
    rw [rv.len]; omega
  | ref p =>
    obtain rfl := rv_ref r
    simp only [clsOf] at h
    split at h
    · rename_i C' fs e
      simp only [Option.some.injEq, Prod.mk.injEq] at h
      obtain ⟨rfl, rfl⟩ := h
      obtain ⟨c, dx, gs, m, e1, rf⟩ := rg p _ e
      refine ⟨p, c, dx, gs, rfl, e1, m, ?_⟩
      have z : ∀ {fs : List (Str × A)} {gs : List (Str × V)}, RF T G H fs gs → gs.map (·.1) = fs.map (·.1) := by
        intro fs gs rf
        induction rf with
        | nil => rfl
        | cons h _ ih => rw [List.map_cons, List.map_cons, ih, h.1]
      exact z rf
    · cases h
  | _ => simp [clsOf] at h
theorem zip_lookup : ∀ {ns : List Str} {xs : List A} {vs : List V}, RVs T G H xs vs → (ns.zip xs).lookup f = some y → ∃ w, (ns.zip vs).lookup f = some w ∧ RV T G H y w
  | [], _, _, _, h => by simp at h
  | n :: ns, [], _, _, h => by simp at h
  | n :: ns, x :: xs, vs, r, h => by
    simp only [RVs] at r
    obtain ⟨v, vs', rfl, r1, r2⟩ := r
    simp only [List.zip_cons_cons, List.lookup_cons] at h ⊢
    split at h
    · cases h; exact ⟨v, rfl, r1⟩
    · exact zip_lookup r2 h
theorem rf_lookup {fs : List (Str × A)} {gs : List (Str × V)} (r : RF T G H fs gs) (h : fs.lookup f = some y) : ∃ w, gs.lookup f = some w ∧ RV T G H y w := by
  induction r with
  | nil => simp at h
  | @cons p q ps qs h1 _ ih =>
    obtain ⟨n, a⟩ := p
    obtain ⟨n', b⟩ := q
    obtain ⟨e, r1⟩ := h1
    simp only at e
    subst e
    simp only [List.lookup_cons] at h ⊢
    split at h
    · cases h; exact ⟨b, rfl, r1⟩
    · exact ih h
theorem fld_rep (rg : RG T H G) (h : fldOf G f x = some y) (hc : clsOf G x = some (C, ns)) (r : RV T G H x v) : ∃ a c dx fs w, v = .ref a ∧ H a = some (.ins c dx fs) ∧ T.cm C = some c ∧ fs.lookup f = some w ∧ RV T G H y w := by
  cases x with
  | fin C' ns' xs =>
    simp only [clsOf, Option.some.injEq, Prod.mk.injEq] at hc
    obtain ⟨rfl, rfl⟩ := hc
    simp only [RV] at r
    obtain ⟨p, c, dx, vs, rfl, _, m, e, l, rv⟩ := r
    obtain ⟨w, e1, r1⟩ := zip_lookup rv h
    exact ⟨p, c, dx, _, w, rfl, e, m, e1, r1⟩
  | ref p =>
    obtain rfl := rv_ref r
    simp only [clsOf] at hc
    simp only [fldOf] at h
    split at hc
    · rename_i C' fs e
      simp only [Option.some.injEq, Prod.mk.injEq] at hc
      obtain ⟨rfl, rfl⟩ := hc
      rw [e] at h
      obtain ⟨c, dx, gs, m, e1, rf⟩ := rg p _ e
      obtain ⟨w, e2, r1⟩ := rf_lookup rf h
      exact ⟨p, c, dx, gs, w, rfl, e1, m, e2, r1⟩
    · cases hc
  | _ => simp [clsOf] at hc
end
/-! ### what holds of the classes and their defs -/
/-- the def F stands at f: what it promises, how it binds where the values ds fill up -/
def HasFn (X : Cx) (T : Tx) (FT : FTab) (m : Nat) (F : String) (f : Addr) (ds : List A) : Prop := ∃ fd ps us dvs, FnG X.prog X.w X.K X.mg X.base (L2.CX X.prog X.w) (3 * m) f fd ps (spA T FT m F) ∧ Vals dvs us ∧ (∀ (G : GS) H, RVs T G H ds dvs) ∧ Binds X.K fd ps us
/-- the def F stands at f: what it promises, called with keywords so -/
def HasK (X : Cx) (T : Tx) (FT : FTab) (m : Nat) (F : String) (p : Nat × List Str × List A) (f : Addr) : Prop := ∃ fd ps us dvs, FnG X.prog X.w X.K X.mg X.base (L2.CX X.prog X.w) (3 * m) f fd ps (spA T FT m F) ∧ Vals dvs us ∧ (∀ (G : GS) H, RVs T G H p.2.2 dvs) ∧
  ∀ (s : Shared) (vs ws : List Value), X.K.In s.heap → vs.length = p.1 → ws.length = p.2.1.length → BindsTo s fd ⟨vs, p.2.1.zip ws⟩ (ps.zip (vs ++ ws ++ us))
def kindNames : List String := ["NoneType", "bool", "int", "str", "tuple", "list", "dict"]
/-- what of the written part a class must have -/
structure ClsX (K : PySem.W.Frag) (c : Addr) : Prop where
  cl : Cls K c
  sf : PySem.W.selfFirst K c = true
  ne : PySem.W.findIn K (.ref c) "__ne__" = some (some (.builtin "object.__ne__"))
  mo : PySem.W.mroIn K c (.type "object") = some true
  ka : PySem.W.findIn K (.ref c) "__class__" = some (some (.builtin "object.__class__"))
  kn : PySem.W.specialIn K (.builtin "object.__class__") "__get__" = some (some (.builtin "getset_descriptor.__get__"))
  kt : PySem.W.takesIn K (.builtin "object.__class__") = some true
  sub : ∀ n ∈ kindNames, PySem.W.subIn K (.type n) (.ref c) = some false
  kit : ∀ n ∈ kindNames, PySem.W.kitOne K (.type n) (.ref c) = some false
structure COk (X : Cx) (T : Tx) (FT : FTab) (m : Nat) (cl : CT) (df : List (String × Nat × List A)) : Prop where
  cls : ∀ {C ci}, cl.lookup C = some ci → ∃ c, T.cm C = some c ∧ X.mg C = some (.ref c) ∧ ClsX X.K c
  two : ∀ {C C' ci ci' c c'}, cl.lookup C = some ci → cl.lookup C' = some ci' → T.cm C = some c → T.cm C' = some c' → PySem.W.kitOne X.K (.ref c) (.ref c') = some (decide (C = C')) ∧ PySem.W.notFirst X.K c (.ref c') = true
  mak : ∀ {C ci c}, cl.lookup C = some ci → T.cm C = some c → ∃ f, Mk X.K c f ∧ (ci.ko = false → HasFn X T FT m ci.init f []) ∧ (∀ k as, (ci.init, k, as) ∈ df → HasFn X T FT m ci.init f as) ∧ ∀ p ∈ ci.kws, HasK X T FT m ci.init p f
  fl : ∀ {C c g}, isFl cl C g = true → T.cm C = some c → NoAttr X.K c g
  mt : ∀ {C c mn F}, mthOf cl C mn = some F → T.cm C = some c → ∃ f, Meth X.K c mn f ∧ HasFn X T FT m F f [] ∧ ∀ k as, (F, k, as) ∈ df → HasFn X T FT m F f as
  pr : ∀ {C c g F}, prpOf cl C g = some F → T.cm C = some c → ∃ p f, PropOf X.K c g p f ∧ HasFn X T FT m F f []
theorem isFl_cl {cl : CT} {C f : Str} (h : isFl cl C f = true) : ∃ ci, cl.lookup C = some ci := by
  unfold isFl at h
  split at h
  · rename_i ci e; exact ⟨ci, e⟩
  · cases h
theorem mthOf_cl {cl : CT} {C m : Str} {F : String} (h : mthOf cl C m = some F) : ∃ ci, cl.lookup C = some ci := by
  unfold mthOf at h
  cases e : cl.lookup C with
  | none => rw [e] at h; cases h
  | some ci => exact ⟨ci, rfl⟩
section
variable {X : Cx} {T : Tx} {FT : FTab} {m : Nat} {F : String} {f : Addr} {ds as : List A} {cl : CT} {df : List (String × Nat × List A)}
/-- a call's end, by its result -/
def EndR (X : Cx) (pins : List (Addr × Obj)) (σ : L2.St) (Q : VK) (E' : Value → Shared → Prop) (r : Result) (s' : Shared) : Prop := match r with
  | .ok (.ret u) => EP X pins σ Q u s'
  | .ok _ => False
  | .error e => E' e s'
theorem goC {A : Around} {E : XK} {E' : Value → Shared → Prop} {pins : List (Addr × Obj)} {σ : L2.St} {H : Hp} {s : Shared} {Q : VK} {us : List Value} {vs : List V} {G : GS} {Qa : KA} {Xa : KX} (hF : HasFn X T FT m F f ds) (hr : Room (3 * m) A) (hg : A.guards = some []) (e0 : Env0 X.prog X.w X.K X.mg X.base A X.stack s H)
    (I : Inv X pins σ H s) (r : Vals vs us) (rv : RVs T G H as vs) (rg : RG T H G) (h : runF FT m F (as ++ ds) G Qa Xa) (q : LQ T G H Qa Q) (hx : LX T G H Xa E) (he : ∀ e s', L2.CX X.prog X.w X.stack H s E e s' → E' e s') :
    codeAny (model X.prog X.w) A (.call (.ref f) ⟨us, []⟩) (EndR X pins σ Q E') s := by
  obtain ⟨fd, ps, us', dvs, FN, rd, rvd, hb⟩ := hF
  have hsp : spA T FT m F (vs ++ dvs) H Q E := ⟨as ++ ds, G, Qa, Xa, rv.app (rvd G H), rg, h, q, hx⟩
  have r2 : Vals (vs ++ dvs) (us ++ us') := r.append rd
  have hl : (us ++ us').length = ps.length := by rw [← r2.length]; exact FN.len _ _ _ _ hsp
  refine codeAny_mono (FN.run A hr hg X.stack s H ⟨us, []⟩ (us ++ us') (vs ++ dvs) Q E e0 (hb s us I.kIn hl) r2 hsp) fun res s' hq => ?_
  match res, hq with
  | .error er, hq => exact he _ _ hq
  | .ok (.ret u), hq => exact I.after hq
theorem goA {A : Around} {E : XK} {E' : Value → Shared → Prop} {pins : List (Addr × Obj)} {σ : L2.St} {H : Hp} {s : Shared} {Q : VK} {us : List Value} {vs : List V} {G : GS} {Qa : KA} {Xa : KX} (hF : HasFn X T FT m F f ds) (hr : Room (3 * m) A) (hg : A.guards = some []) (hf : A.frames = X.A.frames)
    (I : Inv X pins σ H s) (r : Vals vs us) (rv : RVs T G H as vs) (rg : RG T H G) (h : runF FT m F (as ++ ds) G Qa Xa) (q : LQ T G H Qa Q) (hx : LX T G H Xa E) (he : ∀ e s', L2.CX X.prog X.w X.stack H s E e s' → E' e s') :
    wpAny (model X.prog X.w) A (call (.ref f) us) (EP X pins σ Q) E' s := by
  have e0 : Env0 X.prog X.w X.K X.mg X.base A X.stack s H := by
    have e := I.env0
    exact ⟨by rw [hf]; exact e.frames, e.mod, e.bs, e.bsz, e.funs, e.frf, e.hok, e.bare⟩
  refine wpAny_call (codeAny_mono (goC hF hr hg e0 I r rv rg h q hx he) fun res s' hq => ?_)
  match res, hq with
  | .error er, hq => exact hq
  | .ok (.ret u), hq => exact hq
/-- no exception: no wish of one -/
theorem noEx {H : Hp} {s : Shared} {fr : List Env} {e : Value} {s' : Shared} {E' : Value → Shared → Prop} (h : L2.CX X.prog X.w fr H s (fun _ _ _ => False) e s') : E' e s' := by
  obtain ⟨_, _, _, _, _, _, _, _, _, _, _, _, z⟩ := h
  exact z.elim
end
/-! ### fields -/
def eFld (cl : CT) (f : Str) (ta : EA) : EA := fun ς G Q X => ta ς G (fun x G1 => ∃ C ns y, clsOf G1 x = some (C, ns) ∧ isFl cl C f = true ∧ fldOf G1 f x = some y ∧ Q y G1) X
/-- o.f = e -/
def putI (f : Str) (y : A) : List (Str × A) → List (Str × A)
  | [] => [(f, y)]
  | (g, z) :: r => if g = f then (g, y) :: r else (g, z) :: putI f y r
def sFldA (cl : CT) (f : Str) (to te : EA) : SA := fun D ς G => te ς G (fun y G1 => to ς G1 (fun x G2 => ∃ p C fs, x = .ref p ∧ G2 p = some (.ins C fs) ∧ isFl cl C f = true ∧ fs.length < 1000 ∧ D.nx ς (up G2 p (.ins C (putI f y fs)))) (fun e => D.ex e ς)) (fun e => D.ex e ς)
section
variable {X : Cx} {T : Tx} {FT : FTab} {m : Nat} {cl : CT} {df : List (String × Nat × List A)} {W : L2.WX} {o e : Expr} {f : Str} {pos pos' : Pos} {ta to te : EA}
theorem p_fld (ok : COk X T FT m cl df) (he : PE X e (lE T W ta)) (hb : attributeBase e f X.env (eval e X.env) = eval e X.env) : PE X (.Attribute e f pos) (lE T W (eFld cl f ta)) := by
  refine PE.imp (pe_fld he hb) fun σ H Q ⟨ς, G, Qa, Xa, rs, rg, h, q, hx⟩ => ⟨ς, G, _, Xa, rs, rg, h, fun x G1 v H1 h1 rv rg1 k1 => ?_, hx⟩
  obtain ⟨C, ns, y, e1, e2, e3, h1⟩ := h1
  obtain ⟨a, c, dx, fs, w, rfl, ea, hc, l, rw'⟩ := fld_rep rg1 e3 e1 rv
  obtain ⟨ci, hci⟩ := isFl_cl e2
  obtain ⟨c', hc', _, kx⟩ := ok.cls hci
  have kc := kx.cl
  rw [hc] at hc'
  cases hc'
  exact ⟨a, c, dx, fs, w, rfl, ea, kc, ok.fl e2 hc, l, q _ _ _ _ h1 rw' rg1 k1⟩
theorem rf_put {G : GS} {H : Hp} {y : A} {v : V} {fs : List (Str × A)} {gs : List (Str × V)} (r : RF T G H fs gs) (rv : RV T G H y v) : RF T G H (putI f y fs) (putF f v gs) := by
  induction r with
  | nil => exact .cons ⟨rfl, rv⟩ .nil
  | @cons p q ps qs h1 h2 ih =>
    obtain ⟨n, a⟩ := p
    obtain ⟨n', b⟩ := q
    obtain ⟨e, r1⟩ := h1
    simp only at e
    subst e
    simp only [putI, putF]
    split
    · exact .cons ⟨rfl, rv⟩ h2
    · exact .cons ⟨rfl, r1⟩ ih
theorem rf_len {G : GS} {H : Hp} {fs : List (Str × A)} {gs : List (Str × V)} (r : RF T G H fs gs) : gs.length = fs.length := by
  induction r with
  | nil => rfl
  | cons _ _ ih => rw [List.length_cons, List.length_cons, ih]
theorem s_fld (ok : COk X T FT m cl df) (ho : PE X o (lE T W to)) (he : PE X e (lE T W te)) (hs : swapsWith e (some (.Attribute o f pos')) pos.line X.env = pure false) : PS X (.Assign [.Attribute o f pos'] e pos) (lS T W (sFldA cl f to te)) := by
  refine PS.imp (ps_fld ho he hs) fun D σ H ⟨ς, G, Da, rs, rg, h, q⟩ => ⟨ς, G, _, fun e => Da.ex e ς, rs, rg, h, fun y G1 v1 H1 h1 r1 rg1 k1 => ?_, q.lx rg rs⟩
  refine ⟨ς, G1, _, fun e => Da.ex e ς, rs.mono k1, rg1, h1, fun x G2 v2 H2 h2 r2 rg2 k2 => ?_, (q.lx rg rs).step k1⟩
  obtain ⟨p, C, fs, rfl, e1, e2, hl, h2⟩ := h2
  obtain rfl := rv_ref r2
  have k12 := k1.trans k2
  obtain ⟨c, dx, gs, hc, ea, rf⟩ := rg2 p _ e1
  obtain ⟨ci, hci⟩ := isFl_cl e2
  obtain ⟨c', hc', _, kx⟩ := ok.cls hci
  have kc := kx.cl
  rw [hc] at hc'
  cases hc'
  have kw : Kp G2 H2 (G2.up p (.ins C (putI f y fs))) (upd H2 p (.ins c dx (putF f v1 gs))) := Kp.wr (by rw [e1]; simp)
  exact ⟨p, c, dx, gs, rfl, ea, kc, ok.fl e2 hc, by rw [rf_len rf]; exact hl, q.nx _ (G2.up p (.ins C (putI f y fs))) _ _ h2 ((rs.mono k12).mono kw) (rg2.up kw ⟨c, dx, _, hc, upd_same, (rf_put rf (r1.mono k2)).mono kw.ks⟩) (k12.trans kw)⟩
/-! ### methods -/
/-- the values behind the written ones -/
def lApp (t : LA) (ds : List A) : LA := fun ς G Q X => t ς G (fun as G1 => Q (as ++ ds) G1) X
/-- o.mn(..) of an instance, found by its class -/
def eMe (cl : CT) (c : Cal) (mn : Str) (to : EA) (t : LA) : EA := fun ς G Q X => to ς G (fun x G1 => ∃ C ns F, clsOf G1 x = some (C, ns) ∧ ns.contains mn = false ∧ mthOf cl C mn = some F ∧ t ς G1 (fun as G2 => c F (x :: as) G2 Q X) X) X
theorem lookup_none {fs : List (Str × V)} {mn : Str} (h : (fs.map (·.1)).contains mn = false) : fs.lookup mn = none := by
  induction fs with
  | nil => rfl
  | cons p fs ih =>
    obtain ⟨n, a⟩ := p
    simp only [List.map_cons, List.contains_cons, Bool.or_eq_false_iff] at h
    rw [List.lookup_cons, h.1]
    exact ih h.2
theorem p_me {es : List Expr} {t : LA} {apos : Pos} {pl : Sem Bool} (ok : COk X T FT m cl df) (hr : Room (3 * m) X.A) (hg : X.A.guards = some []) (tk : Takes X W) (he : PE X o (lE T W to)) (ha : PA X (e :: es) (lL T W t))
    (hst : starEach (e :: es) X.env = (false, eval e X.env) :: starEach es X.env) (hpl : (backTo pos (starEach es X.env)).any (·.1) = false)
    (ht : eval (.Call (.Attribute o f apos) (e :: es) [] pos) X.env = (do
      let ov ← eval o X.env
      standAt apos.atName
      let (f, first) ← holding [ov] (getMethod ov f pl)
      callWith pos f first (backTo pos (starEach (e :: es) X.env)) (backToKw pos (keywordEach [] X.env)))) : PE X (.Call (.Attribute o f apos) (e :: es) [] pos) (lE T W (eMe cl (runF FT m) f to t)) := by
  refine ⟨fun pins s σ H Q I h => ?_⟩
  obtain ⟨ς, G, Qa, Xa, rs, rg, h, q, hx⟩ := h
  have h' : lE T W to σ H fun x H1 => ∃ a C dx fs g, x = .ref a ∧ H1 a = some (.ins C dx fs) ∧ Cls X.K C ∧ Meth X.K C f g ∧ fs.lookup f = none ∧
      ∀ s1, Inv X pins σ H1 s1 → wpAny (model X.prog X.w) X.A (callWith pos (.ref g) [.ref a] (backTo pos (starEach (e :: es) X.env)) (backToKw pos (keywordEach [] X.env))) (EP X pins σ Q) X.xe s1 := by
    refine ⟨ς, G, _, Xa, rs, rg, h, fun x G1 v H1 h1 rv rg1 k1 => ?_, hx⟩
    obtain ⟨C, ns, F, e1, e2, e3, h1⟩ := h1
    obtain ⟨a, c, dx, fs, rfl, ea, hc, e4⟩ := cls_rep rg1 e1 rv
    obtain ⟨ci, hci⟩ := mthOf_cl e3
    obtain ⟨c', hc', _, kx⟩ := ok.cls hci
    have kc := kx.cl
    rw [hc] at hc'
    cases hc'
    obtain ⟨g, M, hF, _⟩ := ok.mt e3 hc
    refine ⟨a, c, dx, fs, g, rfl, ea, kc, M, lookup_none (by rw [e4]; exact e2), fun s1 I1 => ?_⟩
    have hh : lL T W t σ H1 (fun vs H2 => ∃ as, ∃ G2 : GS, ∃ ra : RVs T G2 H2 as vs, RG T H2 G2 ∧ Kp G1 H1 G2 H2 ∧ runF FT m F (x :: as) G2 Qa Xa) := ⟨ς, G1, _, Xa, rs.mono k1, rg1, h1, fun as G2 vs H2 h2 rw' rg2 k2 => ⟨as, G2, rw', rg2, k2, h2⟩, hx.step k1⟩
    refine PySem.W.callWith_K (first := [.ref a]) (h₀ := X.base) I1.ok.mod.kin M.kp (thn (ha.run pos pins s1 σ H1 _ I1 hh) fun us s2 ⟨vs, H2, I2, r2, as, G2, ra, rg2, k2, h2⟩ => ⟨I2.kIn, ?_⟩) hst hpl
    exact goA (as := x :: as) hF hr hg rfl I2 (show Vals (V.ref a :: vs) (Value.ref a :: us) from .cons rfl r2) (.cons (rv.mono k2) ra) rg2 (by rw [List.append_nil]; exact h2) (q.step (k1.trans k2)) (hx.step (k1.trans k2)) (fun e s' c => passAt tk σ pins H2 s2 e s' I2 c)
  exact methcall_of he I h' ht
theorem p_me0 {apos : Pos} {pl : Sem Bool} (ok : COk X T FT m cl df) (hr : Room (3 * m) X.A) (hg : X.A.guards = some []) (tk : Takes X W) (he : PE X o (lE T W to))
    (ht : eval (.Call (.Attribute o f apos) [] [] pos) X.env = (do
      let ov ← eval o X.env
      standAt apos.atName
      let (f, first) ← holding [ov] (getMethod ov f pl)
      callWith pos f first (backTo pos (starEach [] X.env)) (backToKw pos (keywordEach [] X.env)))) : PE X (.Call (.Attribute o f apos) [] [] pos) (lE T W (eMe cl (runF FT m) f to lNil)) := by
  refine ⟨fun pins s σ H Q I h => ?_⟩
  obtain ⟨ς, G, Qa, Xa, rs, rg, h, q, hx⟩ := h
  have h' : lE T W to σ H fun x H1 => ∃ a C dx fs g, x = .ref a ∧ H1 a = some (.ins C dx fs) ∧ Cls X.K C ∧ Meth X.K C f g ∧ fs.lookup f = none ∧
      ∀ s1, Inv X pins σ H1 s1 → wpAny (model X.prog X.w) X.A (callWith pos (.ref g) [.ref a] (backTo pos (starEach [] X.env)) (backToKw pos (keywordEach [] X.env))) (EP X pins σ Q) X.xe s1 := by
    refine ⟨ς, G, _, Xa, rs, rg, h, fun x G1 v H1 h1 rv rg1 k1 => ?_, hx⟩
    obtain ⟨C, ns, F, e1, e2, e3, h1⟩ := h1
    obtain ⟨a, c, dx, fs, rfl, ea, hc, e4⟩ := cls_rep rg1 e1 rv
    obtain ⟨ci, hci⟩ := mthOf_cl e3
    obtain ⟨c', hc', _, kx⟩ := ok.cls hci
    have kc := kx.cl
    rw [hc] at hc'
    cases hc'
    obtain ⟨g, M, hF, _⟩ := ok.mt e3 hc
    refine ⟨a, c, dx, fs, g, rfl, ea, kc, M, lookup_none (by rw [e4]; exact e2), fun s1 I1 => ?_⟩
    refine PySem.W.callWith_K0 (first := [.ref a]) I1.kIn M.kp ?_
    exact goA (as := [x]) hF hr hg rfl I1 (show Vals [V.ref a] [Value.ref a] from .cons rfl .nil) (.one rv) rg1 (by rw [List.append_nil]; exact h1) (q.step k1) (hx.step k1) (fun e s' c => passAt tk σ pins H1 s1 e s' I1 c)
  exact methcall_of he I h' ht
/-! ### making -/
/-- C(..): a new instance, then __init__ with the written values and ds -/
def eMk (cl : CT) (c : Cal) (C : Str) (t : LA) (ds : List A) : EA := fun ς G Q X => t ς G (fun as G1 => match cl.lookup C with
  | some ci => ∀ p, G1 p = none → c ci.init (.ref p :: (as ++ ds)) (up G1 p (.ins C [])) (fun v G2 => v = .non ∧ match ci.frz with
    | false => Q (.ref p) G2
    | true => ∃ fs, G2 p = some (.ins C fs) ∧ Q (.fin C (fs.map (·.1)) (fs.map (·.2))) (rm p G2)) X
  | none => False) X
theorem a_ref {G : GS} {H : Hp} (p : Addr) : RV T G H (.ref p) (.ref p) := by simp only [RV]
theorem run_mk {C : Str} {ci : CI} {ds : List A} {pins : List (Addr × Obj)} {σ : L2.St} {H : Hp} {s : Shared} {Q : VK} {us : List Value} {vs : List V} {as : List A} {G : GS} {Qa : KA} {Xa : KX} {c f : Addr} (hl : cl.lookup C = some ci) (hc : T.cm C = some c) (M : Mk X.K c f) (hF : HasFn X T FT m ci.init f ds) (hr : Room (3 * m + 1) X.A) (hg : X.A.guards = some []) (tk : Takes X W)
    (I : Inv X pins σ H s) (r : Vals vs us) (rv : RVs T G H as vs) (rg : RG T H G) (q : LQ T G H Qa Q) (hx : LX T G H Xa (WE W σ))
    (h : ∀ p, G p = none → runF FT m ci.init (.ref p :: (as ++ ds)) (up G p (.ins C [])) (fun v G2 => v = .non ∧ match ci.frz with
    | false => Qa (.ref p) G2
    | true => ∃ fs, G2 p = some (.ins C fs) ∧ Qa (.fin C (fs.map (·.1)) (fs.map (·.2))) (rm p G2)) Xa) : wpAny (model X.prog X.w) X.A (call (.ref c) us) (EP X pins σ Q) X.xe s := by
  have fx : H (s.heap.objs.size + 1) = none := I.hok.fresh (Nat.le_succ s.heap.objs.size)
  have fd := I.hok.fresh (Nat.le_refl s.heap.objs.size)
  have ne : s.heap.objs.size ≠ s.heap.objs.size + 1 := Nat.ne_of_lt (Nat.lt_succ_self _)
  have I2 := Inv.made (C := c) I
  generalize hp : s.heap.objs.size + 1 = p at *
  generalize hd : s.heap.objs.size = d at *
  have ka : Kp G H (G.fx d) (upd H d (.own p)) := Kp.newT fd
  have ra : RG T (upd H d (.own p)) (G.fx d) := rg.newT fd
  have fx' : upd H d (.own p) p = none := by rw [upd_ne (Ne.symm ne)]; exact fx
  have kb : Kp (G.fx d) (upd H d (.own p)) ((G.fx d).up p (.ins C [])) (upd (upd H d (.own p)) p (.ins c d [])) := Kp.new fx'
  have rb : RG T (upd (upd H d (.own p)) p (.ins c d [])) ((G.fx d).up p (.ins C [])) := ra.new fx' ⟨c, d, [], hc, upd_same, .nil⟩
  have k := ka.trans kb
  refine wpAny_call (make_map (f := f) I.kIn M.makes M.init (beq_iff_eq.mp M.fn) ?_)
  rw [hd] at *
  rw [show d + 1 = p from hp] at *
  refine codeAny_mono (goC (us := .ref p :: us) (vs := .ref p :: vs) (Q := fun v H2 => v = .non ∧ Q (.ref p) H2) (E := WE W σ) (E' := X.xe) hF (hr.make c us []) hg (I2.env0.make c us []) I2 (.cons rfl r) (.cons (a_ref p) (rv.mono k)) rb (by rw [List.cons_append]; exact h p (rg.free fx)) (fun a G' v H' z r' rg' k' => ?_) (hx.step k) (fun e s' cx => passAt tk σ pins _ _ e s' I2 cx)) fun res s' hq => ?_
  · obtain ⟨rfl, z⟩ := z
    simp only [RV] at r'
    refine ⟨r', ?_⟩
    cases e : ci.frz with
    | false => rw [e] at z; exact q _ _ _ _ z (by simp only [RV]) rg' (k.trans k')
    | true =>
      rw [e] at z
      obtain ⟨fs, e1, z⟩ := z
      have kr : Kp G' H' (G'.rm p) H' := Kp.rm (by rw [e1]; simp)
      have f1 : Fx (G'.rm p) p := ⟨.inl rfl, rm_self⟩
      exact q _ (G'.rm p) _ _ z (rv_frz (o := .ins C fs) f1 ((rg' p _ e1).mono kr.ks rfl)) (rg'.rm (by rw [e1]; simp)) ((k.trans k').trans kr)
  · match res, hq with
    | .error er, hq => exact hq
    | .ok (.ret u), hq =>
      obtain ⟨v, H', I3, rv3, ev, q3⟩ := hq
      subst ev
      exact ⟨rv3, ⟨V.ref p, H', I3, rfl, q3⟩⟩
theorem p_mk {es : List Expr} {t : LA} {p : Pos} {C : Str} {ds : List A} (ok : COk X T FT m cl df) (hds : ∀ ci, cl.lookup C = some ci → (ds = [] ∧ ci.ko = false) ∨ ∃ k, (ci.init, k, ds) ∈ df) (hr : Room (3 * m + 1) X.A) (hgd : X.A.guards = some []) (tk : Takes X W) (hg : Gl X C) (ha : PA X (e :: es) (lL T W t)) (hdb : (C == ("__debug__" : Str)) = false)
    (hst : starEach (e :: es) X.env = (false, eval e X.env) :: starEach es X.env) (hpl : (backTo pos (starEach es X.env)).any (·.1) = false) {ci : CI} (hl : cl.lookup C = some ci) : PE X (.Call (.Name C p) (e :: es) [] pos) (lE T W (eMk cl (runF FT m) C t ds)) := by
  obtain ⟨c, hc, hm, kx⟩ := ok.cls hl
  have kc := kx.cl
  obtain ⟨f, M, hF0, hFd, _⟩ := ok.mak hl hc
  have hF : HasFn X T FT m ci.init f ds := by
    rcases hds ci hl with ⟨rfl, h0⟩ | ⟨k, z⟩
    · exact hF0 h0
    · exact hFd k ds z
  refine ⟨fun pins s σ H Q I h => wpAny_Call_Name_kw (ld_glob I hg hm ?_ hdb)⟩
  obtain ⟨ς, G, Qa, Xa, rs, rg, h, q, hx⟩ := h
  have hh : lL T W t σ H (fun vs H2 => ∃ as, ∃ G2 : GS, ∃ ra : RVs T G2 H2 as vs, RG T H2 G2 ∧ Kp G H G2 H2 ∧ ∀ p, G2 p = none → runF FT m ci.init (.ref p :: (as ++ ds)) (up G2 p (.ins C [])) (fun v G2 => v = .non ∧ match ci.frz with
    | false => Qa (.ref p) G2
    | true => ∃ fs, G2 p = some (.ins C fs) ∧ Qa (.fin C (fs.map (·.1)) (fs.map (·.2))) (rm p G2)) Xa) := ⟨ς, G, _, Xa, rs, rg, h, fun as G2 vs H2 h2 rw' rg2 k2 => ⟨as, G2, rw', rg2, k2, by simpa only [hl] using h2⟩, hx⟩
  refine PySem.W.callWith_K (h₀ := X.base) I.ok.mod.kin M.kp (thn (ha.run pos pins s σ H _ I hh) fun us s1 ⟨vs, H1, I1, r1, as, G2, ra, rg2, k2, h2⟩ => ⟨I1.kIn, ?_⟩) hst hpl
  exact run_mk hl hc M hF hr hgd tk I1 r1 ra rg2 (q.step k2) (hx.step k2) h2
theorem p_mk0 {p : Pos} {C : Str} {ds : List A} (ok : COk X T FT m cl df) (hds : ∀ ci, cl.lookup C = some ci → (ds = [] ∧ ci.ko = false) ∨ ∃ k, (ci.init, k, ds) ∈ df) (hr : Room (3 * m + 1) X.A) (hgd : X.A.guards = some []) (tk : Takes X W) (hg : Gl X C) (hdb : (C == ("__debug__" : Str)) = false)
    {ci : CI} (hl : cl.lookup C = some ci) : PE X (.Call (.Name C p) [] [] pos) (lE T W (eMk cl (runF FT m) C lNil ds)) := by
  obtain ⟨c, hc, hm, kx⟩ := ok.cls hl
  have kc := kx.cl
  obtain ⟨f, M, hF0, hFd, _⟩ := ok.mak hl hc
  have hF : HasFn X T FT m ci.init f ds := by
    rcases hds ci hl with ⟨rfl, h0⟩ | ⟨k, z⟩
    · exact hF0 h0
    · exact hFd k ds z
  refine ⟨fun pins s σ H Q I h => wpAny_Call_Name_kw (ld_glob I hg hm ?_ hdb)⟩
  obtain ⟨ς, G, Qa, Xa, rs, rg, h, q, hx⟩ := h
  refine PySem.W.callWith_K0 I.kIn M.kp (run_mk (us := []) (vs := []) (as := []) hl hc M hF hr hgd tk I .nil (by simp only [RVs]) rg q hx ?_)
  have h : match cl.lookup C with
    | some ci => ∀ p, G p = none → runF FT m ci.init (.ref p :: ([] ++ ds)) (up G p (.ins C [])) (fun v G2 => v = .non ∧ match ci.frz with
      | false => Qa (.ref p) G2
      | true => ∃ fs, G2 p = some (.ins C fs) ∧ Qa (.fin C (fs.map (·.1)) (fs.map (·.2))) (rm p G2)) Xa
    | none => False := h
  rw [hl] at h
  exact h
end
end Q
/-! Nc2: != by an own ==. -/
namespace PySem.W
open PySem PySem.Calls PyProof.Rows Builtin
theorem on_bind (self : Value) : bindSpecial (.builtin "object.__ne__") self = pure (.builtin "object.__ne__", [self]) :=
  (Slot.of (T := "object") (name := "__ne__") (owner := "object") (n := "__ne__") (by rw [typeLookup_type, builtinLookup_eq_fast]; kernel_rfl) (by decide +kernel) (by decide +kernel) (by decide +kernel)
    (.inl (by decide +kernel)) (by rw [isSubtype_type]; kernel_rfl)).bind self
theorem on_plain : plainId "object.__ne__" = true := by decide +kernel
theorem on_entry : entryFor table "object.__ne__" = some Builtin.«object.__ne__» := entryFor_of_tree (by kernel_rfl)
theorem on_kind : builtinKind "object.__ne__" = some .slot := by decide +kernel
theorem on_split : splitId "object.__ne__" = some ("object", "__ne__") := by decide +kernel
theorem on_args (a b : Value) : argsOk "object.__ne__" ⟨[a, b], []⟩ := by unfold argsOk; kernel_rfl
section
variable {prog : Program} {w : World} {A : Around} {E : Value → Shared → Prop} {s : Shared} {K : Frag} {x C f : Addr} {ox : Obj} {od : Option Obj} {b tb : Value}
theorem ifBound_B {M : Model} {name : Str} {i : String} {args : List Value} {Q : Option Value → Shared → Prop} (X : K.In s.heap) (I : InstAt s.heap x ox C od) (hs : findIn K (.ref C) name = some (some (.builtin i))) (hb : ∀ self, bindSpecial (.builtin i) self = pure (.builtin i, [self]))
    (h : wpAny M A (call (.builtin i) (.ref x :: args)) (fun v => Q (some v)) E s) : wpAny M A (callSpecialIfBound? (.ref x) name args) Q E s := by
  simp only [callSpecialIfBound?, bindSpecialIfBound?]
  refine wpAny_holding (wpAny_bind (wpAny_bind (wpAny_bind (I.type.here ((looks_findIn X hs).here ?_)))))
  refine wpAny_bind (wpAny_askSetting (wpAny_ite ?_))
  have fin : wpAny M A (call (.builtin i) ([.ref x] ++ args) >>= fun v => pure (some v)) Q E s := wpAny_bind (wpAny_mono h (fun v s' h' => wpAny_pure h') fun _ _ h' => h')
  have hb' : Looks M s.heap (bindSpecial (.builtin i) (.ref x)) (.builtin i, [.ref x]) := Looks.of_pure (hb _)
  split
  · exact wpAny_bind (hb'.here (wpAny_pure (by exact fin)))
  · exact wpAny_tryCatch (wpAny_bind (hb'.here (wpAny_pure (by exact fin))))
theorem objNe_run {A : Around} {Q : Fin → Shared → Prop} (hu : A.units < cLine) (X : K.In s.heap) (I : InstAt s.heap x ox C od) (hs : findIn K (.ref C) "__eq__" = some (some (.ref f))) (hf : isFn K (.ref f) = true)
    (h : wpAny (model prog w) A (call (.ref f) [.ref x, b]) (fun v s' => ∃ r, v = .bool r ∧ Q (.done (.ret (.bool (!r)))) s') E s) : wpAny (model prog w) A (Builtin.«object.__ne__» ⟨[.ref x, b], []⟩) Q E s := by
  unfold Builtin.«object.__ne__»
  repeat (first
    | with_reducible refine wpAny_cRoomFor hu ?_
    | (refine wpAny_bind (m := callSpecialIfBound? (.ref x) (Str.ofString "__eq__") [b])
        (ifBound_K X I hs hf (wpAny_mono h (fun r s' hr => by
          obtain ⟨b, rfl, hq⟩ := hr
          repeat (first | exact hq | exact wpAny_pure hq | exact wpAny_truthy_bool hq | (refine wpAny_bind (m := truthy (.bool _)) (wpAny_truthy_bool ?_)) | wp_step)) fun _ _ e => e)))
    | wp_step)
theorem ne_K {Q : Value → Shared → Prop} (hu : A.units + 1 < cLine) (X : K.In s.heap) (I : InstAt s.heap x ox C od) (hb : Looks (model prog w) s.heap (typeOf b) tb) (hn : notFirst K C tb = true)
    (hne : findIn K (.ref C) "__ne__" = some (some (.builtin "object.__ne__"))) (hm : mroIn K C (.type "object") = some true) (hs : findIn K (.ref C) "__eq__" = some (some (.ref f))) (hf : isFn K (.ref f) = true)
    (h : wpAny (model prog w) A.in1 (call (.ref f) [.ref x, b]) (fun v s' => ∃ r, v = .bool r ∧ Q (.bool (!r)) s') E s) : wpAny (model prog w) A (richCompare .NotEq (.ref x) b) Q E s := by
  have one : wpAny (model prog w) A (tryCompare (.ref x) (cmpInfo .NotEq).2.1 b) (fun r s' => ∃ v, r = some v ∧ Q v s') E s := by
    unfold tryCompare
    refine wpAny_bind (ifBound_B X I hne on_bind ?_)
    have t2 : Looks (model prog w) s.heap (isInstance (.ref x) (.type "object")) true := I.type.andThen (looks_mroIn X hm)
    refine wpAny_call (codeAny_call_builtin on_plain on_entry (check_slot on_kind on_split t2 (on_args _ _) ?_))
    refine objNe_run (A := A.in1) hu X I hs hf (wpAny_mono h (fun v s' hv => ?_) fun _ _ e => e)
    obtain ⟨r, rfl, q⟩ := hv
    exact ⟨r, rfl, wpAny_pure ⟨_, rfl, q⟩⟩
  unfold richCompare
  simp only [oneThing_ref]
  refine wpAny_holding (wpAny_bind (wpAny_cRoomFor (Nat.lt_of_succ_lt hu) ?_))
  refine wpAny_bind (I.type.here (wpAny_bind (hb.here ?_)))
  split
  · rename_i q
    have e : subIn K tb (.ref C) = some false := by
      rcases Bool.or_eq_true_iff.mp hn with e | e
      · rw [beq_iff_eq.mp e] at q; simp at q
      · exact beq_iff_eq.mp e
    refine wpAny_bind ((looks_subIn X e).here ?_)
    simp only [Bool.false_eq_true, if_false]
    refine wpAny_bind (wpAny_mono one (fun r s' z => ?_) fun _ _ e => e)
    obtain ⟨v, rfl, hq⟩ := z
    exact wpAny_pure hq
  · refine wpAny_bind (wpAny_pure ?_)
    simp only [Bool.false_eq_true, if_false]
    refine wpAny_bind (wpAny_mono one (fun r s' z => ?_) fun _ _ e => e)
    obtain ⟨v, rfl, hq⟩ := z
    exact wpAny_pure hq
end
end PySem.W
/-! Nc3: operators and built-in functions where instances are among the values. -/
namespace Q
open PySem PySem.Spec PyProof.Rows L2
abbrev noX : KX := fun _ _ => False
def truC (cl : CT) (c : Cal) (x : A) (G : Gp) (Q : Bool → Gp → Prop) : Prop := match clsOf G x with
  | some (C, _) => match mthOf cl C "__bool__" with
    | some F => c F [x] G (fun v G' => ∃ b, v = .bl b ∧ Q b G') noX
    | none => False
  | none => truA x G Q
def eNotC (cl : CT) (c : Cal) (ta : EA) : EA := fun ς G Q X => ta ς G (fun x G1 => truC cl c x G1 fun b G2 => Q (.bl (!b)) G2) X
def boolC (cl : CT) (c : Cal) : PN := fun as G Q => match as with
  | [x] => truC cl c x G fun b G' => Q (.bl b) G'
  | _ => False
def lenC (cl : CT) (c : Cal) : PN := fun as G Q => match as with
  | [x] => match clsOf G x with
    | some (C, _) => match mthOf cl C "__len__" with
      | some F => c F [x] G (fun v G' => ∃ n : Nat, v = .int n ∧ n ≤ sizeLine ∧ Q v G') noX
      | none => False
    | none => lenD as G Q
  | _ => False
def reprC (cl : CT) (c : Cal) : PN := fun as G Q => match as with
  | [x] => match clsOf G x with
    | some (C, _) => match mthOf cl C "__repr__" with
      | some F => c F [x] G (fun v G' => ∃ y : Str, v = .str y ∧ Q v G') noX
      | none => False
    | none => reprA as G Q
  | _ => False
/-- the other one is of a kind that is known -/
def knC (cl : CT) (G : Gp) (y : A) : Prop := (tyName G y).isSome = true ∨ ∃ C ns ci, clsOf G y = some (C, ns) ∧ cl.lookup C = some ci
def eqC (neg : Bool) (cl : CT) (c : Cal) : P2 := fun x y G Q => match clsOf G x with
  | some (C, _) => match mthOf cl C "__eq__" with
    | some F => knC cl G y ∧ c F [x, y] G (fun v G' => ∃ b, v = .bl b ∧ Q (.bl (b != neg)) G') noX
    | none => False
  | none => eqA neg x y G Q
def inC (neg : Bool) (cl : CT) (c : Cal) : P2 := fun x y G Q => match clsOf G y with
  | some (C, _) => match mthOf cl C "__contains__" with
    | some F => c F [y, x] G (fun v G' => ∃ b, v = .bl b ∧ Q (.bl (b != neg)) G') noX
    | none => False
  | none => inD neg x y G Q
def opC (d : Str) (f : P2) (cl : CT) (c : Cal) : P2 := fun x y G Q => match clsOf G x with
  | some (C, _) => match mthOf cl C d with
    | some F => (∃ ns, clsOf G y = some (C, ns)) ∧ c F [x, y] G Q noX
    | none => False
  | none => f x y G Q
/-- isinstance(x, C) -/
def isC (cl : CT) (C : Str) (G : Gp) (x : A) : Option Bool := match clsOf G x with
  | some (C', _) => if (cl.lookup C').isSome = true then some (decide (C' = C)) else none
  | none => (tyName G x).map fun _ => false
def eIsC (cl : CT) (C : Str) (ta : EA) : EA := fun ς G Q X => ta ς G (fun x G1 => ∃ b, isC cl C G1 x = some b ∧ Q (.bl b) G1) X
theorem tru_at {X : Cx} {A : Around} {E : Value → Shared → Prop} {pins : List (Addr × Obj)} {s : Shared} {σ : L2.St} {H : Hp} {x : V} {v : Value} {Q : Bool → Hp → Prop} {k : Bool} (I : Inv X pins σ H s) (rx : RelV x v) (e : TruV X.K x H k) (q : Q k H) :
    wpAny (model X.prog X.w) A (truthy v) (TP X pins σ Q) E s := by
  have hl := L2.line63
  have hs : sizeLine = 16777216 := sizeLine_eq
  cases x with
  | non => cases rx; have e' : k = false := e; subst e'; exact truthy_none ⟨H, I, q⟩
  | bl b => cases rx; have e' : k = b := e; subst e'; exact wpAny_truthy_bool ⟨H, I, q⟩
  | int i => obtain ⟨t, rfl⟩ := rx; have e' : k = (i != 0) := e; subst e'; exact PySem.P.truthy_int ⟨H, I, q⟩
  | str y =>
    obtain ⟨t, rfl⟩ := rx
    obtain ⟨hy, e'⟩ : y.length ≤ sizeLine ∧ k = ((y.length : Int) != 0) := e
    subst e'
    exact PySem.P.truthy_str (by omega) ⟨H, I.tok _, q⟩
  | byt y =>
    obtain ⟨t, rfl⟩ := rx
    obtain ⟨hy, e'⟩ : y.size ≤ sizeLine ∧ k = ((y.size : Int) != 0) := e
    subst e'
    exact PySem.W.truthy_bytes (by omega) ⟨H, I.tok _, q⟩
  | ref p =>
    cases rx
    have e' : (∃ xs, SqL X.K H p xs ∧ k = !xs.isEmpty) ∨ (∃ xs, SqT X.K H p xs ∧ k = !xs.isEmpty) ∨ ∃ kvs, H p = some (.dK kvs) ∧ k = !kvs.isEmpty := e
    rcases e' with ⟨xs, hx, e'⟩ | ⟨xs, hx, e'⟩ | ⟨kvs, hx, e'⟩
    · subst e'
      obtain ⟨its, r, pl, hz⟩ := I.list hx
      have hlen := r.length
      exact wpAny_truthy_list pl.isList (by simp only [List.size_toArray]; omega) ⟨H, I.tok _, by rw [isEmpty_of r]; exact q⟩
    · subst e'
      obtain ⟨its, r, pl, hz⟩ := I.tuple hx
      have hlen := r.length
      exact truthy_tuple pl (by simp only [List.size_toArray]; omega) ⟨H, I.tok _, by rw [isEmpty_of r]; exact q⟩
    · subst e'
      obtain ⟨hz, hS, vs, r, m⟩ : kvs.length ≤ sizeLine ∧ (p == sysModules) = false ∧ ∃ vs, KV kvs vs ∧ s.heap.DictOf (mixKind X.prog X.w) p vs := I.hok p _ hx
      have hlen : kvs.length = vs.length := Paired.length r
      exact wpAny_truthy_dict hS m (by omega) ⟨H, I.tok _, by rw [isEmpty_kv r]; exact q⟩
  | _ => exact (show False from e).elim
section
variable {X : Cx} {T : Tx} {FT : FTab} {m : Nat} {cl : CT} {df : List (String × Nat × List A)} {W : L2.WX} {a b e : Expr} {pos : Pos} {ta tb : EA}
/-- the place of a call below the running body -/
structure Blw (X : Cx) (m : Nat) (A : Around) : Prop where
  room : Room (3 * m) A
  gd : A.guards = some []
  fr : A.frames = X.A.frames
theorem blw0 (hr : Room (3 * m + 2) X.A) (hg : X.A.guards = some []) : Blw X m X.A := ⟨hr.mono (by omega), hg, rfl⟩
theorem blw1 (hr : Room (3 * m + 2) X.A) (hg : X.A.guards = some []) : Blw X m X.A.in1 := ⟨(hr.mono (by omega : 3 * m + 1 ≤ 3 * m + 2)).in1, hg, rfl⟩
theorem blw2 (hr : Room (3 * m + 2) X.A) (hg : X.A.guards = some []) : Blw X m X.A.in1.in1 := ⟨(Room.in1 (k := 3 * m + 1) hr).in1, hg, rfl⟩
/-- an instance as the library's rules want it -/
theorem inst_of (ok : COk X T FT m cl df) {pins : List (Addr × Obj)} {σ : L2.St} {H : Hp} {s : Shared} {G : GS} {x : A} {v : V} {u : Value} {C mn : Str} {ns : List Str} {F : String} (I : Inv X pins σ H s) (rg : RG T H G) (r : RV T G H x v) (ru : RelV v u) (e : clsOf G x = some (C, ns)) (hF : mthOf cl C mn = some F) :
    ∃ p c ox od f, u = .ref p ∧ PySem.W.InstAt s.heap p ox c (some od) ∧ T.cm C = some c ∧ ClsX X.K c ∧ Meth X.K c mn f ∧ HasFn X T FT m F f [] := by
  obtain ⟨p, c, dx, fs, rfl, ea, hc, _⟩ := cls_rep rg e r
  obtain ⟨ci, hci⟩ := mthOf_cl hF
  obtain ⟨c', hc', _, kx⟩ := ok.cls hci
  rw [hc] at hc'
  cases hc'
  obtain ⟨f, M, hf, _⟩ := ok.mt hF hc
  obtain ⟨mA, O, _⟩ := ins_get I.hok ea
  obtain ⟨od, J, _⟩ := O.look
  cases (show u = Value.ref p from ru)
  exact ⟨p, c, _, od, f, rfl, J, hc, kx, M, hf⟩
/-- a special method runs -/
theorem goD {Ar : Around} (bl : Blw X m Ar) {E' : Value → Shared → Prop} {pins : List (Addr × Obj)} {σ : L2.St} {H : Hp} {s : Shared} {us : List Value} {vs : List V} {as : List A} {G : GS} {Qa : KA} {F : String} {f : Addr} {R : Value → Shared → Prop} (hF : HasFn X T FT m F f [])
    (I : Inv X pins σ H s) (r : Vals vs us) (rv : RVs T G H as vs) (rg : RG T H G) (h : runF FT m F as G Qa noX) (q : ∀ y (G' : GS) w H' u s', Qa y G' → RV T G' H' y w → RG T H' G' → Kp G H G' H' → RelV w u → Inv X pins σ H' s' → R u s') : wpAny (model X.prog X.w) Ar (call (.ref f) us) R E' s := by
  refine wpAny_mono (goA (as := as) (Q := fun w H' => ∀ u s', RelV w u → Inv X pins σ H' s' → R u s') (E := fun _ _ _ => False) (E' := E') hF bl.room bl.gd bl.fr I r rv rg (by rw [List.append_nil]; exact h) (fun y G' w H' z r' rg' k' u s' ru I' => q y G' w H' u s' z r' rg' k' ru I') lX_no (fun e s' c => noEx c)) (fun u s' ⟨w, H', I', ru, z⟩ => z u s' ru I') fun _ _ z => z
theorem tru_C (ok : COk X T FT m cl df) {Ar : Around} (bl : Blw X m Ar) {E' : Value → Shared → Prop} {pins : List (Addr × Obj)} {σ : L2.St} {H : Hp} {s : Shared} {G : GS} {x : A} {v : V} {u : Value} {Qa : Bool → Gp → Prop} {Q : Bool → Hp → Prop} (hT : T.K = X.K) (I : Inv X pins σ H s) (rg : RG T H G) (r : RV T G H x v) (ru : RelV v u)
    (h : truC cl (runF FT m) x G Qa) (q : ∀ b (G' : GS) H', Qa b G' → RG T H' G' → Kp G H G' H' → Q b H') : wpAny (model X.prog X.w) Ar (truthy u) (TP X pins σ Q) E' s := by
  unfold truC at h
  split at h
  · rename_i C ns e
    split at h
    · rename_i F hF
      obtain ⟨p, c, ox, od, f, rfl, J, hc, kx, M, hf⟩ := inst_of ok I rg r ru e hF
      obtain ⟨mm, hFr⟩ := I.fr
      refine PySem.W.truthy_K hFr I.ok.mod.kin J M.at_ M.fn (goD bl hf I (show Vals [v] [_] from .cons ru .nil) (.one r) rg h fun y G' w H' u' s' z r' rg' k' ru' I' => ?_)
      obtain ⟨b, rfl, z⟩ := z
      simp only [RV] at r'
      subst r'
      cases (show u' = Value.bool b from ru')
      exact ⟨H', I', q b G' H' z rg' k'⟩
    · exact h.elim
  · obtain ⟨k, tv, h⟩ := tru_rep rg r h
    exact tru_at I ru (hT ▸ tv) (q k G H h rg Kp.refl)
theorem c_bool (ok : COk X T FT m cl df) (hT : T.K = X.K) (hr : Room (3 * m + 2) X.A) (hg : X.A.guards = some []) : CallR X (.type "bool") (lN T (boolC cl (runF FT m))) := by
  intro pins s σ H xs us Q I r h
  obtain ⟨as, G, Qa, rv, rg, hf, q⟩ := h
  unfold boolC at hf
  split at hf
  · rename_i x
    obtain ⟨v, rfl, ra⟩ := rvs1 rv
    obtain ⟨u, rfl, ru⟩ := vals1 r
    have meets : MeetsIn X.prog X.w (Builtin.«bool.__new__» ⟨[.type "bool", u], []⟩) (fun Ar R s => wpAny (model X.prog X.w) Ar.in1 (truthy u) (fun b s' => R (.ok (.ret (.bool b))) s') (fun e s' => R (.error e) s') s) :=
      .of_wp fun Ar R s hs => by
        have f1 := F.conv_sub_bool
        obtain ⟨hp, g, d, tk, os⟩ := s
        repeat (any_goals (first | assumption | (with_reducible refine wpAny_mono hs (fun b s' z => ?_) (fun _ _ z => z)) | wp_step))
        all_goals exact ⟨_, rfl, by assumption⟩
    refine callType_newIn F.called_bool F.newNe_bool (F.typeCall_bool_1 u) (F.newCall_bool_1 u) (fun obj => F.args_object_init_2 obj u) F.entry_bool_new meets ?_
    refine wpAny_mono (tru_C ok (blw2 hr hg) hT I rg ra ru hf (Q := fun b H' => Q (.bl b) H') fun b G' H' z rg' k' => q _ _ _ _ z (rv_b b) rg' k') (fun b s' ⟨H', I', z⟩ => ?_) fun _ _ z => z
    exact ⟨rfl, .bl b, H', I', rfl, z⟩
  · exact hf.elim
theorem c_lenC (ok : COk X T FT m cl df) (hT : T.K = X.K) (hr : Room (3 * m + 2) X.A) (hg : X.A.guards = some []) : CallR X (.builtin "len") (lN T (lenC cl (runF FT m))) := by
  intro pins s σ H xs us Q I r h
  obtain ⟨as, G, Qa, rv, rg, hf, q⟩ := h
  unfold lenC at hf
  split at hf
  · rename_i x
    split at hf
    · rename_i C ns e
      split at hf
      · rename_i F hF
        obtain ⟨v, rfl, ra⟩ := rvs1 rv
        obtain ⟨u, rfl, ru⟩ := vals1 r
        obtain ⟨p, c, ox, od, f, rfl, J, hc, kx, M, hfn⟩ := inst_of ok I rg ra ru e hF
        obtain ⟨mm, hFr⟩ := I.fr
        refine PySem.W.len_K hFr I.ok.mod.kin J M.at_ M.fn (goD (blw1 hr hg) hfn I r rv rg hf fun y G' w H' u' s' z r' rg' k' ru' I' => ?_)
        obtain ⟨n, rfl, hn, z⟩ := z
        obtain rfl := rv_int r'
        obtain ⟨t, rfl⟩ := ru'
        have hl := L2.line63
        refine ⟨⟨by omega, by omega⟩, ?_⟩
        exact ⟨.int n, H', I'.tok _, ⟨_, rfl⟩, q _ _ _ _ z (rv_i _) rg' k'⟩
      · exact hf.elim
    · exact c_lenD hT pins s σ H xs us Q I r ⟨_, G, Qa, rv, rg, hf, q⟩
  · exact hf.elim
theorem c_reprC (ok : COk X T FT m cl df) (okT : T.Ok X) (hr : Room (3 * m + 2) X.A) (hg : X.A.guards = some []) : CallR X (.builtin "repr") (lN T (reprC cl (runF FT m))) := by
  intro pins s σ H xs us Q I r h
  obtain ⟨as, G, Qa, rv, rg, hf, q⟩ := h
  unfold reprC at hf
  split at hf
  · rename_i x
    split at hf
    · rename_i C ns e
      split at hf
      · rename_i F hF
        obtain ⟨v, rfl, ra⟩ := rvs1 rv
        obtain ⟨u, rfl, ru⟩ := vals1 r
        obtain ⟨p, c, ox, od, f, rfl, J, hc, kx, M, hfn⟩ := inst_of ok I rg ra ru e hF
        obtain ⟨mm, hFr⟩ := I.fr
        have hu : X.A.in1.units < cLine := (blw1 (m := m) hr hg).room.units0
        refine PySem.W.repr_K hu hFr I.ok.mod.kin J M.at_ M.fn (goD (blw1 hr hg) hfn I r rv rg hf fun y G' w H' u' s' z r' rg' k' ru' I' => ?_)
        obtain ⟨n, rfl, z⟩ := z
        obtain rfl := rv_str r'
        obtain ⟨t, rfl⟩ := ru'
        exact ⟨.str n, H', I', ⟨_, rfl⟩, q _ _ _ _ z (rv_s _) rg' k'⟩
      · exact hf.elim
    · exact c_repr okT hg hr.units pins s σ H xs us Q I r ⟨_, G, Qa, rv, rg, hf, q⟩
  · exact hf.elim
end
end Q
/-! Nc4: ==, in, |, &, - by own methods; isinstance of own classes. -/
namespace Q
open PySem PySem.Spec PyProof.Rows L2
section
variable {X : Cx} {T : Tx} {FT : FTab} {m : Nat} {cl : CT} {df : List (String × Nat × List A)} {W : L2.WX} {a b e : Expr} {pos : Pos} {ta tb : EA}
/-- the type of the other one -/
theorem kn_typ (ok : COk X T FT m cl df) {pins : List (Addr × Obj)} {σ : L2.St} {H : Hp} {s : Shared} {G : GS} {y : A} {v : V} {u : Value} {c : Addr} {C : Str} {ci : CI} (hT : T.K = X.K) (I : Inv X pins σ H s) (rg : RG T H G) (r : RV T G H y v) (ru : RelV v u) (h : knC cl G y) (hl : cl.lookup C = some ci) (hc : T.cm C = some c) (kx : ClsX X.K c) :
    ∃ tb, PySem.W.Looks (model X.prog X.w) s.heap (typeOf u) tb ∧ PySem.W.notFirst X.K c tb = true := by
  rcases h with h | ⟨C', ns, ci', e, hl'⟩
  · cases e : tyName G y with
    | none => rw [e] at h; cases h
    | some n =>
      obtain ⟨P, Z, p, _⟩ := kit_of I ru (tyName_rep hT rg e r)
      refine ⟨_, Z.ty _ _ I.kIn p, ?_⟩
      have z := kx.sub n (tyName_mem e)
      unfold PySem.W.notFirst
      rw [z]
      simp
  · obtain ⟨p, c', dx, fs, rfl, ea, hc', _⟩ := cls_rep rg e r
    cases (show u = Value.ref p from ru)
    obtain ⟨mA, O, _⟩ := ins_get I.hok ea
    obtain ⟨od, J, _⟩ := O.look
    exact ⟨_, J.type, (ok.two hl hl' hc hc').2⟩
theorem o_eqC (ok : COk X T FT m cl df) (okT : T.Ok X) (hr : Room (3 * m + 2) X.A) (hg : X.A.guards = some []) : OpR X (compareOp .Eq) (l2 T (eqC false cl (runF FT m))) := by
  intro pins s σ H x y v u Q I rx ry ⟨a, b, G, Qa, ra, rb, rg, hf, q⟩
  unfold eqC at hf
  split at hf
  · rename_i C ns e
    split at hf
    · rename_i F hF
      obtain ⟨kn, hf⟩ := hf
      obtain ⟨p, c, ox, od, f, rfl, J, hc, kx, M, hfn⟩ := inst_of ok I rg ra rx e hF
      obtain ⟨mm, hFr⟩ := I.fr
      obtain ⟨ci, hl⟩ := mthOf_cl hF
      obtain ⟨tb, lk, nf⟩ := kn_typ ok okT.k I rg rb ry kn hl hc kx
      show wpAny (model X.prog X.w) X.A (richCompare .Eq (.ref p) u) (EP X pins σ Q) X.xe s
      refine PySem.W.cmp_K (op := .Eq) hr.units0 hFr I.ok.mod.kin J lk nf M.at_ M.fn (goD (vs := [x, y]) (as := [a, b]) (blw0 hr hg) hfn I (.cons rx (.cons ry .nil)) (.cons ra (.one rb)) rg hf fun z G' w H' u' s' hz r' rg' k' ru' I' => ?_)
      obtain ⟨k, rfl, hz⟩ := hz
      simp only [RV] at r'
      subst r'
      cases (show u' = Value.bool k from ru')
      exact ⟨.bl k, H', I', rfl, q _ _ _ _ (by simpa using hz) (rv_b _) rg' k'⟩
    · exact hf.elim
  · exact o_eq okT hr.units pins s σ H x y v u Q I rx ry ⟨a, b, G, Qa, ra, rb, rg, hf, q⟩
theorem o_neC (ok : COk X T FT m cl df) (okT : T.Ok X) (hr : Room (3 * m + 2) X.A) (hg : X.A.guards = some []) : OpR X (compareOp .NotEq) (l2 T (eqC true cl (runF FT m))) := by
  intro pins s σ H x y v u Q I rx ry ⟨a, b, G, Qa, ra, rb, rg, hf, q⟩
  unfold eqC at hf
  split at hf
  · rename_i C ns e
    split at hf
    · rename_i F hF
      obtain ⟨kn, hf⟩ := hf
      obtain ⟨p, c, ox, od, f, rfl, J, hc, kx, M, hfn⟩ := inst_of ok I rg ra rx e hF
      obtain ⟨ci, hl⟩ := mthOf_cl hF
      obtain ⟨tb, lk, nf⟩ := kn_typ ok okT.k I rg rb ry kn hl hc kx
      show wpAny (model X.prog X.w) X.A (richCompare .NotEq (.ref p) u) (EP X pins σ Q) X.xe s
      refine PySem.W.ne_K (by have := hr.un; omega) I.kIn J lk nf kx.ne kx.mo M.at_ M.fn (goD (vs := [x, y]) (as := [a, b]) (blw1 hr hg) hfn I (.cons rx (.cons ry .nil)) (.cons ra (.one rb)) rg hf fun z G' w H' u' s' hz r' rg' k' ru' I' => ?_)
      obtain ⟨k, rfl, hz⟩ := hz
      simp only [RV] at r'
      subst r'
      cases (show u' = Value.bool k from ru')
      exact ⟨k, rfl, .bl (!k), H', I', rfl, q _ _ _ _ (by simpa using hz) (rv_b _) rg' k'⟩
    · exact hf.elim
  · exact o_ne okT hr.units pins s σ H x y v u Q I rx ry ⟨a, b, G, Qa, ra, rb, rg, hf, q⟩
theorem o_inC (ok : COk X T FT m cl df) (okT : T.Ok X) (hr : Room (3 * m + 2) X.A) (hg : X.A.guards = some []) : OpR X (compareOp .In) (l2 T (inC false cl (runF FT m))) := by
  intro pins s σ H x y v u Q I rx ry ⟨a, b, G, Qa, ra, rb, rg, hf, q⟩
  unfold inC at hf
  split at hf
  · rename_i C ns e
    split at hf
    · rename_i F hF
      obtain ⟨p, c, ox, od, f, rfl, J, hc, kx, M, hfn⟩ := inst_of ok I rg rb ry e hF
      obtain ⟨mm, hFr⟩ := I.fr
      refine PySem.W.in_K hFr I.ok.mod.kin J M.at_ M.fn (goD (vs := [y, x]) (as := [b, a]) (blw0 hr hg) hfn I (.cons ry (.cons rx .nil)) (.cons rb (.one ra)) rg hf fun z G' w H' u' s' hz r' rg' k' ru' I' => ?_)
      obtain ⟨k, rfl, hz⟩ := hz
      simp only [RV] at r'
      subst r'
      cases (show u' = Value.bool k from ru')
      exact wpAny_truthy_bool ⟨.bl k, H', I', rfl, q _ _ _ _ (by simpa using hz) (rv_b _) rg' k'⟩
    · exact hf.elim
  · exact o_inD okT (by have := hr.un; omega) pins s σ H x y v u Q I rx ry ⟨a, b, G, Qa, ra, rb, rg, hf, q⟩
theorem o_ninC (ok : COk X T FT m cl df) (okT : T.Ok X) (hr : Room (3 * m + 2) X.A) (hg : X.A.guards = some []) : OpR X (compareOp .NotIn) (l2 T (inC true cl (runF FT m))) := by
  intro pins s σ H x y v u Q I rx ry ⟨a, b, G, Qa, ra, rb, rg, hf, q⟩
  unfold inC at hf
  split at hf
  · rename_i C ns e
    split at hf
    · rename_i F hF
      obtain ⟨p, c, ox, od, f, rfl, J, hc, kx, M, hfn⟩ := inst_of ok I rg rb ry e hF
      obtain ⟨mm, hFr⟩ := I.fr
      refine PySem.W.notIn_K hFr I.ok.mod.kin J M.at_ M.fn (goD (vs := [y, x]) (as := [b, a]) (blw0 hr hg) hfn I (.cons ry (.cons rx .nil)) (.cons rb (.one ra)) rg hf fun z G' w H' u' s' hz r' rg' k' ru' I' => ?_)
      obtain ⟨k, rfl, hz⟩ := hz
      simp only [RV] at r'
      subst r'
      cases (show u' = Value.bool k from ru')
      exact wpAny_truthy_bool ⟨.bl (!k), H', I', rfl, q _ _ _ _ (by simpa using hz) (rv_b _) rg' k'⟩
    · exact hf.elim
  · exact o_notinD okT (by have := hr.un; omega) pins s σ H x y v u Q I rx ry ⟨a, b, G, Qa, ra, rb, rg, hf, q⟩
theorem relV_ni {w : V} {Q : Value → Shared → Prop} {u : Value} {s : Shared} (r : RelV w u) (h : Q u s) : PySem.W.CmpBack Q u s := by
  cases w with
  | non => cases (show u = Value.none from r); exact h
  | bl y => cases (show u = Value.bool y from r); exact h
  | int i => obtain ⟨t, q⟩ := (show ∃ t, u = Value.int i t from r); cases q; exact h
  | str y => obtain ⟨t, q⟩ := (show ∃ t, u = Value.str y t from r); cases q; exact h
  | byt y => obtain ⟨t, q⟩ := (show ∃ t, u = Value.bytes y t from r); cases q; exact h
  | flt y => obtain ⟨t, q⟩ := (show ∃ t, u = Value.float y t from r); cases q; exact h
  | ref a => cases (show u = Value.ref a from r); exact h
  | ty n => cases (show u = Value.type n from r); exact h
theorem o_opC {op : Operator} {f0 : P2} (ok : COk X T FT m cl df) (h0 : OpR X (binaryOp op) (l2 T f0)) (hr : Room (3 * m + 2) X.A) (hg : X.A.guards = some []) : OpR X (binaryOp op) (l2 T (opC (PySem.dunder op.info.2) f0 cl (runF FT m))) := by
  intro pins s σ H x y v u Q I rx ry ⟨a, b, G, Qa, ra, rb, rg, hf, q⟩
  unfold opC at hf
  split at hf
  · rename_i C ns e
    split at hf
    · rename_i F hF
      obtain ⟨⟨ns', e'⟩, hf⟩ := hf
      obtain ⟨p, c, ox, od, f, rfl, J, hc, kx, M, hfn⟩ := inst_of ok I rg ra rx e hF
      obtain ⟨p', c', dx', fs', rfl, ea', hc', _⟩ := cls_rep rg e' rb
      rw [hc] at hc'
      cases hc'
      cases (show u = Value.ref p' from ry)
      obtain ⟨mA, O, _⟩ := ins_get I.hok ea'
      obtain ⟨od', J', _⟩ := O.look
      obtain ⟨mm, hFr⟩ := I.fr
      refine PySem.W.binop_K hFr I.ok.mod.kin J J'.type kx.sf M.at_ M.fn (goD (vs := [x, .ref p']) (as := [a, b]) (blw0 hr hg) hfn I (.cons rx (.cons ry .nil)) (.cons ra (.one rb)) rg hf fun z G' w H' u' s' hz r' rg' k' ru' I' => ?_)
      exact relV_ni ru' ⟨w, H', I', ru', q _ _ _ _ hz r' rg' k'⟩
    · exact hf.elim
  · exact h0 pins s σ H x y v u Q I rx ry ⟨a, b, G, Qa, ra, rb, rg, hf, q⟩
theorem isC_rep (ok : COk X T FT m cl df) {H : Hp} {G : GS} {x : A} {v : V} {C : Str} {ci : CI} {c : Addr} {k : Bool} (hT : T.K = X.K) (rg : RG T H G) (h : isC cl C G x = some k) (r : RV T G H x v) (hl : cl.lookup C = some ci) (hc : T.cm C = some c) : ∃ t, TyX X.K H v t ∧ PySem.W.kitOne X.K t (.ref c) = some k := by
  unfold isC at h
  split at h
  · rename_i C' ns e
    split at h
    · rename_i hs
      cases h
      obtain ⟨ci', hl'⟩ := Option.isSome_iff_exists.mp hs
      obtain ⟨p, c', dx, fs, rfl, ea, hc', _⟩ := cls_rep rg e r
      obtain ⟨c2, hc2, _, kx⟩ := ok.cls hl'
      rw [hc'] at hc2
      cases hc2
      exact ⟨_, .base (.ins ea kx.cl kx.ka kx.kn kx.kt kx.mo), (ok.two hl' hl hc' hc).1⟩
    · cases h
  · simp only [Option.map_eq_some_iff] at h
    obtain ⟨n, e, rfl⟩ := h
    obtain ⟨c2, hc2, _, kx⟩ := ok.cls hl
    rw [hc] at hc2
    cases hc2
    exact ⟨_, tyName_rep hT rg e r, kx.kit n (tyName_mem e)⟩
theorem p_isC {C : Str} {ci : CI} {pi pt : Pos} (ok : COk X T FT m cl df) (hT : T.K = X.K) (hl : cl.lookup C = some ci) (he : PE X e (lE T W ta)) (hg : Gl X "isinstance") (hm : X.mg "isinstance" = none) (gn : Gl X C) (hdb : (C == ("__debug__" : Str)) = false)
    (hs : starEach [e, .Name C pt] X.env = (false, eval e X.env) :: starEach [.Name C pt] X.env) : PE X (.Call (.Name "isinstance" pi) [e, .Name C pt] [] pos) (lE T W (eIsC cl C ta)) := by
  obtain ⟨c, hc, mn, kx⟩ := ok.cls hl
  refine PE.imp (pe_callB call_isi hg hm boot_isinstance (pa_cons he (pa_cons (pe_glob (v := .ref c) gn mn rfl hdb) pa_nil) hs) (by decide) (by decide) hs rfl) fun σ H Q ⟨ς, G, Qa, Xa, rs, rg, h, q, hx⟩ => ⟨ς, G, _, Xa, rs, rg, h, fun x G1 v H1 h1 rv rg1 k1 => ?_, hx⟩
  obtain ⟨k, e1, h1⟩ := h1
  obtain ⟨t, ty, ki⟩ := isC_rep ok hT rg1 e1 rv hl hc
  exact ⟨v, .ref c, t, .ref c, _, rfl, .own c, ty, ki, q _ _ _ _ h1 (rv_b _) rg1 k1⟩
theorem p_notC (ok : COk X T FT m cl df) (hT : T.K = X.K) (hr : Room (3 * m + 2) X.A) (hg : X.A.guards = some []) (ha : PE X a (lE T W ta)) : PE X (.UnaryOp .Not a pos) (lE T W (eNotC cl (runF FT m) ta)) := by
  refine ⟨fun pins s σ H Q I h => ?_⟩
  obtain ⟨ς, G, Qa, Xa, rs, rg, h, q, hx⟩ := h
  have hh : lE T W ta σ H (fun v H1 => ∃ x, ∃ G1 : GS, ∃ rv : RV T G1 H1 x v, RG T H1 G1 ∧ Kp G H G1 H1 ∧ truC cl (runF FT m) x G1 fun b G2 => Qa (.bl (!b)) G2) := ⟨ς, G, _, Xa, rs, rg, h, fun x G1 v H1 h1 rv rg1 k1 => ⟨x, G1, rv, rg1, k1, h1⟩, hx⟩
  refine UnaryOp_ (thn (ha.run pins s σ H _ I hh) fun u s1 ⟨v, H1, I1, r1, x, G1, rv, rg1, k1, h1⟩ => ?_)
  exact not_of (thn (tru_C (Q := fun b H' => Q (.bl (!b)) H') ok (blw0 hr hg) hT I1 rg1 rv r1 h1 fun b G' H' z rg' k' => q _ _ _ _ z (rv_b _) rg' (k1.trans k')) fun c s2 ⟨H2, I2, q2⟩ => ⟨.bl (!c), H2, I2, rfl, q2⟩)
def bVC (cl : CT) (c : Cal) (t : EA) : BA := fun ς G Q X => t ς G (fun x G1 => truC cl c x G1 Q) X
theorem q_valC (ok : COk X T FT m cl df) (hT : T.K = X.K) (hr : Room (3 * m + 2) X.A) (hg : X.A.guards = some []) (ha : PE X a (lE T W ta)) (he : ∀ whole, isTrue a X.env whole = (do let v ← whole; standAt a.pos; holding [v] (truthy v))) : PT X a (lB T W (bVC cl (runF FT m) ta)) := by
  refine ⟨fun pins s σ H Q I h => ?_⟩
  obtain ⟨ς, G, Qa, Xa, rs, rg, h, q, hx⟩ := h
  have hh : lE T W ta σ H (fun v H1 => ∃ x, ∃ G1 : GS, ∃ rv : RV T G1 H1 x v, RG T H1 G1 ∧ Kp G H G1 H1 ∧ truC cl (runF FT m) x G1 Qa) := ⟨ς, G, _, Xa, rs, rg, h, fun x G1 v H1 h1 rv rg1 k1 => ⟨x, G1, rv, rg1, k1, h1⟩, hx⟩
  exact isTrue_plain (thn (ha.run pins s σ H _ I hh) fun u s1 ⟨v, H1, I1, r1, x, G1, rv, rg1, k1, h1⟩ => tru_C ok (blw0 hr hg) hT I1 rg1 rv r1 h1 fun b G' H' z rg' k' => q _ _ _ z rg' (k1.trans k')) (he _)
end
end Q
/-! Nc5: method calls of any receiver; f-strings; raise that is not reached. -/
namespace Q
open PySem PySem.Spec PyProof.Rows L2
section
variable {X : Cx} {T : Tx} {FT : FTab} {m : Nat} {cl : CT} {df : List (String × Nat × List A)} {W : L2.WX} {a b e o : Expr} {es : List Expr} {pos apos : Pos} {ta tb to : EA} {t : LA} {f : Str}
theorem meth_eval {env : Env} {args : List Expr} (hbase : attributeBase o f env (eval o env) = eval o env)
    (hfew : ((backTo pos (starEach args env)).all (fun x => !x.1) && (backToKw pos (keywordEach [] env)).all (fun x => x.1.isSome)
      && decide (args.length + ([] : List Keyword).length + (if ([] : List Keyword).isEmpty then 0 else 1) < 30)) = true)
    (hline : (apos.endLine == pos.line) = true) : ∃ pl, eval (.Call (.Attribute o f apos) args [] pos) env = (do
      let ov ← eval o env
      standAt apos.atName
      let (f, first) ← holding [ov] (getMethod ov f pl)
      callWith pos f first (backTo pos (starEach args env)) (backToKw pos (keywordEach [] env))) := by
  refine ⟨(do return (← importBound o env).getD true), ?_⟩
  rw [arm_eval_Call, hbase]
  have hform : methodCallForm (args.length + ([] : List Keyword).length) (backTo pos (starEach args env)) (backToKw pos (keywordEach [] env)) = true := hfew
  have hpos : methodCallPos true o env apos pos = pure pos := by unfold methodCallPos; simp [hline]
  unfold methodCall
  rw [hform, hpos]
  simp only [pure_bind]
  rfl
end
section
variable {P : Program} {w : World}
/-- what repr's slot gives, called at any place -/
theorem repr_in {a : Addr} {d : PyData} {as : List Addr} {Ar : Around} {E : Value → Shared → Prop} {s : Shared} {Q : Value → Shared → Prop} (r : Reads s.heap (.ref a) d as) (sh : d.showable = true) (ns : NoSys s.heap as) (hg : Ar.guards = some [])
    (hu1 : Ar.units + d.depth < cLine) (sz : d.shown.length ≤ sizeLine)
    (hQ : ∀ h' u tk, (∀ b o, s.heap.get? b = some o → h'.get? b = some o) → Q (.str d.shown u) { s with heap := h', toks := tk }) :
    ∃ Ty idr, s.TypeIs (.ref a) Ty ∧ SlotG Ty "__repr__" idr ∧ wpAny (model P w) Ar (call (.builtin idr) [.ref a]) (fun v s1 => ∃ x u, v = .str x u ∧ Q (.str x u) s1) E s := by
  have kp : ∀ b o, s.heap.get? b = some o → s.heap.get? b = some o := fun _ _ e => e
  have fin : ∀ h' u tk, (∀ b o, s.heap.get? b = some o → h'.get? b = some o) →
      (∃ x u', Value.str d.shown u = .str x u' ∧ Q (.str x u') { s with heap := h', toks := tk }) :=
    fun h' u tk hk => ⟨_, _, rfl, hQ h' u tk hk⟩
  cases r with
  | list e1 e2 e3 e4 =>
    rename_i o vs n xs bs0
    have sz' : (listText (PyData.shownAll xs)).length ≤ sizeLine := by
      simpa only [PyData.shown] using sz
    obtain ⟨bs, hb, hk⟩ := rk_all (P := P) (w := w) e4 (by simpa [PyData.showable] using sh) ns.tail
      (fun t ht => Nat.le_trans (listText_mem_le ht) sz')
    have na : a ∉ bs :=
      not_mem_of_deeper (.list e1 e2 e3 e4) (by simp only [PyData.depth]; omega) hb
    refine ⟨_, _, ⟨o, e1, e2⟩, F.slot_list_repr.toG, ?_⟩
    simp only [PyData.depth] at hu1
    simp only [PyData.shown] at fin
    obtain ⟨l⟩ := vs
    cases l with
    | nil =>
      have e5 : ReadsAll s.heap [] xs _ := e4
      cases e5
      simp only [PyData.shownAll, listText_nil] at fin
      exact call_list_repr_empty ⟨o, e1, e2⟩ e1 e3 (fin s.heap _ _ fun _ _ e => e)
    | cons x l =>
      exact call_list_reprK e1 e2 e3 na (by simpa using hk.length_eq)
        (fun i y e => hk.item i y (by simpa using e)) hg (fun b _ => Clear.nil b) hu1 kp fin sz'
  | tuple e1 e2 e3 e4 =>
    rename_i o vs n xs
    have sz' : (tupleText (PyData.shownAll xs)).length ≤ sizeLine := by
      simpa only [PyData.shown] using sz
    obtain ⟨bs, hb, hk⟩ := rk_all (P := P) (w := w) e4 (by simpa [PyData.showable] using sh) ns
      (fun t ht => Nat.le_trans (tupleText_mem_le ht) sz')
    have na : a ∉ bs :=
      not_mem_of_deeper (.tuple e1 e2 e3 e4) (by simp only [PyData.depth]; omega) hb
    refine ⟨_, _, ⟨o, e1, e2⟩, F.slot_tuple_repr, ?_⟩
    simp only [PyData.depth] at hu1
    simp only [PyData.shown] at fin
    exact call_tuple_reprK e1 e2 e3 na hk hg (fun b _ => Clear.nil b) hu1 kp fin sz'
  | dict e1 e2 e3 e4 e5 =>
    rename_i o es n kvs p1 p2
    have sz' : (dictText (PyData.shownKv kvs)).length ≤ sizeLine := by
      simpa only [PyData.shown] using sz
    obtain ⟨s1, s2⟩ := PyData.showableKv_split kvs
      (by simpa [PyData.showable] using sh)
    have ns' : NoSys s.heap (p1 ++ p2) := by simpa using ns.tail
    obtain ⟨b1, hb1, k1⟩ := rk_all (P := P) (w := w) e4 s1 ns'.left fun t ht =>
      let ⟨p, hp, hl⟩ := PyData.shownKv_key_le kvs t ht
      Nat.le_trans hl (Nat.le_trans (dictText_mem_le hp) sz')
    obtain ⟨b2, hb2, k2⟩ := rk_all (P := P) (w := w) e5 s2 ns'.right fun t ht =>
      let ⟨p, hp, hl⟩ := PyData.shownKv_val_le kvs t ht
      Nat.le_trans hl (Nat.le_trans (dictText_mem_le hp) sz')
    have hb : ReadAtMost s.heap (PyData.depthKv kvs) (b1 ++ b2) :=
      (hb1.mono (PyData.depthAll_keys_le kvs)).append
        (hb2.mono (PyData.depthAll_vals_le kvs))
    have na : a ∉ b1 ++ b2 :=
      not_mem_of_deeper (.dict e1 e2 e3 e4 e5) (by simp only [PyData.depth]; omega) hb
    have hs : (a == sysModules) = false :=
      beq_eq_false_iff_ne.mpr (ns a (by simp) ⟨_, _, _, e1, e3⟩)
    refine ⟨_, _, ⟨o, e1, e2⟩, F.slot_dict_repr, ?_⟩
    simp only [PyData.depth] at hu1
    simp only [PyData.shown, PyData.shownKv_eq] at fin
    refine call_dict_reprK e1 e2 e3 hs na (ReprEntriesK.of_two es.toList _ _ ?_ ?_) hg (fun b _ => Clear.nil b) hu1 kp fin
      (by rw [← PyData.shownKv_eq]; exact sz')
    · exact k1.more_le (fun b z => List.mem_append_left _ z)
        (PyData.depthAll_keys_le kvs)
    · exact k2.more_le (fun b z => List.mem_append_right _ z)
        (PyData.depthAll_vals_le kvs)
theorem reprObj_ref {a : Addr} {d : PyData} {as : List Addr} {Ar : Around} {E : Value → Shared → Prop} {s : Shared} {Q : Value → Shared → Prop} (r : Reads s.heap (.ref a) d as) (sh : d.showable = true) (ns : NoSys s.heap as) (hg : Ar.guards = some [])
    (hu1 : Ar.units + d.depth < cLine) (sz : d.shown.length ≤ sizeLine)
    (hQ : ∀ h' u tk, (∀ b o, s.heap.get? b = some o → h'.get? b = some o) → Q (.str d.shown u) { s with heap := h', toks := tk }) : wpAny (model P w) Ar (pyReprObj (.ref a)) Q E s := by
  obtain ⟨Ty, idr, hT, sl, c⟩ := repr_in (P := P) (w := w) (E := E) r sh ns hg hu1 sz hQ
  unfold pyReprObj
  refine wpAny_bind (m := cRoomFor _ _) (wpAny_cRoomFor (by omega) ?_)
  refine wpAny_bind (wpAny_specialOf (name := Str.ofString "__repr__") hT sl.lookup ?_)
  refine wpAny_bind (m := callSpecialIfBound? (.ref a) (Str.ofString "__repr__")) (wpAny_callSpecialIfBound?_slotG (name := Str.ofString "__repr__") hT sl (wpAny_mono c (fun r s₁ h₁ => ?_) fun _ _ e => e))
  obtain ⟨x, t, rfl, hq⟩ := h₁
  refine wpAny_bind (wpAny_isInstance (T := "str") (b := true) rfl isSubtype_str_str ?_)
  exact wpAny_pure hq
end
/-! ### f-strings -/
/-- {e!r} -/
def eFmtR (ta : EA) : EA := fun ς G Q X => ta ς G (fun x G1 => reprA [x] G1 Q) X
/-- {e}: a text, an int -/
def eFmt (ta : EA) : EA := fun ς G Q X => ta ς G (fun x G1 => match x with
  | .str y => y.length ≤ sizeLine ∧ Q (.str y) G1
  | .int i => i.natAbs.log2 < 1920 ∧ Q (.str (toString i)) G1
  | _ => False) X
def fsA : List EA → Str → EA
  | [], acc => fun _ G Q _ => Q (.str acc) G
  | t :: ts, acc => fun ς G Q X => t ς G (fun x G1 => ∃ y : Str, x = .str y ∧ (acc ++ y).length ≤ sizeLine ∧ fsA ts (acc ++ y) ς G1 Q X) X
def eFs (ts : List EA) : EA := fsA ts Str.empty
section
variable {X : Cx} {T : Tx} {FT : FTab} {m : Nat} {cl : CT} {df : List (String × Nat × List A)} {W : L2.WX} {a b e o : Expr} {es : List Expr} {pos apos : Pos} {ta tb to : EA} {t : LA} {f : Str}
theorem p_fmt (he : PE X e (lE T W ta)) : PE X (.FormattedValue e (-1) none pos) (lE T W (eFmt ta)) := by
  refine PE.imp (pe_fmt he) fun σ H Q ⟨ς, G, Qa, Xa, rs, rg, h, q, hx⟩ => ⟨ς, G, _, Xa, rs, rg, h, fun x G1 v H1 h1 rv rg1 k1 => ?_, hx⟩
  cases x with
  | str y => obtain rfl := rv_str rv; exact .inl ⟨y, rfl, h1.1, q _ _ _ _ h1.2 (rv_s _) rg1 k1⟩
  | int i => obtain rfl := rv_int rv; exact .inr ⟨i, rfl, h1.1, q _ _ _ _ h1.2 (rv_s _) rg1 k1⟩
  | _ => exact False.elim h1
theorem p_fmtR (ok : T.Ok X) (hg : X.A.guards = some []) (hu : X.A.units + 64 < cLine) (he : PE X e (lE T W ta)) : PE X (.FormattedValue e 114 none pos) (lE T W (eFmtR ta)) := by
  refine ⟨fun pins s σ H Q I h => ?_⟩
  obtain ⟨ς, G, Qa, Xa, rs, rg, h, q, hx⟩ := h
  have hh : lE T W ta σ H (fun v H1 => ∃ x, ∃ G1 : GS, ∃ rv : RV T G1 H1 x v, RG T H1 G1 ∧ Kp G H G1 H1 ∧ reprA [x] G1 Qa) := ⟨ς, G, _, Xa, rs, rg, h, fun x G1 v H1 h1 rv rg1 k1 => ⟨x, G1, rv, rg1, k1, h1⟩, hx⟩
  refine wpAny_FormattedValue_repr (thn (he.run pins s σ H _ I hh) fun u s1 ⟨v, H1, I1, r1, x, G1, rv, rg1, k1, h1⟩ => ?_)
  obtain ⟨a, d, e1, g1, g2, g3, g4, hf⟩ := h1
  cases e1
  obtain ⟨bs, rd, na⟩ := dat_reads ok I1 rg1 g1 rv r1
  have fin : ∀ h' u' tk, (∀ b o, s1.heap.get? b = some o → h'.get? b = some o) → wpAny (model X.prog X.w) X.A (formatField (.str d.shown u') Str.empty) (EP X pins σ Q) X.xe { s1 with heap := h', toks := tk } := fun h' u' tk hk =>
    wpAny_formatField_str ⟨.str d.shown, H1, I1.kept hk, ⟨_, rfl⟩, q _ _ _ _ hf (rv_s _) rg1 k1⟩ ⟨.str d.shown, H1, (I1.kept hk).tok _, ⟨_, rfl⟩, q _ _ _ _ hf (rv_s _) rg1 k1⟩ g3
  cases rd with
  | none => exact pyReprObj_none (fin s1.heap _ _ fun _ _ e => e)
  | bool b => exact pyReprObj_bool (by cases b <;> exact fin s1.heap _ _ fun _ _ e => e)
  | int i t => exact pyReprObj_int (by simpa [PyData.showable] using g2) (fin s1.heap _ _ fun _ _ e => e)
  | str x t => exact pyReprObj_str (fin s1.heap _ _ fun _ _ e => e) g3
  | list e1 e2 e3 e4 => exact reprObj_ref (.list e1 e2 e3 e4) g2 na hg (by omega) g3 fin
  | tuple e1 e2 e3 e4 => exact reprObj_ref (.tuple e1 e2 e3 e4) g2 na hg (by omega) g3 fin
  | dict e1 e2 e3 e4 e5 => exact reprObj_ref (.dict e1 e2 e3 e4 e5) g2 na hg (by omega) g3 fin
/-- the parts' judgements -/
inductive PJA (X : Cx) (T : Tx) (W : L2.WX) : List Expr → List EA → Prop where
  | nil : PJA X T W [] []
  | cons {e : Expr} {t : EA} {es : List Expr} {ts : List EA} (h : PE X e (lE T W t)) (r : PJA X T W es ts) : PJA X T W (e :: es) (t :: ts)
theorem pja_run {pins : List (Addr × Obj)} {σ : L2.St} {ς : En} {Qa : KA} {Xa : KX} {es : List Expr} {ts : List EA} (h : PJA X T W es ts) : ∀ (acc : Str) (s : Shared) (H : Hp) (G : GS) (R : Str → Shared → Prop), acc.length ≤ sizeLine → Inv X pins σ H s → RS T G H ς σ → RG T H G → fsA ts acc ς G Qa Xa → LX T G H Xa (WE W σ) →
    (∀ out s1 H1 (G1 : GS), out.length ≤ sizeLine → Inv X pins σ H1 s1 → Qa (.str out) G1 → RG T H1 G1 → Kp G H G1 H1 → R out s1) → Joins (model X.prog X.w) X.A X.xe (evalEach es X.env) acc R s := by
  induction h with
  | nil =>
    intro acc s H G R hz I rs rg q hx k
    have e0 : evalEach [] X.env = [] := by first | rfl | simp [evalEach]
    rw [e0]
    exact k acc s H G hz I q rg Kp.refl
  | @cons e t es ts he r ih =>
    intro acc s H G R hz I rs rg q hx k
    have e0 : evalEach (e :: es) X.env = eval e X.env :: evalEach es X.env := by first | rfl | simp [evalEach]
    rw [e0]
    have hh : lE T W t σ H (fun v H1 => ∃ x, ∃ G1 : GS, ∃ rv : RV T G1 H1 x v, RG T H1 G1 ∧ Kp G H G1 H1 ∧ ∃ y : Str, x = .str y ∧ (acc ++ y).length ≤ sizeLine ∧ fsA ts (acc ++ y) ς G1 Qa Xa) := ⟨ς, G, _, Xa, rs, rg, q, fun x G1 v H1 h1 rv rg1 k1 => ⟨x, G1, rv, rg1, k1, h1⟩, hx⟩
    refine thn (he.run pins s σ H _ I hh) fun u s1 ⟨v, H1, I1, r1, x, G1, rv, rg1, k1, y, ey, hy, q1⟩ => ?_
    subst ey
    obtain rfl := rv_str rv
    obtain ⟨tk, rfl⟩ := r1
    exact ⟨y, tk, rfl, hy, ih (acc ++ y) s1 H1 G1 R hy I1 (rs.mono k1) rg1 q1 (hx.step k1) fun out s2 H2 G2 a b c d e => k out s2 H2 G2 a b c d (k1.trans e)⟩
theorem p_fs {v1 v2 : Expr} {rest : List Expr} {ts : List EA} (h : PJA X T W (v1 :: v2 :: rest) ts) : PE X (.JoinedStr (v1 :: v2 :: rest) pos) (lE T W (eFs ts)) := by
  refine ⟨fun pins s σ H Q I hq => ?_⟩
  obtain ⟨ς, G, Qa, Xa, rs, rg, hq, q, hx⟩ := hq
  exact wpAny_JoinedStr (pja_run h Str.empty s H G _ (Nat.zero_le _) I rs rg hq hx fun out s1 H1 G1 hz I1 q1 rg1 k1 => ⟨hz, .str out, H1, I1.tok _, ⟨_, rfl⟩, q _ _ _ _ q1 (rv_s _) rg1 k1⟩)
end
end Q
/-! Nc6: sum(lists, []). -/
namespace PySem
open Sem (wp)
def accV (val : Nat → List Value) : Nat → List Value
  | 0 => []
  | i + 1 => accV val i ++ val i
section
variable {prog : Program} {w : World} {A : Around} {R : Result → Shared → Prop} {I : Addr} {fp wr : List Addr} {n : Nat} {P : Nat → Value → Prop} {St : Nat → Heap → Prop}
theorem codeAny_sum_lists (W : Walks prog w A.in1 I fp wr n P St) (ad : Nat → Addr) (val : Nat → List Value) (hval : ∀ i v, P i v → v = .ref (ad i)) (S : Addr) (hSf : S ∉ fp) (had : ∀ i, i < n → ad i ∉ wr ∧ ad i ≠ S) (hwr : ∀ b ∈ wr, b < S) (hsz : ∀ i, i ≤ n → (accV val i).length ≤ sizeLine) :
    ∀ (k i : Nat) (s : Shared) (T : Addr) (c : Nat), n - i = k → i ≤ n → St i s.heap → s.heap.get? S = some { cls := .type "list", dict := none, data := .seq #[.ref T] c, slots := #[] } → T ∉ wr → T ≠ S → (0 < i → S < T) →
    (∃ kk, s.heap.get? T = some { cls := .type "list", data := .seq (accV val i).toArray kk }) → (∀ j, j < n → ∃ kk, s.heap.get? (ad j) = some { cls := .type "list", data := .seq (val j).toArray kk }) →
    (∀ h' tk T', (∀ b o, b ∉ wr → b ≠ S → s.heap.get? b = some o → h'.get? b = some o) → (i = n → T' = T) → (0 < n → S < T') → (∃ kk, h'.get? T' = some { cls := .type "list", data := .seq (accV val n).toArray kk }) → R (.ok (.ret (.ref T'))) { s with heap := h', toks := tk }) →
    codeAny (model prog w) A (.builtin "sum.loop" ⟨[.ref I, .ref S, rawInt 2, rawInt 0], []⟩) R s := by
  have hSw : S ∉ wr := fun h => hSf (W.sub _ h)
  intro k
  induction k with
  | zero =>
    intro i s T c hk hi hst hS hTw hTS hpos hT hL hR
    have hin : i = n := by omega
    subst hin
    refine codeAny_builtin F.entry_sum_loop ?_
    rw [Around.under_plainId F.plain_sum_loop _]
    show wpAny _ A.in1 (seqItems? (.ref S) >>= _) _ _ s
    refine wpAny_bind (wpAny_seqItems hS rfl ?_)
    show wpAny _ A.in1 (tryCatch (pyNext (.ref I)) _ >>= _) _ _ s
    refine wpAny_bind (wpAny_tryCatch (W.done s _ _ hst fun h' tk hk' => ?_))
    obtain ⟨kk, hT⟩ := hT
    exact wpAny_pure (hR h' tk T (fun b o hbw _ e => hk' b o hbw e) (fun _ => rfl) hpos ⟨kk, hk' T _ hTw hT⟩)
  | succ k ih =>
    intro i s T c hk hi hst hS hTw hTS hpos hT hL hR
    have hlt : i < n := by omega
    refine codeAny_builtin F.entry_sum_loop ?_
    rw [Around.under_plainId F.plain_sum_loop _]
    show wpAny _ A.in1 (seqItems? (.ref S) >>= _) _ _ s
    refine wpAny_bind (wpAny_seqItems hS rfl ?_)
    show wpAny _ A.in1 (tryCatch (pyNext (.ref I)) _ >>= _) _ _ s
    refine wpAny_bind (wpAny_tryCatch (W.item i s _ _ hlt hst fun v h' tk hP hst' hk' => ?_))
    obtain rfl := hval i v hP
    have hS' := hk' S _ hSw hS
    obtain ⟨kk, hT⟩ := hT
    obtain ⟨k2, hL2⟩ := hL i hlt
    have hT' := hk' T _ hTw hT
    have hL' := hk' (ad i) _ (had i hlt).1 hL2
    show wpAny _ A.in1 ((holding [Value.ref (ad i)] (binaryOp .Add (.ref T) (.ref (ad i)))).attempt >>= _) _ _ _
    refine wpAny_bind (wpAny_attempt (wpAny_holding (PySem.P.add_list (s := { s with heap := h', toks := tk }) hT' hL' ?_ ?_)))
    · have nz : n ≠ 0 := by omega
      have hSz : S < h'.objs.size := Heap.lt_size hS'
      have pu : ∀ b o, h'.get? b = some o → (h'.push { cls := .type "list", data := .seq ((accV val i).toArray ++ (val i).toArray) }).get? b = some o := fun b o e => Heap.get?_push_of_some _ e
      have hS1 := pu _ _ hS'
      show wpAny _ A.in1 (updateSeq S (fun _ => #[.ref h'.objs.size]) >>= _) _ _ _
      refine wpAny_bind (wpAny_updateSeq hS1 rfl ?_)
      have hS2 := Heap.get?_update_self (Obj.mapSeq fun _ => #[Value.ref h'.objs.size]) hS1 rfl
      refine wpAny_bind (wpAny_letGo ?_)
      refine wpAny_bind (wpAny_updateSeq hS2 rfl (wpAny_pure ⟨plainId_quiet F.plain_sum_loop _, ?_⟩))
      have oth : ∀ b o, b ≠ S → h'.get? b = some o → (((h'.push { cls := .type "list", data := .seq ((accV val i).toArray ++ (val i).toArray) }).update S (Obj.mapSeq fun _ => #[Value.ref h'.objs.size])).update S (Obj.mapSeq fun _ => #[Value.ref h'.objs.size])).get? b = some o := fun b o hb e =>
        (Heap.get?_update_other _ _ (Ne.symm hb)).trans ((Heap.get?_update_other _ _ (Ne.symm hb)).trans (pu b o e))
      refine ih (i + 1) _ h'.objs.size _ (by omega) hlt (W.frame _ _ _ hst' fun b hb o e => oth b o (fun z => hSf (z ▸ hb)) e) (Heap.get?_update_self _ hS2 rfl) (fun z => absurd (hwr _ z) (Nat.not_lt.mpr (Nat.le_of_lt hSz))) (Nat.ne_of_gt hSz) (fun _ => hSz) ⟨0, ?_⟩ (fun j hj => ?_) fun h'' tk'' T'' hk'' _ hp'' hc'' => ?_
      · refine (Heap.get?_update_other _ _ (Nat.ne_of_lt hSz)).trans ((Heap.get?_update_other _ _ (Nat.ne_of_lt hSz)).trans ?_)
        have := Heap.get?_push_size h' (o := { cls := .type "list", data := .seq ((accV val i).toArray ++ (val i).toArray) }) rfl
        rw [this]
        simp [accV]
      · obtain ⟨k3, e⟩ := hL j hj
        exact ⟨k3, oth _ _ (had j hj).2 (hk' _ _ (had j hj).1 e)⟩
      · exact hR h'' tk'' T'' (fun b o hbw hbS e => hk'' b o hbw hbS (oth b o hbS (hk' b o hbw e))) (fun z => absurd z (by omega)) hp'' hc''
    · have := hsz (i + 1) hlt
      simp only [accV, List.length_append] at this
      simpa using this
end
section
variable {prog : Program} {w : World} {A : Around} {E : Value → Shared → Prop} {s : Shared}
/-- sum(l, b), b an empty list -/
theorem sum_lists {l b : Addr} {items : Array Value} (ad : Nat → Addr) (val : Nat → List Value) {Q : Value → Shared → Prop} {k0 : Nat} (hh : A.handled = none) (hl : s.heap.IsList l items) (hb : s.heap.get? b = some { cls := .type "list", data := .seq #[] k0 })
    (hval : ∀ i v, items[i]? = some v → v = Value.ref (ad i)) (hL : ∀ j, j < items.size → ∃ kk, s.heap.get? (ad j) = some { cls := .type "list", data := .seq (val j).toArray kk }) (hsz : ∀ i, i ≤ items.size → (accV val i).length ≤ sizeLine)
    (h : ∀ h' tk T, (∀ b o, s.heap.get? b = some o → h'.get? b = some o) → (items.size = 0 → T = b) → (0 < items.size → s.heap.objs.size ≤ T) → (∃ kk, h'.get? T = some { cls := .type "list", data := .seq (accV val items.size).toArray kk }) → Q (.ref T) { s with heap := h', toks := tk }) :
    wpAny (model prog w) A (call (.builtin "sum") [.ref l, .ref b]) Q E s := by
  have sub1 : isSubtype (.type "list") (.type "str") = pure false := by rw [isSubtype_type]; kernel_rfl
  have sub2 : isSubtype (.type "list") (.type "bytes") = pure false := by rw [isSubtype_type]; kernel_rfl
  have sub3 : isSubtype (.type "list") (.type "bytearray") = pure false := by rw [isSubtype_type]; kernel_rfl
  have args2 : argsOk "sum" ⟨[.ref l, .ref b], []⟩ := by unfold argsOk; kernel_rfl
  have ll : l < s.heap.objs.size := by obtain ⟨o, ho, _⟩ := hl; exact Heap.lt_size ho
  have bb : b < s.heap.objs.size := Heap.lt_size hb
  refine call_function_tree F.kind_sum F.plain_sum F.entry_sum args2 ?_
  unfold Builtin.«sum»
  simp only [List.length_cons, List.length_nil]
  rw [if_neg (by decide)]
  refine wpAny_bind (wpAny_of_eq (show Builtin.Builtins.bindParams "sum" ["start"] 0 ⟨[.ref b], []⟩ = pure [some (.ref b)] from rfl) ?_)
  refine wpAny_bind (wpAny_pyIter_list hl ?_)
  have pu : ∀ c o, s.heap.get? c = some o → (s.heap.push { cls := .type "list_iterator", data := .fields #[.ref l, .int 0 0] }).get? c = some o := fun c o e => Heap.get?_push_of_some _ e
  have hit : (s.heap.push { cls := .type "list_iterator", data := .fields #[.ref l, .int 0 0] }).IsListIter s.heap.objs.size l 0 := ⟨_, Heap.get?_push_size _ rfl, rfl, rfl⟩
  have hlp : (s.heap.push { cls := .type "list_iterator", data := .fields #[.ref l, .int 0 0] }).IsList l items := hl.push _
  have hsz1 : (s.heap.push { cls := .type "list_iterator", data := .fields #[.ref l, .int 0 0] }).objs.size = s.heap.objs.size + 1 := Heap.size_push ..
  have W := Walks.list (prog := prog) (w := w) (A := A.in1) hh s.heap.objs.size l (Nat.ne_of_lt ll) items
  have ty : ∀ (h' : Heap), h'.get? b = some { cls := .type "list", data := .seq #[] k0 } → ({ s with heap := h' } : Shared).TypeIs (.ref b) "list" := fun h' e => ⟨_, e, rfl⟩
  refine wpAny_bind (wpAny_pure ?_)
  simp only [List.forIn_cons, List.forIn_nil]
  refine wpAny_bind (wpAny_bind (wpAny_bind (wpAny_isInstance (T := "list") (b := false) (ty _ (pu _ _ hb)) sub1 ?_)))
  simp only [Bool.false_eq_true, if_false]
  refine wpAny_pure (wpAny_bind (wpAny_bind (wpAny_isInstance (T := "list") (b := false) (ty _ (pu _ _ hb)) sub2 ?_)))
  simp only [Bool.false_eq_true, if_false]
  refine wpAny_pure (wpAny_bind (wpAny_bind (wpAny_isInstance (T := "list") (b := false) (ty _ (pu _ _ hb)) sub3 ?_)))
  simp only [Bool.false_eq_true, if_false]
  refine wpAny_pure (wpAny_pure ?_)
  refine wpAny_bind (wpAny_newObj_type ?_)
  have pu2 : ∀ (o' : Obj) c o, s.heap.get? c = some o → ((s.heap.push { cls := .type "list_iterator", data := .fields #[.ref l, .int 0 0] }).push o').get? c = some o := fun o' c o e => Heap.get?_push_of_some _ (pu c o e)
  have lw : ∀ c, c < s.heap.objs.size → c ≠ s.heap.objs.size ∧ c ≠ s.heap.objs.size + 1 := fun c h => ⟨Nat.ne_of_lt h, Nat.ne_of_lt (Nat.lt_succ_of_lt h)⟩
  have la : ∀ j, j < items.size → ad j < s.heap.objs.size := fun j hj => by obtain ⟨_, e⟩ := hL j hj; exact Heap.lt_size e
  refine wpAny_pure ⟨plainId_quiet F.plain_sum_loop _, codeAny_sum_lists W ad val hval (s.heap.push { cls := .type "list_iterator", data := .fields #[.ref l, .int 0 0] }).objs.size ?_ (fun i hi => ⟨?_, ?_⟩) ?_ hsz items.size 0 _ b 0 rfl (Nat.zero_le _)
    (W.frame _ _ _ ⟨hit, hlp⟩ fun b _ o e => Heap.get?_push_of_some _ e) (Heap.get?_push_size _ rfl) ?_ ?_ (fun z => absurd z (Nat.lt_irrefl _)) ⟨k0, ?_⟩ (fun j hj => ?_) fun h' tk T' hk h1 h2 h3 => ?_⟩
  · rw [hsz1]
    intro hm
    rcases List.mem_cons.mp hm with e | hm
    · exact Nat.succ_ne_self _ e
    · exact (lw l ll).2 (List.mem_singleton.mp hm).symm
  · exact fun hm => (lw _ (la i hi)).1 (List.mem_singleton.mp hm)
  · rw [hsz1]; exact (lw _ (la i hi)).2
  · intro c hc
    rw [List.mem_singleton.mp hc, hsz1]; exact Nat.lt_succ_self _
  · exact fun hm => (lw b bb).1 (List.mem_singleton.mp hm)
  · rw [hsz1]; exact (lw b bb).2
  · exact pu2 _ _ _ hb
  · obtain ⟨kk, e⟩ := hL j hj
    exact ⟨kk, pu2 _ _ _ e⟩
  · refine h h' tk T' (fun c o e => hk c o (fun hm => (lw c (Heap.lt_size e)).1 (List.mem_singleton.mp hm)) (by rw [hsz1]; exact (lw c (Heap.lt_size e)).2) (pu2 _ _ _ e)) (fun z => h1 z.symm) (fun z => ?_) h3
    have := h2 z
    rw [hsz1] at this
    exact Nat.le_of_lt (Nat.lt_of_succ_lt this)
end
end PySem
/-! Nc7: sum(lists, []) as a built-in of the evaluator. -/
namespace Q
open PySem PySem.Spec PyProof.Rows L2
def allL (G : Gp) : List A → Option (List (List A))
  | [] => some []
  | x :: xs => match lstOf G x, allL G xs with
    | some y, some ys => some (y :: ys)
    | _, _ => none
def sumLA : PN := fun as G Q => match as with
  | [a, .fro []] => ∃ xs yss, lstOf G a = some xs ∧ allL G xs = some yss ∧ yss.flatten.length ≤ sizeLine ∧ Q (.fro yss.flatten) G
  | _ => False
section
variable {X : Cx} {T : Tx}
/-- the inner lists, at their addresses -/
theorem allL_rep {pins : List (Addr × Obj)} {σ : L2.St} {H : Hp} {s : Shared} {G : GS} (I : Inv X pins σ H s) (rg : RG T H G) : ∀ {xs : List A} {yss : List (List A)} {vs : List V} {us : List Value}, allL G xs = some yss → RVs T G H xs vs → Vals vs us →
    ∃ (ad : Nat → Addr) (val : Nat → List Value) (ws : Nat → List V), (∀ i u, us[i]? = some u → u = Value.ref (ad i)) ∧ (∀ i, i < us.length → (∃ kk, s.heap.get? (ad i) = some { cls := .type "list", data := .seq (val i).toArray kk }) ∧ Vals (ws i) (val i)) ∧
      ∀ i, i < us.length → ∃ ys, yss[i]? = some ys ∧ RVs T G H ys (ws i)
  | [], yss, vs, us, h, rv, r => by
    simp only [RVs] at rv
    subst rv
    cases r
    exact ⟨fun _ => default, fun _ => [], fun _ => [], fun i u e => by simp at e, fun i hi => absurd hi (by simp), fun i hi => absurd hi (by simp)⟩
  | x :: xs, yss, vs, us, h, rv, r => by
    simp only [RVs] at rv
    obtain ⟨v, vs', rfl, r1, r2⟩ := rv
    simp only [allL] at h
    split at h
    · rename_i y ys e1 e2
      cases h
      cases r with
      | @cons _ u _ us' ru rs =>
        obtain ⟨ad, val, ws, a1, a2, a3⟩ := allL_rep I rg e2 r2 rs
        obtain ⟨p, zs, rfl, hp, rz⟩ := lstOf_rep rg e1 r1
        obtain ⟨z, its, n, rr, hl, e⟩ := I.lstM hp
        cases (show u = Value.ref p from ru)
        refine ⟨fun i => match i with | 0 => p | i + 1 => ad i, fun i => match i with | 0 => its | i + 1 => val i, fun i => match i with | 0 => zs | i + 1 => ws i, fun i u eu => ?_, fun i hi => ?_, fun i hi => ?_⟩
        · cases i with
          | zero => simp at eu; exact eu.symm
          | succ i => exact a1 i u (by simpa using eu)
        · cases i with
          | zero => exact ⟨⟨n, e⟩, rr⟩
          | succ i => exact a2 i (by simpa using hi)
        · cases i with
          | zero => exact ⟨y, rfl, rz⟩
          | succ i => obtain ⟨ys', e', r'⟩ := a3 i (by simpa using hi); exact ⟨ys', by simpa using e', r'⟩
    · cases h
def accW (ws : Nat → List V) : Nat → List V
  | 0 => []
  | i + 1 => accW ws i ++ ws i
theorem allL_len {G : Gp} : ∀ {xs : List A} {yss : List (List A)}, allL G xs = some yss → yss.length = xs.length
  | [], yss, h => by simp only [allL, Option.some.injEq] at h; subst h; rfl
  | x :: xs, yss, h => by
    simp only [allL] at h
    split at h
    · rename_i y ys e1 e2
      cases h
      simp [allL_len e2]
    · cases h
theorem acc_rep {G : GS} {H : Hp} {yss : List (List A)} {val : Nat → List Value} {ws : Nat → List V} (a2 : ∀ i, i < yss.length → Vals (ws i) (val i)) (a3 : ∀ i, i < yss.length → ∃ ys, yss[i]? = some ys ∧ RVs T G H ys (ws i)) :
    ∀ i, i ≤ yss.length → Vals (accW ws i) (accV val i) ∧ RVs T G H (yss.take i).flatten (accW ws i)
  | 0, _ => ⟨.nil, by simp only [List.take_zero, List.flatten_nil, accW, RVs]⟩
  | i + 1, hi => by
    obtain ⟨h1, h2⟩ := acc_rep a2 a3 i (by omega)
    obtain ⟨ys, e, r⟩ := a3 i (by omega)
    refine ⟨h1.append (a2 i (by omega)), ?_⟩
    have hl : i < yss.length := by omega
    rw [List.take_succ, e]
    simp only [Option.toList, List.flatten_append, List.flatten_cons, List.flatten_nil, List.append_nil]
    exact h2.app r
theorem c_sumL (hc : X.calm = true) : CallR X (.builtin "sum") (lN T sumLA) := by
  intro pins s σ H xs us Q I r ⟨as, G, Qa, rv, rg, hf, q⟩
  unfold sumLA at hf
  split at hf
  · rename_i a
    obtain ⟨ys, yss, h1, h2, hz, hf⟩ := hf
    obtain ⟨v, w, rfl, ra, rb⟩ := rvs2 rv
    obtain ⟨p, vs, rfl, hp, rvs⟩ := lstOf_rep rg h1 ra
    have hb := rb
    simp only [RV] at hb
    obtain ⟨b, ws0, rfl, fb, hb, rb0⟩ := hb
    have rb0 := rvs0 rb0
    subst rb0
    obtain ⟨u1, u2, rfl, r1, r2⟩ := vals2 r
    cases (show u1 = Value.ref p from r1)
    cases (show u2 = Value.ref b from r2)
    obtain ⟨z, its, n, rr, hl, e⟩ := I.lstM hp
    obtain ⟨z2, its2, n2, rr2, hl2, e2⟩ := I.lstM hb
    cases rr2
    obtain ⟨ad, val, ws, a1, a2, a3⟩ := allL_rep I rg h2 rvs rr
    have hyl : yss.length = its.length := by rw [allL_len h2, ← rvs.len, hl]
    have ac := acc_rep (T := T) (G := G) (H := H) (yss := yss) (val := val) (ws := ws) (fun i hi => (a2 i (by omega)).2) (fun i hi => a3 i (by omega))
    have lenV : ∀ i, i ≤ its.length → (accV val i).length ≤ sizeLine := fun i hi => by
      obtain ⟨b1, b2⟩ := ac i (by omega)
      rw [← b1.length, b2.len]
      refine Nat.le_trans ?_ hz
      have := congrArg (fun l => List.length (List.flatten l)) (List.take_append_drop i yss)
      simp only [List.flatten_append, List.length_append] at this
      omega
    have IL : s.heap.IsList p its.toArray := ⟨_, e, rfl, n, rfl⟩
    refine sum_lists (items := its.toArray) (k0 := n2) ad val (I.ok.hd hc) IL e2 (fun i u eu => a1 i u (by simpa using eu)) (fun j hj => (a2 j (by simpa using hj)).1) (fun i hi => lenV i (by simpa using hi)) fun h' tk Ta hk t0 t1 hT => ?_
    obtain ⟨kk, hT⟩ := hT
    obtain ⟨b1, b2⟩ := ac its.length (by omega)
    have full : (yss.take its.length).flatten = yss.flatten := by rw [← hyl, List.take_length]
    rw [full] at b2
    by_cases h0 : its.length = 0
    · have := t0 (by simpa using h0)
      subst this
      have y0 : yss = [] := List.length_eq_zero_iff.mp (by omega)
      subst y0
      exact ⟨.ref Ta, H, I.kept hk, rfl, q _ G _ _ hf rb rg Kp.refl⟩
    · have hfr := t1 (by simp; omega)
      have hH : H Ta = none := I.hok.fresh hfr
      refine ⟨.ref Ta, upd H Ta (.lst (accW ws its.length)), I.laid (t' := tk) hk hfr ⟨by rw [b2.len]; exact hz, _, kk, b1, by simpa using hT⟩, rfl, ?_⟩
      exact new_lst (m := false) rg b2 hf q hH
  · exact hf.elim
end
end Q
/-! Nc8: is, is not; three names stored at once. -/
namespace Q
open PySem PySem.Spec PyProof.Rows L2
def isNon : A → Bool
  | .non => true
  | _ => false
/-- is, is not: of truths; of any value and None -/
def isA (neg : Bool) : P2 := fun a b G Q => (∃ x y, a = .bl x ∧ b = .bl y ∧ Q (.bl (if neg then !decide (x = y) else decide (x = y))) G) ∨ (b = .non ∧ Q (.bl (if neg then !isNon a else isNon a)) G)
section
variable {X : Cx} {T : Tx}
theorem rv_isNon {G : GS} {H : Hp} {a : A} {v : V} (r : RV T G H a v) : decide (v = V.non) = isNon a := by
  cases a <;> simp only [RV] at r
  case non => subst r; rfl
  case bl => subst r; rfl
  case int => subst r; rfl
  case str => subst r; rfl
  case ref => subst r; rfl
  all_goals (obtain ⟨p, r⟩ := r)
  case tup => obtain ⟨vs, rfl, _⟩ := r; rfl
  case scr => obtain ⟨vs, rfl, _⟩ := r; rfl
  case fro => obtain ⟨vs, rfl, _⟩ := r; rfl
  case fdc => obtain ⟨vs, rfl, _⟩ := r; rfl
  case fin => obtain ⟨c, dx, vs, rfl, _⟩ := r; rfl
  case exn => obtain ⟨c, dx, vs, rfl, _⟩ := r; rfl
theorem o_is : OpR X (compareOp .Is) (l2 T (isA false)) := by
  intro pins s σ H x y v u Q I rx ry ⟨a, b, G, Qa, ra, rb, rg, hf, q⟩
  rcases hf with ⟨i, j, rfl, rfl, hf⟩ | ⟨rfl, hf⟩
  · simp only [RV] at ra rb
    subst ra; subst rb
    exact op_isBl pins s σ H _ _ v u Q I rx ry ⟨_, _, rfl, rfl, q _ _ _ _ hf (rv_b _) rg Kp.refl⟩
  · simp only [RV] at rb
    subst rb
    refine op_isN pins s σ H _ _ v u Q I rx ry ⟨rfl, ?_⟩
    rw [rv_isNon ra]
    exact q _ _ _ _ hf (rv_b _) rg Kp.refl
theorem o_isnot : OpR X (compareOp .IsNot) (l2 T (isA true)) := by
  intro pins s σ H x y v u Q I rx ry ⟨a, b, G, Qa, ra, rb, rg, hf, q⟩
  rcases hf with ⟨i, j, rfl, rfl, hf⟩ | ⟨rfl, hf⟩
  · simp only [RV] at ra rb
    subst ra; subst rb
    exact op_notBl pins s σ H _ _ v u Q I rx ry ⟨_, _, rfl, rfl, q _ _ _ _ hf (rv_b _) rg Kp.refl⟩
  · simp only [RV] at rb
    subst rb
    refine op_notN pins s σ H _ _ v u Q I rx ry ⟨rfl, ?_⟩
    rw [rv_isNon ra]
    exact q _ _ _ _ hf (rv_b _) rg Kp.refl
theorem rvs3 {G : GS} {H : Hp} {x y z : A} {vs : List V} (h : RVs T G H [x, y, z] vs) : ∃ v w u, vs = [v, w, u] ∧ RV T G H x v ∧ RV T G H y w ∧ RV T G H z u := by
  simp only [RVs] at h
  obtain ⟨v, r, rfl, h1, w, r2, rfl, h2, u, r3, rfl, h3, rfl⟩ := h
  exact ⟨v, w, u, rfl, h1, h2, h3⟩
def sPar3 (i j l : Nat) (t : LA) : SA := fun D ς G => t ς G (fun as G1 => match as with
  | [x, y, z] => D.nx (((ς.set i (some x)).set j (some y)).set l (some z)) G1
  | _ => False) (fun e => D.ex e ς)
variable {W : L2.WX}
theorem s_par3 {i j l : Nat} {x y z : Str} {a b c : Expr} {t : LA} {px py pz pt pos : Pos} {kt k2 : Nat} {pt2 : Pos} (hc : X.calm = true) (hN : X.N.Nodup) (hi : X.N[i]? = some x) (hj : X.N[j]? = some y) (hl : X.N[l]? = some z) (hij : i ≠ j) (hil : i ≠ l) (hjl : j ≠ l)
    (hx : X.env.scope.names.lookup x = some .local) (hy : X.env.scope.names.lookup y = some .local) (hz : X.env.scope.names.lookup z = some .local) (ha : PA X [a, b, c] (lL T W t))
    (hw : swappedStores [.Tuple [.Name x px, .Name y py, .Name z pz] kt pt] (.Tuple [a, b, c] k2 pt2) X.env = pure (some [x, y, z]))
    (hs : swapsWithSole [.Tuple [.Name x px, .Name y py, .Name z pz] kt pt] (.Tuple [a, b, c] k2 pt2) pos.line X.env = pure false) :
    PS X (.Assign [.Tuple [.Name x px, .Name y py, .Name z pz] kt pt] (.Tuple [a, b, c] k2 pt2) pos) (lS T W (sPar3 i j l t)) := by
  refine PS.imp (ps_par3 hc hN hi hj hl hij hil hjl hx hy hz ha hw hs) fun D σ H ⟨ς, G, Da, rs, rg, h, q⟩ => ⟨ς, G, _, fun e => Da.ex e ς, rs, rg, h, fun as G1 vs H1 h1 rv rg1 k1 => ?_, q.lx rg rs⟩
  match as, h1 with
  | [x1, y1, z1], h1 =>
    obtain ⟨v, w, u, rfl, r1, r2, r3⟩ := rvs3 rv
    exact ⟨v, w, u, rfl, q.nx _ _ _ _ h1 ((((rs.mono k1).set i r1).set j r2).set l r3) rg1 k1⟩
end
end Q
/-! Nc9: displays of dicts, whatever the keys. -/
namespace Q
open PySem PySem.Spec PyProof.Rows L2
/-- the pairs are put, one behind another -/
def PutsD (D : Addr) : List (V × V) → Hp → (Hp → Prop) → Prop
  | [], H, Q => Q H
  | p :: r, H, Q => ∃ H', PutD H D p.1 p.2 H' ∧ PutsD D r H' Q
def tDisG (trs : List (TE × TE)) : TE := fun σ H Q => ∀ D, H D = none → tPairs trs σ (upd H D (.dK [])) fun ps H2 => PutsD D ps H2 (Q (.ref D))
section
variable {X : Cx} {T : Tx} {W : L2.WX}
theorem puts_ok {pins : List (Addr × Obj)} {σ : L2.St} {D : Addr} {Q : Hp → Prop} {E : Value → Shared → Prop} (hu : X.A.units + 1 < cLine) : ∀ {ps : List (V × V)} {ws : List (Value × Value)} {H : Hp} {s : Shared}, Inv X pins σ H s → VV ps ws → PutsD D ps H Q →
    wpAny (model X.prog X.w) X.A (forIn ws PUnit.unit fun (x : Value × Value) (_ : PUnit) => (do dictSet D x.1 x.2; pure (ForInStep.yield PUnit.unit) : Sem (ForInStep PUnit))) (fun _ s' => ∃ H', Inv X pins σ H' s' ∧ Q H') E s
  | _, _, H, s, I, .nil, q => by
    rw [List.forIn_nil]
    exact wpAny_pure ⟨H, I, q⟩
  | _, _, H, s, I, .cons r t, q => by
    obtain ⟨H1, g, q⟩ := q
    rw [List.forIn_cons]
    refine wpAny_bind (wpAny_bind (d_setC hu I g r.1 r.2 fun s1 I1 => wpAny_pure ?_))
    exact puts_ok hu I1 t q
theorem pe_disG {pos : Pos} {keys : List (Option Expr)} {values : List Expr} {trs : List (TE × TE)} (hu : X.A.units + 1 < cLine) (h : PPs X pos keys values trs) (hall : keys.all (·.isSome) = true) (hl : keys.length = values.length) (h0 : keys ≠ [])
    (h15 : keys.length ≤ 15) : PE X (.Dict keys values pos) (tDisG trs) := by
  refine ⟨fun pins s σ H Q I q => ?_⟩
  have hn := I.hok.fresh (Nat.le_refl s.heap.objs.size)
  have I1 := I.laid (a := s.heap.objs.size) (o := .dK []) (h' := s.heap.push { cls := .type "dict", data := .dict #[] }) (t' := s.toks) (fun _ _ q => Heap.get?_push_of_some _ q) (Nat.le_refl _) (dk_empty s.heap I.big)
  have hlen := pairTrees_length keys values X.env pos hall hl
  rw [arm_eval_Dict, zip_pairTrees keys values X.env pos hall hl, dictDisplay_pairs _ (fun e => by rw [e] at hlen; exact h0 (List.length_eq_zero_iff.mp hlen.symm)) (by omega)]
  refine wpAny_bind (wpAny_standAt (wpAny_bind ?_))
  unfold subDict
  refine wpAny_bind (wpAny_alloc ?_)
  refine wpAny_bind (wpAny_holding ?_)
  rw [if_pos (by omega)]
  refine wpAny_bind (thn (h.run pins _ σ _ _ I1 (q _ hn)) fun ws s2 ⟨ps, H2, I2, rel, q2⟩ => ?_)
  refine wpAny_holding (wpAny_bind (thn (puts_ok hu I2 rel q2) fun _ s3 ⟨H3, I3, q3⟩ => wpAny_pure (wpAny_pure (wpAny_pure ⟨.ref _, H3, I3, rfl, q3⟩))))
/-- each key goes with those ahead of it -/
def disOk : List (A × A) → List (A × A) → Bool
  | _, [] => true
  | acc, p :: r => keyOk p.1 acc && disOk (putA acc p.1 p.2) r
def eDis2 (m : Bool) (ps : List (EA × EA)) : EA := fun ς G Q X => prs ps ς G (fun kvs G1 => kvs.length ≤ 15 ∧ disOk [] kvs = true ∧ new m (.dct (putsA [] kvs)) G1 Q) X
theorem putA_len' (kvs : List (A × A)) (k v : A) : (putA kvs k v).length ≤ kvs.length + 1 := by
  unfold putA
  split <;> simp
theorem puts_go {m : Bool} {G1 : GS} {H1 : Hp} {D : Addr} {Qa : KA} {Q : VK} (hD : H1 D = none) (q : LQ T G1 H1 Qa Q) : ∀ {kvs : List (A × A)} {vps : List (V × V)} (acc : List (A × A)) {G : GS} {H : Hp} {o : HO}, RPs T G H kvs vps → Hdo G1 H1 G H D o → DRep T G H D acc → RG T H G → acc.length + kvs.length ≤ 1000 → disOk acc kvs = true →
    new m (.dct (putsA acc kvs)) G Qa → PutsD D vps H (Q (.ref D))
  | _, _, acc, G, H, o, .nil, hd, da, rg, _, _, n => hd.fin (ob := .dct acc) hD rg (fun G2 ks => (da.mono ks rfl).ro) n q
  | _, _, acc, G, H, o, @Paired.cons _ _ _ p v kvs vps r t, hd, da, rg, hl, hk, n => by
    simp only [disOk, Bool.and_eq_true] at hk
    simp only [List.length_cons] at hl
    obtain ⟨o', p1, p2, p3⟩ := dputH hd.s da hk.1 (by unfold sizeLine; omega) r.1 r.2
    have pl := putA_len' acc p.1 p.2
    have ks : Ks G H G (upd H D o') := ks_off hd.s
    exact ⟨_, p1, puts_go hD q (putA acc p.1 p.2) (Paired.mapP t fun _ _ z => ⟨RV.mono' ks z.1, RV.mono' ks z.2⟩) (hd.put hD p3) p2 (hd.rg rg) (by omega) hk.2 n⟩
theorem p_dis2 {m : Bool} {pos : Pos} {ks : List (Option Expr)} {vs : List Expr} {ps : List (EA × EA)} (hu : X.A.units + 1 < cLine) (h : PPs X pos ks vs (ps.map fun p => (lE T W p.1, lE T W p.2))) (hall : ks.all (·.isSome) = true) (hl : ks.length = vs.length) (h0 : ks ≠ []) (h15 : ks.length ≤ 15) :
    PE X (.Dict ks vs pos) (lE T W (eDis2 m ps)) := by
  refine PE.imp (pe_disG hu h hall hl h0 h15) fun σ H Q ⟨ς, G, Qa, Xa, rs, rg, h, q, hx⟩ => fun D hD => ?_
  have hid := Hdo.lay (o := .dK []) rg hD id
  have rg0 : RG T (upd H D (.dK [])) G := Hid.rg0 rg hD
  refine prs_lift ps (rs.mono hid.k) rg0 h (fun kvs G' vps H' h' rp rg' k' => ?_) (hx.step hid.k)
  have hd := hid.go k'
  exact puts_go hD q [] rp hd (.inl ⟨[], hd.h, .nil⟩) rg' (by simp; omega) h'.2.1 h'.2.2
theorem dis_k {kvs : List (A × A)} : ∀ {acc : List (A × A)}, (acc.all fun p => (isK p.1).isSome) = true → (kvs.all fun p => (isK p.1).isSome) = true → disOk acc kvs = true := by
  induction kvs with
  | nil => intro acc _ _; rfl
  | cons p r ih =>
    intro acc h1 h2
    rw [List.all_cons, Bool.and_eq_true] at h2
    have e : keyOk p.1 acc = true := by
      obtain ⟨k, v⟩ := p
      have h3 : (isK k).isSome = true := h2.1
      cases k <;> first | (simp [isK] at h3; done) | (simp only [keyOk, isK, Option.isSome_some, Bool.true_and]; exact h1)
    simp only [disOk, e, Bool.true_and]
    refine ih ?_ h2.2
    unfold putA
    split
    · rw [List.all_map, List.all_eq_true]
      intro q mq
      have := List.all_eq_true.mp h1 q mq
      simp only [Function.comp]
      split <;> exact this
    · rw [List.all_append, h1]; simp [h2.1]
end
end Q
/-! Nc10: extend by a list, a tuple. -/
namespace PySem.AutoSeq1
open Sem Builtin
theorem list_extend_tup (l : Addr) (items : Array Value) (n : Nat) (b : Addr) (items2 : Array Value) (n2 : Nat) (dd : Option Addr) (sl : Array (Option Value)) (hs0 : ¬(!items.isEmpty && Builtin.List.listTooLong (items.size + items2.size)) = true) (hs1 : items.size ≤ sizeLine) (hs2 : items.size + items2.size ≤ sizeLine + 1) :
    Meets (Builtin.«list.extend» ⟨[.ref l, .ref b], []⟩) (fun _ R s => s.heap.get? l = some { cls := .type "list", dict := none, data := .seq items n, slots := #[] } ∧ s.heap.get? b = some { cls := .type "tuple", dict := dd, data := .seq items2 n2, slots := sl } ∧ R (.ok (.ret Value.none)) { s with heap := s.heap.update l (Obj.mapSeq fun x => x ++ items2), toks := s.toks }) :=
  .of_wp fun prog w A R s h => by
    obtain ⟨hp, g, d, tk, os⟩ := s; obtain ⟨hl, hb, h⟩ := h; have f1 := idx_int; have f2 := sub_tuple_tuple; have f3 := sub_list_list; have f4 := sub_tuple_list; have f5 := sub_list_tuple;
    have hz' : (items ++ items2).size ≤ sizeLine + 1 := by rw [Array.size_append]; exact hs2
    wp_walk using (wpAny_updateSeq hl rfl (hz := hs1) (_hz' := hz')), wpAny_loadPart' hl, wpAny_loadPart' hb; exact ⟨_, rfl, h⟩
end PySem.AutoSeq1
namespace Q
open PySem PySem.Spec PyProof.Rows L2
def extendA2 : A → PN := fun a as G Q => ∃ p b xs ys, a = .ref p ∧ as = [b] ∧ G p = some (.lst xs) ∧ seqOf G b = some ys ∧ xs.length + ys.length ≤ sizeLine ∧ wr p (.lst (xs ++ ys)) G Q
section
variable {X : Cx} {T : Tx}
def rExtT : V → List V → Hp → VK → Prop := fun x vs H Q => ∃ l b xs zs, x = .ref l ∧ vs = [.ref b] ∧ H l = some (.lst xs) ∧ SqT X.K H b zs ∧ xs.length + zs.length ≤ sizeLine ∧ Q .non (upd H l (.lst (xs ++ zs)))
theorem mt_extT : MtM X "list.extend" (rExtT (X := X)) := by
  intro pins s σ H x vs v us Q I rx rv h
  obtain ⟨l, b, xs, zs, rfl, rfl, hH, hB, hz, q⟩ := h
  cases rx
  obtain ⟨u, rfl, ru⟩ := rv.one
  cases ru
  obtain ⟨z, its, n, r, hl, e⟩ := I.lstM hH
  obtain ⟨its2, r2, ⟨o2, e2, c2, n2, d2⟩, z2⟩ := I.tuple hB
  have hl2 := r2.length
  have hsz : its.toArray.size + its2.toArray.size ≤ sizeLine := by rw [List.size_toArray, List.size_toArray]; omega
  have hlong : ¬ (!its.toArray.isEmpty && Builtin.List.listTooLong (its.toArray.size + its2.toArray.size)) = true := by
    rw [notLongL hsz, Bool.and_false]
    exact Bool.false_ne_true
  obtain ⟨c, dd, data, sl⟩ := o2
  simp only at c2 d2
  subst c2; subst d2
  refine call_meets F.slot_list_extend ⟨_, e, rfl⟩ F.entry_list_extend (F.args_list_extend_2 _ _)
    (AutoSeq1.list_extend_tup l its.toArray n b its2.toArray n2 dd sl hlong (by rw [List.size_toArray]; omega) (by omega)) ⟨e, e2, ?_⟩
  refine ⟨.non, _, I.lset (its' := its ++ its2) hH e (by simp) (r.append r2) ?_, rfl, q⟩
  rw [List.length_append]
  omega
theorem m_extend2 (hT : T.K = X.K) : MtR X "list.extend" (lM T extendA2) := by
  intro pins s σ H x xs v us Q I rx rs h
  obtain ⟨a, as, G, Qa, ra, rv, rg, ⟨p, b, zs, ys, rfl, rfl, e, e2, hz, h⟩, q⟩ := h
  obtain ⟨v1, rfl, r1⟩ := rvs1 rv
  obtain ⟨vs, h1, r2⟩ := rg p _ e
  by_cases hl : ∃ zs, b = .tup zs
  · obtain ⟨zs', rfl⟩ := hl
    simp only [seqOf, Option.some.injEq] at e2
    subst e2
    obtain ⟨p2, ws, rfl, h3, r4⟩ := rv_tup r1
    exact mt_extT pins s σ H x _ v us Q I rx rs ⟨p, p2, vs, ws, rv_ref ra, rfl, h1, hT ▸ h3.sq, by rw [r2.len, r4.len]; exact hz, wr_lst rg e h1 (r2.app r4) h q⟩
  · have e3 : lstOf G b = some ys := by
      cases b <;> first | exact e2 | exact absurd ⟨_, rfl⟩ hl
    obtain ⟨p2, ws, rfl, h3, r4⟩ := lstOf_rep rg e3 r1
    exact mt_extend pins s σ H x _ v us Q I rx rs ⟨p, p2, vs, ws, rv_ref ra, rfl, h1, h3, by rw [r2.len, r4.len]; exact hz, wr_lst rg e h1 (r2.app r4) h q⟩
end
end Q
/-! Nc11: properties; classes called with keywords. -/
namespace Q
open PySem PySem.Spec PyProof.Rows L2
/-- o.f: a field, a property -/
def eAtt (cl : CT) (c : Cal) (f : Str) (ta : EA) : EA := fun ς G Q X => ta ς G (fun x G1 => ∃ C ns, clsOf G1 x = some (C, ns) ∧ ((isFl cl C f = true ∧ ∃ y, fldOf G1 f x = some y ∧ Q y G1) ∨ ∃ F, prpOf cl C f = some F ∧ c F [x] G1 Q noX)) X
theorem prpOf_cl {cl : CT} {C m : Str} {F : String} (h : prpOf cl C m = some F) : ∃ ci, cl.lookup C = some ci := by
  unfold prpOf at h
  cases e : cl.lookup C with
  | none => rw [e] at h; cases h
  | some ci => exact ⟨ci, rfl⟩
section
variable {X : Cx} {T : Tx} {FT : FTab} {m : Nat} {cl : CT} {df : List (String × Nat × List A)} {W : L2.WX} {e : Expr} {f : Str} {pos : Pos} {ta : EA}
theorem p_att (ok : COk X T FT m cl df) (hr : Room (3 * m + 1) X.A) (hg : X.A.guards = some []) (he : PE X e (lE T W ta)) (hb : attributeBase e f X.env (eval e X.env) = eval e X.env) : PE X (.Attribute e f pos) (lE T W (eAtt cl (runF FT m) f ta)) := by
  refine ⟨fun pins s σ H Q I h => ?_⟩
  obtain ⟨ς, G, Qa, Xa, rs, rg, h, q, hx⟩ := h
  have hh : lE T W ta σ H (fun v H1 => ∃ x, ∃ G1 : GS, RV T G1 H1 x v ∧ RG T H1 G1 ∧ Kp G H G1 H1 ∧ ∃ C ns, clsOf G1 x = some (C, ns) ∧ ((isFl cl C f = true ∧ ∃ y, fldOf G1 f x = some y ∧ Qa y G1) ∨ ∃ F, prpOf cl C f = some F ∧ runF FT m F [x] G1 Qa noX)) :=
    ⟨ς, G, _, Xa, rs, rg, h, fun x G1 v H1 h1 rv rg1 k1 => ⟨x, G1, rv, rg1, k1, h1⟩, hx⟩
  refine attr_of hb (thn (he.run pins s σ H _ I hh) fun u s1 ⟨v, H1, I1, ru, x, G1, rv, rg1, k1, C, ns, e1, h1⟩ => ?_)
  rcases h1 with ⟨e2, y, e3, h1⟩ | ⟨F, e2, h1⟩
  · obtain ⟨a, c, dx, fs, w, rfl, ea, hc, l, rw'⟩ := fld_rep rg1 e3 e1 rv
    obtain ⟨ci, hci⟩ := isFl_cl e2
    obtain ⟨c', hc', _, kx⟩ := ok.cls hci
    have kc := kx.cl
    rw [hc] at hc'
    cases hc'
    cases ru
    exact getattr_ok I1 ea kc (ok.fl e2 hc) l fun u' s2 I2 ru => ⟨w, H1, I2, ru, q _ _ _ _ h1 rw' rg1 k1⟩
  · obtain ⟨a, c, dx, fs, rfl, ea, hc, e4⟩ := cls_rep rg1 e1 rv
    obtain ⟨ci, hci⟩ := prpOf_cl e2
    obtain ⟨c', hc', _, kx⟩ := ok.cls hci
    have kc := kx.cl
    rw [hc] at hc'
    cases hc'
    obtain ⟨p, g, hp, hF⟩ := ok.pr e2 hc
    cases ru
    obtain ⟨mA, O, _, _, _, _⟩ := ins_get I1.hok ea
    obtain ⟨od, J, _⟩ := O.look
    obtain ⟨rest, hrec⟩ := hp.rec_
    have I2 := I1.tok (s1.toks + 1)
    have hcl : (PySem.W.clsIn X.K c).isSome = true := by
      obtain ⟨cd, hc, _⟩ := PySem.W.any_some kc.hd
      rw [hc]
      rfl
    refine PySem.W.get_bind I1.kIn J (PySem.W.plainGet_of (kc.get f)).1 (PySem.W.findObj_data hcl hp.at_ hp.get hp.tak) (PySem.W.plainGet_of (kc.get f)).2 (wpAny_call (PySem.W.prop_get (s := { s1 with toks := s1.toks + 1 }) I1.kIn hrec ?_))
    refine codeAny_mono (goC (as := [x]) (ds := []) (vs := [.ref a]) (us := [.ref a]) (Q := Q) (Xa := noX) (E := fun _ _ _ => False) (E' := fun _ _ => False) hF hr.in1 hg I2.env0.in1 I2 (.cons rfl .nil) (.one rv) rg1 (by simpa using h1) (q.step k1) (fun _ _ _ _ _ (z : False) _ _ _ => z.elim) (fun e s' cx => noEx (E' := fun _ _ => False) cx)) fun r s' hq => ?_
    match r, hq with
    | .error er, hq => exact (show False from hq).elim
    | .ok (.ret u), hq =>
      obtain ⟨v, H', I3, rv3, q3⟩ := hq
      show wpAny _ _ (handedOut u) _ _ _
      rw [PySem.W.handedOut_of (handed_of rv3)]
      exact wpAny_pure ⟨v, H', I3, rv3, q3⟩
/-! ### keywords -/
theorem goK {Ar : Around} {E : XK} {E' : Value → Shared → Prop} {pins : List (Addr × Obj)} {σ : L2.St} {H : Hp} {s : Shared} {Q : VK} {us ws : List Value} {vs zs : List V} {as bs : List A} {G : GS} {Qa : KA} {Xa : KX} {F : String} {g : Addr} {p : Nat × List Str × List A} (hF : HasK X T FT m F p g) (hr : Room (3 * m) Ar) (hg : Ar.guards = some []) (e0 : Env0 X.prog X.w X.K X.mg X.base Ar X.stack s H)
    (I : Inv X pins σ H s) (r : Vals vs us) (rz : Vals zs ws) (n1 : us.length = p.1) (n2 : ws.length = p.2.1.length) (rv : RVs T G H as vs) (rvz : RVs T G H bs zs) (rg : RG T H G) (h : runF FT m F (as ++ bs ++ p.2.2) G Qa Xa) (q : LQ T G H Qa Q) (hx : LX T G H Xa E) (he : ∀ e s', L2.CX X.prog X.w X.stack H s E e s' → E' e s') :
    codeAny (model X.prog X.w) Ar (.call (.ref g) ⟨us, p.2.1.zip ws⟩) (EndR X pins σ Q E') s := by
  obtain ⟨fd, ps, us', dvs, FN, rd, rvd, hb⟩ := hF
  have hsp : spA T FT m F (vs ++ zs ++ dvs) H Q E := ⟨as ++ bs ++ p.2.2, G, Qa, Xa, (rv.app rvz).app (rvd G H), rg, h, q, hx⟩
  have r2 : Vals (vs ++ zs ++ dvs) (us ++ ws ++ us') := (r.append rz).append rd
  refine codeAny_mono (FN.run Ar hr hg X.stack s H ⟨us, p.2.1.zip ws⟩ (us ++ ws ++ us') (vs ++ zs ++ dvs) Q E e0 (hb s us ws I.kIn n1 n2) r2 hsp) fun res s' hq => ?_
  match res, hq with
  | .error er, hq => exact he _ _ hq
  | .ok (.ret u), hq => exact I.after hq
/-- C(.., k = v, ..) -/
def mkA (cl : CT) (c : Cal) (C : Str) (as : List A) (G1 : Gp) (Q : KA) (X : KX) : Prop := match cl.lookup C with
  | some ci => ∀ p, G1 p = none → c ci.init (.ref p :: as) (up G1 p (.ins C [])) (fun v G2 => v = .non ∧ match ci.frz with
    | false => Q (.ref p) G2
    | true => ∃ fs, G2 p = some (.ins C fs) ∧ Q (.fin C (fs.map (·.1)) (fs.map (·.2))) (rm p G2)) X
  | none => False
def eMkK (cl : CT) (c : Cal) (C : Str) (t tk : LA) (n k : Nat) (ds : List A) : EA := fun ς G Q X => t ς G (fun as G1 => tk ς G1 (fun zs G2 => as.length = n ∧ zs.length = k ∧ mkA cl c C (as ++ zs ++ ds) G2 Q X) X) X
theorem run_mkK {C : Str} {ci : CI} {p : Nat × List Str × List A} {pins : List (Addr × Obj)} {σ : L2.St} {H : Hp} {s : Shared} {Q : VK} {us ws : List Value} {vs zs : List V} {as bs : List A} {G : GS} {Qa : KA} {Xa : KX} {c g : Addr} (hl : cl.lookup C = some ci) (hc : T.cm C = some c) (M : Mk X.K c g) (hF : HasK X T FT m ci.init p g) (hr : Room (3 * m + 1) X.A) (hg : X.A.guards = some []) (tk : Takes X W)
    (I : Inv X pins σ H s) (r : Vals vs us) (rz : Vals zs ws) (n1 : us.length + 1 = p.1) (n2 : ws.length = p.2.1.length) (rv : RVs T G H as vs) (rvz : RVs T G H bs zs) (rg : RG T H G) (q : LQ T G H Qa Q) (hx : LX T G H Xa (WE W σ))
    (h : mkA cl (runF FT m) C (as ++ bs ++ p.2.2) G Qa Xa) : wpAny (model X.prog X.w) X.A (call (.ref c) us (p.2.1.zip ws)) (EP X pins σ Q) X.xe s := by
  unfold mkA at h
  rw [hl] at h
  dsimp only at h
  have fx : H (s.heap.objs.size + 1) = none := I.hok.fresh (Nat.le_succ s.heap.objs.size)
  have fd := I.hok.fresh (Nat.le_refl s.heap.objs.size)
  have ne : s.heap.objs.size ≠ s.heap.objs.size + 1 := Nat.ne_of_lt (Nat.lt_succ_self _)
  have I2 := Inv.made (C := c) I
  generalize hp : s.heap.objs.size + 1 = a at *
  generalize hd : s.heap.objs.size = d at *
  have ka : Kp G H (G.fx d) (upd H d (.own a)) := Kp.newT fd
  have ra : RG T (upd H d (.own a)) (G.fx d) := rg.newT fd
  have fx' : upd H d (.own a) a = none := by rw [upd_ne (Ne.symm ne)]; exact fx
  have kb : Kp (G.fx d) (upd H d (.own a)) ((G.fx d).up a (.ins C [])) (upd (upd H d (.own a)) a (.ins c d [])) := Kp.new fx'
  have rb : RG T (upd (upd H d (.own a)) a (.ins c d [])) ((G.fx d).up a (.ins C [])) := ra.new fx' ⟨c, d, [], hc, upd_same, .nil⟩
  have k := ka.trans kb
  refine wpAny_call (make_map (f := g) I.kIn M.makes M.init (beq_iff_eq.mp M.fn) ?_)
  rw [hd] at *
  rw [show d + 1 = a from hp] at *
  refine codeAny_mono (goK (us := .ref a :: us) (vs := .ref a :: vs) (as := .ref a :: as) (Q := fun v H2 => v = .non ∧ Q (.ref a) H2) (E := WE W σ) (E' := X.xe) hF (hr.make c us (p.2.1.zip ws)) hg (I2.env0.make c us (p.2.1.zip ws)) I2 (.cons rfl r) rz n1 n2 (.cons (a_ref a) (rv.mono k)) (rvz.mono k) rb (h a (rg.free fx)) (fun a' G' v H' z r' rg' k' => ?_) (hx.step k) (fun e s' cx => passAt tk σ pins _ _ e s' I2 cx)) fun res s' hq => ?_
  · obtain ⟨rfl, z⟩ := z
    simp only [RV] at r'
    refine ⟨r', ?_⟩
    cases e : ci.frz with
    | false => rw [e] at z; exact q _ _ _ _ z (by simp only [RV]) rg' (k.trans k')
    | true =>
      rw [e] at z
      obtain ⟨fs, e1, z⟩ := z
      have kr : Kp G' H' (G'.rm a) H' := Kp.rm (by rw [e1]; simp)
      have f1 : Fx (G'.rm a) a := ⟨.inl rfl, rm_self⟩
      exact q _ (G'.rm a) _ _ z (rv_frz (o := .ins C fs) f1 ((rg' a _ e1).mono kr.ks rfl)) (rg'.rm (by rw [e1]; simp)) ((k.trans k').trans kr)
  · match res, hq with
    | .error er, hq => exact hq
    | .ok (.ret u), hq =>
      obtain ⟨v, H', I3, rv3, ev, q3⟩ := hq
      subst ev
      exact ⟨rv3, ⟨V.ref a, H', I3, rfl, q3⟩⟩
theorem k_nil : PK X [] (lL T W lNil) := ⟨fun pos pins s σ H Q I h => by
  obtain ⟨ς, G, Qa, Xa, rs, rg, h, q, hx⟩ := h
  exact pk_nil.run pos pins s σ H Q I (q _ _ _ _ h (by simp only [RVs]) rg Kp.refl)⟩
theorem k_cons {nm : Option Str} {kpos : Pos} {kws : List Keyword} {t : LA} (he : PE X e (lE T W ta)) (hr : PK X kws (lL T W t)) : PK X (⟨nm, e, kpos⟩ :: kws) (lL T W (lCons ta t)) := ⟨fun pos pins s σ H Q I h => by
  obtain ⟨ς, G, Qa, Xa, rs, rg, h, q, hx⟩ := h
  refine (pk_cons he hr).run pos pins s σ H Q I ⟨ς, G, _, Xa, rs, rg, h, fun x G1 v H1 h1 rv rg1 k1 => ?_, hx⟩
  exact ⟨ς, G1, _, Xa, rs.mono k1, rg1, h1, fun as G2 vs H2 h2 rw rg2 k2 => q _ _ _ _ h2 (.cons (rv.mono k2) rw) rg2 (k1.trans k2), hx.step k1⟩⟩
theorem p_mkK {es : List Expr} {kws : List Keyword} {t tk : LA} {ppos : Pos} {C : Str} {p : Nat × List Str × List A} {n : Nat} (ok : COk X T FT m cl df) (hr : Room (3 * m + 1) X.A) (hgd : X.A.guards = some []) (tkk : Takes X W) (hg : Gl X C) (ha : PA X (e :: es) (lL T W t)) (hkw : PK X kws (lL T W tk)) (hdb : (C == ("__debug__" : Str)) = false)
    (hall : (backToKw pos (keywordEach kws X.env)).all (·.1.isSome) = true) (hks : (backToKw pos (keywordEach kws X.env)).filterMap (·.1) = p.2.1)
    (hst : starEach (e :: es) X.env = (false, eval e X.env) :: starEach es X.env) (hpl : ((backTo pos (starEach (e :: es) X.env)).any (·.1) || (backToKw pos (keywordEach kws X.env)).any (·.1.isNone)) = false) {ci : CI} (hl : cl.lookup C = some ci) (hp : p ∈ ci.kws) (hn : n + 1 = p.1) :
    PE X (.Call (.Name C ppos) (e :: es) kws pos) (lE T W (eMkK cl (runF FT m) C t tk n p.2.1.length p.2.2)) := by
  obtain ⟨c, hc, hm, kx⟩ := ok.cls hl
  obtain ⟨g, M, _, _, hK⟩ := ok.mak hl hc
  refine ⟨fun pins s σ H Q I h => ?_⟩
  obtain ⟨ς, G, Qa, Xa, rs, rg, h, q, hx⟩ := h
  refine wpAny_Call_Name_kw (ld_glob I hg hm ?_ hdb)
  have hh : lL T W t σ H (fun vs H2 => ∃ as, ∃ G2 : GS, RVs T G2 H2 as vs ∧ RG T H2 G2 ∧ Kp G H G2 H2 ∧ tk ς G2 (fun zs G3 => as.length = n ∧ zs.length = p.2.1.length ∧ mkA cl (runF FT m) C (as ++ zs ++ p.2.2) G3 Qa Xa) Xa) := ⟨ς, G, _, Xa, rs, rg, h, fun as G2 vs H2 h2 rw' rg2 k2 => ⟨as, G2, rw', rg2, k2, h2⟩, hx⟩
  refine PySem.W.callWith_KW (h₀ := X.base) I.ok.mod.kin M.kp hall (thn (ha.run pos pins s σ H _ I hh) fun us s1 ⟨vs, H1, I1, r1, as, G2, ra, rg2, k2, h2⟩ => ?_) hpl hst
  have hh2 : lL T W tk σ H1 (fun vz H2 => ∃ zs, ∃ G3 : GS, RVs T G3 H2 zs vz ∧ RG T H2 G3 ∧ Kp G2 H1 G3 H2 ∧ as.length = n ∧ zs.length = p.2.1.length ∧ mkA cl (runF FT m) C (as ++ zs ++ p.2.2) G3 Qa Xa) := ⟨ς, G2, _, Xa, rs.mono k2, rg2, h2, fun zs G3 vz H2 h3 rw' rg3 k3 => ⟨zs, G3, rw', rg3, k3, h3⟩, hx.step k2⟩
  refine thn (hkw.run pos pins s1 σ H1 _ I1 hh2) fun ws s2 ⟨vz, H2, I2, rz, zs, G3, rz3, rg3, k3, l1, l2, h3⟩ => ⟨I2.kIn, ?_⟩
  rw [hks]
  have k23 := k2.trans k3
  exact run_mkK hl hc M (hK p hp) hr hgd tkk I2 r1 rz (by rw [List.nil_append, ← r1.length, ra.len, l1]; exact hn) (by rw [← rz.length, rz3.len, l2]) (ra.mono k3) rz3 rg3 (q.step k23) (hx.step k23) h3
end
end Q
/-! Q13: facts of syntax that the rules ask. -/
namespace Q
open PySem PySem.Spec PyProof.Rows L2
def isStar : Expr → Bool
  | .Starred _ _ => true
  | _ => false
theorem star_cons {e : Expr} {es : List Expr} {env : Env} (h : isStar e = false) : starEach (e :: es) env = (false, eval e env) :: starEach es env := by
  cases e <;> first | rfl | (simp [isStar] at h)
theorem star_plain {env : Env} : ∀ {es : List Expr}, es.all (fun e => !isStar e) = true → (starEach es env).any (·.1) = false
  | [], _ => rfl
  | e :: es, h => by
    simp only [List.all_cons, Bool.and_eq_true, Bool.not_eq_true'] at h
    rw [star_cons h.1]
    simp [star_plain h.2]
theorem backTo_fst {pos : Pos} : ∀ l : List (Bool × Sem Value), (backTo pos l).map (·.1) = l.map (·.1)
  | [] => rfl
  | x :: xs => by
    have := backTo_fst (pos := pos) xs
    simp_all [backTo]
theorem back_plain {pos : Pos} {env : Env} {es : List Expr} (h : es.all (fun e => !isStar e) = true) : (backTo pos (starEach es env)).any (·.1) = false := by
  have e : ∀ l : List (Bool × Sem Value), l.any (·.1) = (l.map (·.1)).any id := by intro l; induction l <;> simp_all
  rw [e, backTo_fst, ← e]
  exact star_plain h
theorem few_ok {pos : Pos} {env : Env} {e : Expr} {es : List Expr} (h : (e :: es).all (fun e => !isStar e) = true) (hl : es.length < 20) :
    ((backTo pos (starEach (e :: es) env)).all (fun x => !x.1) && (backToKw pos (keywordEach [] env)).all (fun x => x.1.isSome) && decide ((e :: es).length + ([] : List Keyword).length + (if ([] : List Keyword).isEmpty then 0 else 1) < 30)) = true := by
  have h1 := back_plain (pos := pos) (env := env) h
  have h2 : (backTo pos (starEach (e :: es) env)).all (fun x => !x.1) = true := by
    rw [List.all_eq_true]
    intro x hx
    have := List.any_eq_false.mp h1 x hx
    simpa using this
  rw [h2]
  simp [backToKw, keywordEach]
  omega
def baseOk : Expr → Bool
  | .Call (.Name _ _) [] [] _ => false
  | _ => true
theorem base_ok {o : Expr} {m : Str} {env : Env} (h : baseOk o = true) : attributeBase o m env (eval o env) = eval o env := by
  unfold attributeBase
  split
  · simp [baseOk] at h
  · rfl
def isSet : Expr → Bool
  | .Set _ _ _ => true
  | _ => false
theorem folded_ok {e : Expr} {env : Env} (h : isSet e = false) (x : Value) : foldedSetIterable e env x = pure x := by
  cases e <;> first | rfl | (simp [isSet] at h)
theorem behind_ok {e : Expr} {op : CmpOp} (h : isSet e = false) : behindInMarks op e = false := by
  cases e <;> first | rfl | (simp [isSet] at h)
theorem last_ok {b c : Expr} {op op' : CmpOp} (h : isSet c = false) : lastMarks [op, op'] [b, c] = false := by
  show lastMarks [op'] [c] = false
  exact behind_ok h
def isSlice : Expr → Bool
  | .Slice _ _ _ _ => true
  | _ => false
theorem plainIx_ok {b : Expr} (h : isSlice b = false) : PlainIx b := fun o i => by
  cases b <;> first | rfl | (simp [isSlice] at h)
def plainTest : Expr → Bool
  | .UnaryOp .Not _ _ => false
  | .BoolOp _ _ _ => false
  | .IfExp _ _ _ _ => false
  | .Compare _ _ _ _ => false
  | _ => true
theorem test_ok {e : Expr} {env : Env} (h : plainTest e = true) (whole : Sem Value) : isTrue e env whole = (do let v ← whole; standAt e.pos; holding [v] (truthy v)) := by
  cases e with
  | UnaryOp op a p => cases op <;> first | rfl | (simp [plainTest] at h)
  | BoolOp _ _ _ => simp [plainTest] at h
  | IfExp _ _ _ _ => simp [plainTest] at h
  | Compare _ _ _ _ => simp [plainTest] at h
  | _ => rfl
def isComp : Expr → Bool
  | .ListComp _ _ _ _ => true
  | .SetComp _ _ _ _ => true
  | .DictComp _ _ _ _ _ => true
  | _ => false
theorem swap_ok {e : Expr} {t : Option Expr} {l : Nat} {env : Env} (h : isComp e = false) : swapsWith e t l env = pure false := by
  cases e <;> first | rfl | (simp [isComp] at h)
theorem swapSole_ok {e t : Expr} {l : Nat} {env : Env} (h : isComp e = false) : swapsWithSole [t] e l env = pure false := swap_ok h
theorem swap_cell {elt : Expr} {gs : List Comprehension} {scope : Scope} {pos py : Pos} {y : Str} {l : Nat} {env : Env} (h : env.kindOf y = some .cell) : swapsWith (.ListComp elt gs scope pos) (some (.Name y py)) l env = pure false := by
  have e : (NameKind.cell == NameKind.local) = false := by decide
  unfold swapsWith
  simp [h, e]
/-- the right side of an assignment to several names -/
def notTup : Expr → Bool
  | .Tuple _ _ _ => false
  | _ => true
theorem stores_ok {ts e : Expr} {env : Env} (h : notTup e = true) : swappedStores [ts] e env = pure none := by
  cases e with
  | Tuple _ _ _ => simp [notTup] at h
  | _ => cases ts <;> rfl
def notTL : Expr → Bool
  | .Tuple _ _ _ => false
  | .List _ _ => false
  | _ => true
theorem stores_one {t e : Expr} {env : Env} (h : notTL t = true) : swappedStores [t] e env = pure none := by
  cases t <;> first | rfl | (simp [notTL] at h)
theorem assign1 {tg : Expr} {env : Env} (h : isStar tg = false) : (assignEach [tg] env).map (·.2) = [assign tg env] := by
  cases tg <;> first | rfl | (simp [isStar] at h)
theorem augStore_ok {i : Expr} (h : isSlice i = false) (ov iv new : Value) : augStore i ov iv new = (do holding [new, ov, iv] (setItem ov iv new); release [new, ov, iv] []; pure .next) := by
  cases i <;> first | rfl | (simp [isSlice] at h)
theorem subStore_ok {o i : Expr} {env : Env} {tpos : Pos} (h : isSlice i = false) (v : Value) : assign (.Subscript o i tpos) env v = (do
      let ov ← holding [v] (eval o env)
      let iv ← holding [v, ov] (eval i env)
      standAt tpos
      holding [v, ov, iv] (setItem ov iv v)
      release [v, ov, iv] []) := by
  cases i <;> first | rfl | (simp [isSlice] at h)
theorem blockKind_fn {env : Env} (h : env.scope.kind = .function) : env.blockKind = .function := by unfold Env.blockKind; rw [h]; rfl
def swNames (sc : Scope) (ts : List Expr) : List Str := ts.filterMap fun
  | .Name id pos => if sc.names.lookup id == some .local && pos.line == (ts.head?.map (·.pos.line)).getD 0 then some id else none
  | _ => none
/-- what a written tuple to several names stores: none, or the names; not told otherwise -/
def swOf (sc : Scope) (ts vs : List Expr) : Option (Option (List Str)) :=
  if (!(ts.length == 2 || ts.length == 3) || vs.length != ts.length) = true then some none
  else if (vs.any fun | .Starred .. => true | _ => false) = true then some none
  else if ((swNames sc ts).length != ts.length || (swNames sc ts).eraseDups.length != (swNames sc ts).length) = true then some none
  else if vs.all (foldedForSure 8) = true then some none
  else if vs.all (constantsAlone 8) = true then none
  else some (some (swNames sc ts))
theorem sw_of {ts vs : List Expr} {k k2 : Nat} {p p2 : Pos} {env : Env} {r : Option (List Str)} (hk : env.scope.kind = .function) (h : swOf env.scope ts vs = some r) : swappedStores [.Tuple ts k p] (.Tuple vs k2 p2) env = pure r := by
  unfold swOf at h
  show (if (!(ts.length == 2 || ts.length == 3) || vs.length != ts.length || env.blockKind != .function) = true then pure none else
    if (vs.any fun | .Starred .. => true | _ => false) = true then pure none else
      if ((swNames env.scope ts).length != ts.length || (swNames env.scope ts).eraseDups.length != (swNames env.scope ts).length) = true then pure none else
        if vs.all (foldedForSure 8) = true then pure none else if vs.all (constantsAlone 8) = true then (do unsupported "assign.tuple-of-constant-expressions:order-of-the-stores"; pure (some (swNames env.scope ts))) else pure (some (swNames env.scope ts))) = pure r
  rw [blockKind_fn hk]
  have e : ((ScopeKind.function : ScopeKind) != .function) = false := by decide
  rw [e, Bool.or_false]
  split at h
  · rename_i c; rw [if_pos c]; cases h; rfl
  · rename_i c; rw [if_neg c]
    split at h
    · rename_i c; rw [if_pos c]; cases h; rfl
    · rename_i c; rw [if_neg c]
      split at h
      · rename_i c; rw [if_pos c]; cases h; rfl
      · rename_i c; rw [if_neg c]
        split at h
        · rename_i c; rw [if_pos c]; cases h; rfl
        · rename_i c; rw [if_neg c]
          split at h
          · cases h
          · rename_i c; rw [if_neg c]; cases h; rfl
theorem kwE {env : Env} : ∀ kws : List Keyword, (keywordEach kws env).map (·.1) = kws.map (·.arg)
  | [] => rfl
  | k :: ks => by
    obtain ⟨a, v, p⟩ := k
    show a :: (keywordEach ks env).map (·.1) = _
    rw [kwE ks]; rfl
theorem kwB {pos : Pos} (l : List (Option Str × Sem Value)) : (backToKw pos l).map (·.1) = l.map (·.1) := by
  unfold backToKw
  rw [List.map_map]; rfl
theorem kw_all {pos : Pos} {env : Env} {kws : List Keyword} (h : kws.all (·.arg.isSome) = true) : (backToKw pos (keywordEach kws env)).all (·.1.isSome) = true := by
  have e : ∀ l : List (Option Str × Sem Value), l.all (·.1.isSome) = (l.map (·.1)).all (·.isSome) := fun l => by rw [List.all_map]; rfl
  rw [e, kwB, kwE, List.all_map]
  exact h
theorem kw_any {pos : Pos} {env : Env} {kws : List Keyword} (h : kws.all (·.arg.isSome) = true) : (backToKw pos (keywordEach kws env)).any (·.1.isNone) = false := by
  have := kw_all (pos := pos) (env := env) h
  rw [List.any_eq_false]
  intro x hx
  have := List.all_eq_true.mp this x hx
  cases h : x.1 <;> simp_all
theorem kw_names {pos : Pos} {env : Env} {kws : List Keyword} : (backToKw pos (keywordEach kws env)).filterMap (·.1) = kws.filterMap (·.arg) := by
  have e : ∀ l : List (Option Str × Sem Value), l.filterMap (·.1) = (l.map (·.1)).filterMap id := fun l => by rw [List.filterMap_map]; rfl
  rw [e, kwB, kwE, List.filterMap_map]; rfl
end Q
/-! Q14: from the text's syntax to combinators. -/
namespace Q
open PySem PySem.Spec PyProof.Rows L2
/-- what a text's globals are: defs by name, constants -/
structure Pg where
  fn : List (Str × String)
  kc : List (Str × Int)
  /-- where objects are made that change later -/
  mu : List Pos
  /-- the classes -/
  cl : CT := []
  /-- where instances may be among an operator's values -/
  cp : List Pos := []
  /-- what a def's defaults fill up, by the number of values that are given -/
  df : List (String × Nat × List A) := []
def visB (sc : Scope) (x : Str) : Bool := match sc.names.lookup x with
  | some .local => true
  | some .cell => true
  | some .free => true
  | _ => false
def locB (sc : Scope) (x : Str) : Bool := match sc.names.lookup x with
  | some .local => true
  | some .cell => true
  | _ => false
def glB (sc : Scope) (x : Str) : Bool := match sc.names.lookup x with
  | some .globalImplicit => true
  | _ => false
def nmOk (x : Str) : Bool := !(x == ("__debug__" : Str)) && !(x == ("__classdict__" : Str)) && !(x == ("__name__" : Str))
def ixOf (N : List Str) (x : Str) : Option Nat := N.findIdx? fun y => decide (y = x)
theorem ixOf_get {N : List Str} {x : Str} {i : Nat} (h : ixOf N x = some i) : N[i]? = some x := by
  unfold ixOf at h
  obtain ⟨h1, h2, _⟩ := List.findIdx?_eq_some_iff_getElem.mp h
  rw [List.getElem?_eq_getElem h1]
  simpa using h2
def opT (m : Bool) : Operator → Option P2
  | .Add => some (addA m)
  | .Sub => some subA
  | .Mult => some (mulA m)
  | .FloorDiv => some fdivA
  | .Mod => some modA
  | .Pow => some powA
  | _ => none
def cmT : CmpOp → Option P2
  | .Eq => some (eqA false)
  | .NotEq => some (eqA true)
  | .Lt => some ltA
  | .LtE => some leA
  | .Gt => some gtA
  | .GtE => some geA
  | .In => some (inD false)
  | .NotIn => some (inD true)
  | .Is => some (isA false)
  | .IsNot => some (isA true)
def noOp : P2 := fun _ _ _ _ => False
def opX (fl m : Bool) (cl : CT) (c : Cal) (op : Operator) : Option P2 := if fl then some (opC (PySem.dunder op.info.2) ((opT m op).getD noOp) cl c) else opT m op
def cmX (fl : Bool) (cl : CT) (c : Cal) (op : CmpOp) : Option P2 := if fl then (match op with
  | .Eq => some (eqC false cl c)
  | .NotEq => some (eqC true cl c)
  | .In => some (inC false cl c)
  | .NotIn => some (inC true cl c)
  | _ => none) else cmT op
def dfOf (df : List (String × Nat × List A)) (F : String) (n : Nat) : List A := match df.find? fun d => d.1 == F && d.2.1 == n with
  | some d => d.2.2
  | none => []
/-- built-in functions and types that are called: is it a type, its id, what it does -/
def biT (m : Bool) (x : Str) : Option (Bool × String × PN) :=
  if x = ("len" : Str) then some (false, "len", lenD)
  else if x = ("repr" : Str) then some (false, "repr", reprA)
  else if x = ("abs" : Str) then some (false, "abs", absA)
  else if x = ("all" : Str) then some (false, "all", allA (·.all id))
  else if x = ("any" : Str) then some (false, "any", allA (·.any id))
  else if x = ("int" : Str) then some (true, "int", intOfA)
  else if x = ("list" : Str) then some (true, "list", listA m)
  else if x = ("tuple" : Str) then some (true, "tuple", tupleA)
  else if x = ("sorted" : Str) then some (false, "sorted", sortA m)
  else if x = ("sum" : Str) then some (false, "sum", sumLA)
  else none
def biX (fl m : Bool) (cl : CT) (c : Cal) (x : Str) : Option (Bool × String × PN) :=
  if x = ("bool" : Str) then some (true, "bool", boolC cl c)
  else if fl = true ∧ x = ("len" : Str) then some (false, "len", lenC cl c)
  else if fl = true ∧ x = ("repr" : Str) then some (false, "repr", reprC cl c)
  else biT m x
def tyT (x : Str) : Option String :=
  if x = ("int" : Str) then some "int"
  else if x = ("bool" : Str) then some "bool"
  else if x = ("str" : Str) then some "str"
  else if x = ("tuple" : Str) then some "tuple"
  else if x = ("list" : Str) then some "list"
  else if x = ("dict" : Str) then some "dict"
  else none
/-- methods of built-in types, with arguments, without -/
def mtT (m : Bool) (x : Str) : Option (String × String × (A → PN)) :=
  if x = ("append" : Str) then some ("list", "list.append", appendA)
  else if x = ("insert" : Str) then some ("list", "list.insert", insertA)
  else if x = ("extend" : Str) then some ("list", "list.extend", extendA2)
  else if x = ("split" : Str) then some ("str", "str.split", splitA m)
  else if x = ("join" : Str) then some ("str", "str.join", joinA)
  else if x = ("get" : Str) then some ("dict", "dict.get", getA)
  else none
def mtT0 (x : Str) : Option (String × String × (A → PN)) :=
  if x = ("reverse" : Str) then some ("list", "list.reverse", reverseA)
  else if x = ("clear" : Str) then some ("list", "list.clear", clearA)
  else if x = ("isascii" : Str) then some ("str", "str.isascii", strB Txt.isascii)
  else if x = ("isalpha" : Str) then some ("str", "str.isalpha", strB Txt.isalpha)
  else if x = ("islower" : Str) then some ("str", "str.islower", strB Txt.islower)
  else if x = ("upper" : Str) then some ("str", "str.upper", upperA)
  else none
/-- the names that stand for built-ins -/
def bltNames : List Str := ["len", "repr", "abs", "all", "any", "int", "list", "tuple", "bool", "str", "dict", "isinstance", "range", "sorted", "zip", "set", "sum"]
/-- sorted(set(..)), len(set(..)) -/
def setCall (x : Str) (es : List Expr) : Bool := (x = ("sorted" : Str) || x = ("len" : Str)) && match es with
  | [.Call (.Name z _) [_] [] _] => z = ("set" : Str)
  | _ => false
/-- a property of some class -/
def isPrp (cl : CT) (f : Str) : Bool := cl.any fun p => (p.2.ps.lookup f).isSome
def ownOf (N : List Str) (scope : Scope) : List (Str × Nat) := scope.names.filterMap fun y => match y.2 with
  | .local => (ixOf N y.1).map fun i => (y.1, i)
  | .cell => (ixOf N y.1).map fun i => (y.1, i)
  | _ => none
section
variable (N : List Str) (own : Pg) (c : Cal)
def isBlt (sc : Scope) (x : Str) : Bool := glB sc x && (own.fn.lookup x).isNone && bltNames.contains x && nmOk x
/-- a call of a class -/
def isCl (sc : Scope) (x : Str) : Option CI := if glB sc x && nmOk x then own.cl.lookup x else none
def clsCall (sc : Scope) : Expr → Bool
  | .Call (.Name x _) _ [] _ => (isCl own sc x).isSome
  | _ => false
def isOwn (sc : Scope) (x : Str) : Option String := if glB sc x && nmOk x then own.fn.lookup x else none
def cNms (sc : Scope) (vs : List Nat) : List Expr → Option (List Nat)
  | [] => some []
  | .Name x _ :: es => if locB sc x then (match ixOf N x, cNms sc vs es with
    | some i, some is => if vs.contains i then some (i :: is) else none
    | _, _ => none) else none
  | _ => none
def cG (sc : Scope) (vs : List Nat) : Expr → Option GA
  | .Name x _ => if locB sc x then (match ixOf N x with
    | some i => if vs.contains i then some (gNm i) else none
    | none => none) else none
  | .Tuple es _ _ => (cNms N sc vs es).map gTup
  | _ => none
mutual
def cE : Nat → Scope → Expr → Option EA
  | 0, _, _ => none
  | n + 1, sc, e => match e with
    | .Name x _ => if visB sc x && nmOk x then (ixOf N x).map eVar else if glB sc x && nmOk x then (own.kc.lookup x).map (fun i => eC (.int i)) else none
    | .Constant k _ _ => match k with
      | .int i => some (eC (.int i))
      | .bool b => some (eC (.bl b))
      | .none => some (eC .non)
      | .str x => some (eC (.str x))
      | _ => none
    | .Tuple es _ _ => (cL n sc es).map eTup
    | .List es pos => (cL n sc es).map (eLst (own.mu.contains pos))
    | .Dict ks vs pos => if ks.isEmpty && vs.isEmpty then some (eDct0 (own.mu.contains pos)) else if ks.all (·.isSome) && decide (ks.length = vs.length) && !ks.isEmpty && decide (ks.length ≤ 15) then (cPs n sc ks vs).map (eDis2 (own.mu.contains pos)) else none
    | .BinOp a op b pos => match cE n sc a, opX (own.cp.contains pos) (own.mu.contains pos) own.cl c op, cE n sc b with
      | some ta, some f, some tb => some (eBin f ta tb)
      | _, _, _ => none
    | .UnaryOp op a _ => match op with
      | .USub => (cE n sc a).map eNeg
      | .Not => if clsCall own sc a then (cE n sc a).map (eNotC own.cl c) else (cE n sc a).map eNot
      | _ => none
    | .BoolOp op es p => cBo n sc op es
    | .Compare a ops bs pos => match ops, bs with
      | [op], [b] => if isSet b then none else (match cE n sc a, cmX (own.cp.contains pos) own.cl c op, cE n sc b with
        | some ta, some f, some tb => some (eBin f ta tb)
        | _, _, _ => none)
      | [op, op'], [b, b'] => if isSet b' then none else (match cE n sc a, cmT op, cE n sc b, cmT op', cE n sc b' with
        | some ta, some f, some tb, some f', some tc => some (eChain f f' ta tb tc)
        | _, _, _, _, _ => none)
      | _, _ => none
    | .IfExp q a b _ => match cB n sc q, cE n sc a, cE n sc b with
      | some t, some ta, some tb => some (eIf t ta tb)
      | _, _, _ => none
    | .Subscript a s pos => match s with
      | .Slice lo hi st _ => match st with
        | none => (match cE n sc a, cO n sc lo, cO n sc hi with
          | some ta, some tl, some th => some (eSl (own.mu.contains pos) ta tl th)
          | _, _, _ => none)
        | some (.UnaryOp .USub (.Constant (.int 1) _ _) _) => if lo.isNone && hi.isNone then (cE n sc a).map (eRev (own.mu.contains pos)) else none
        | _ => none
      | s => (match cE n sc a, cE n sc s with
        | some ta, some ti => some (eBin ixD ta ti)
        | _, _ => none)
    | .Attribute o f _ => if baseOk o then (if isPrp own.cl f then (cE n sc o).map (eAtt own.cl c f) else (cE n sc o).map (eFld own.cl f)) else none
    | .JoinedStr vs _ => match vs with
      | v1 :: v2 :: rest => (cFs n sc (v1 :: v2 :: rest)).map eFs
      | _ => none
    | .FormattedValue a k sp _ => match sp with
      | none => if k = 114 then (cE n sc a).map eFmtR else if k = -1 then (cE n sc a).map eFmt else none
      | some _ => none
    | .Call f es ks pos => match f, ks with
      | .Name x _, [] => if es.all (fun e => !isStar e) then (match isOwn own sc x with
        | some F => (cL n sc es).map (eCall c F)
        | none => match isCl own sc x with
        | some ci => if ci.ko && (dfOf own.df ci.init (es.length + 1)).isEmpty then none else (cL n sc es).map fun t => eMk own.cl c x t (dfOf own.df ci.init (es.length + 1))
        | none => if isBlt own sc x then (
          if x = ("isinstance" : Str) then (match es with
            | [e, .Name t _] => if isBlt own sc t then (match cE n sc e, tyT t with
              | some ta, some m => some (eIsi ta [m])
              | _, _ => none) else if (isCl own sc t).isSome then (cE n sc e).map (eIsC own.cl t) else none
            | [e, .Tuple [.Name t _, .Name t' _] _ _] => if isBlt own sc t && isBlt own sc t' then (match cE n sc e, tyT t, tyT t' with
              | some ta, some m, some m' => some (eIsi ta [m, m'])
              | _, _, _ => none) else none
            | _ => none)
          else if x = ("dict" : Str) then (match es with
            | [.Call (.Name z _) [a, b] [] _] => if z = ("zip" : Str) then (if isBlt own sc z && !isStar a && !isStar b then (cL n sc [a, b]).map (eDz (own.mu.contains pos)) else none) else none
            | _ => none)
          else if setCall x es then (match es with
            | [.Call (.Name z _) [a] [] _] => if z = ("set" : Str) then (if isBlt own sc z && !isStar a then (cE n sc a).map fun ta => eBi (if x = ("len" : Str) then lsA else ssA (own.mu.contains pos)) (lCons ta lNil) else none) else none
            | _ => none)
          else if es.isEmpty then none else (match biX (own.cp.contains pos) (own.mu.contains pos) own.cl c x, cL n sc es with
            | some (_, _, f), some t => some (eBi f t)
            | _, _ => none)) else none) else none
      | .Name x _, k :: ks' => if es.all (fun e => !isStar e) && !es.isEmpty && (k :: ks').all (·.arg.isSome) then (match isCl own sc x with
        | some ci => (match cL n sc es, cKw n sc (k :: ks'), ci.kws.find? (fun p => p.1 == es.length + 1 && p.2.1 == (k :: ks').filterMap (·.arg)) with
          | some t, some tk, some p => some (eMkK own.cl c x t tk es.length p.2.1.length p.2.2)
          | _, _, _ => none)
        | none => none) else none
      | .Attribute o m apos, [] => if es.all (fun e => !isStar e) && baseOk o && (apos.endLine == pos.line) && decide (es.length < 20) then (
        if own.cp.contains pos then (match cE n sc o, cL n sc es with
          | some to, some t => some (eMe own.cl c m to t)
          | _, _ => none)
        else if es.isEmpty then (match mtT0 m, cE n sc o with
          | some (ty, _, f), some to => some (eM ty f to lNil)
          | _, _ => none)
        else (match mtT (own.mu.contains pos) m, cE n sc o, cL n sc es with
          | some (ty, _, f), some to, some t => some (eM ty f to t)
          | _, _, _ => none)) else none
      | _, _ => none
    | .ListComp elt gens scope pos => match gens with
      | [⟨tg, iter, ifs, 0⟩] => if blkC N sc scope (ownOf N scope) && !isSet iter then (match cI n sc iter, cG N scope ((ownOf N scope).map (·.2)) tg, cT n (relS scope sc) ifs, cE n (relS scope sc) elt with
        | some it, some g, some tt, some te => some (eLc (own.mu.contains pos) it g tt te ((ownOf N scope).map (·.2)))
        | _, _, _, _ => none) else none
      | _ => none
    | .DictComp k v gens scope pos => match gens with
      | [⟨tg, iter, ifs, 0⟩] => if blkC N sc scope (ownOf N scope) && !isSet iter then (match cI n sc iter, cG N scope ((ownOf N scope).map (·.2)) tg, cT n (relS scope sc) ifs, cE n (relS scope sc) k, cE n (relS scope sc) v with
        | some it, some g, some tt, some tk, some tv => some (eDc (own.mu.contains pos) it g tt tk tv ((ownOf N scope).map (·.2)))
        | _, _, _, _, _ => none) else none
      | _ => none
    | _ => none
def cKw : Nat → Scope → List Keyword → Option LA
  | 0, _, _ => none
  | _ + 1, _, [] => some lNil
  | n + 1, sc, k :: ks => match cE n sc k.value, cKw n sc ks with
    | some t, some u => some (lCons t u)
    | _, _ => none
def cFs : Nat → Scope → List Expr → Option (List EA)
  | 0, _, _ => none
  | _ + 1, _, [] => some []
  | n + 1, sc, e :: es => match cE n sc e, cFs n sc es with
    | some t, some ts => some (t :: ts)
    | _, _ => none
def cPs : Nat → Scope → List (Option Expr) → List Expr → Option (List (EA × EA))
  | 0, _, _, _ => none
  | n + 1, sc, ks, vs => match ks, vs with
    | [], [] => some []
    | some k :: ks, v :: vs => (match cE n sc k, cE n sc v, cPs n sc ks vs with
      | some tk, some tv, some ps => some ((tk, tv) :: ps)
      | _, _, _ => none)
    | _, _ => none
def cL : Nat → Scope → List Expr → Option LA
  | 0, _, _ => none
  | _ + 1, _, [] => some lNil
  | n + 1, sc, e :: es => if isStar e then none else (match cE n sc e, cL n sc es with
    | some t, some u => some (lCons t u)
    | _, _ => none)
def cBo : Nat → Scope → BoolOp → List Expr → Option EA
  | 0, _, _, _ => none
  | _ + 1, _, _, [] => none
  | n + 1, sc, op, e :: es => match es with
    | [] => cE n sc e
    | _ :: _ => match cE n sc e, cBo n sc op es with
      | some ta, some tb => some (match op with
        | .And => eAnd ta tb
        | .Or => eOr ta tb)
      | _, _ => none
def cB : Nat → Scope → Expr → Option BA
  | 0, _, _ => none
  | n + 1, sc, e => match e with
    | .UnaryOp .Not a _ => (cB n sc a).map bNot
    | .BoolOp op es _ => cBb n sc op es
    | .Compare a ops bs p => match ops, bs with
      | [op], [b] => if isSet b then none else (match cE n sc a, cmX (own.cp.contains p) own.cl c op, cE n sc b with
        | some ta, some f, some tb => some (bB (eBin f ta tb))
        | _, _, _ => none)
      | [op, op'], [b, b'] => if isSet b' then none else (match cE n sc a, cmT op, cE n sc b, cmT op', cE n sc b' with
        | some ta, some f, some tb, some f', some tc => some (bB (eChain f f' ta tb tc))
        | _, _, _, _, _ => none)
      | _, _ => none
    | e => if plainTest e then (cE n sc e).map bV else none
def cBb : Nat → Scope → BoolOp → List Expr → Option BA
  | 0, _, _, _ => none
  | _ + 1, _, _, [] => none
  | n + 1, sc, op, e :: es => match es with
    | [] => cB n sc e
    | _ :: _ => match cB n sc e, cBb n sc op es with
      | some ta, some tb => some (match op with
        | .And => bAnd ta tb
        | .Or => bOr ta tb)
      | _, _ => none
def cO : Nat → Scope → Option Expr → Option OA
  | 0, _, _ => none
  | _ + 1, _, none => some oNo
  | n + 1, sc, some e => (cE n sc e).map oSome
def cI : Nat → Scope → Expr → Option IA
  | 0, _, _ => none
  | n + 1, sc, e => match e with
    | .Call (.Name x _) [a] [] _ => if x = ("range" : Str) then (if isBlt own sc x && !isStar a then (cE n sc a).map iR1 else none) else (cE n sc e).map iSeq
    | .Call (.Name x _) [a, b] [] _ => if x = ("range" : Str) then (if isBlt own sc x && !isStar a && !isStar b then (match cE n sc a, cE n sc b with
      | some ta, some tb => some (iR2 ta tb)
      | _, _ => none) else none) else (cE n sc e).map iSeq
    | e => (cE n sc e).map iSeq
def cT : Nat → Scope → List Expr → Option BA
  | 0, _, _ => none
  | n + 1, sc, ifs => match ifs with
    | [] => some bYes
    | [e] => cB n sc e
    | _ => none
end
/-! statements -/
mutual
def cS : Nat → Scope → Stmt → Option SA
  | 0, _, _ => none
  | n + 1, sc, st => match st with
    | .Pass _ => some sNx
    | .Break _ => some sBrk
    | .Continue _ => some sCnt
    | .Return e _ => match e with
      | none => some sRetN
      | some e => (cE N own c n sc e).map sRet
    | .Expr e _ => match e with
      | .Constant (.str _) _ _ => some sNx
      | e => if isComp e then none else (cE N own c n sc e).map sEx
    | .If q a b _ => match cB N own c n sc q, cSs n sc a, cSs n sc b with
      | some t, some u, some v => some (sIf t u v)
      | _, _, _ => none
    | .For tg iter body orelse _ => if isSet iter || !orelse.isEmpty then none else (match cI N own c n sc iter, cG N sc (List.range N.length) tg, cSs n sc body with
      | some it, some g, some t => some (sFor it g t)
      | _, _, _ => none)
    | .AugAssign tg op e _ => match tg, op with
      | .Subscript o i _, .Add => if isSlice i then none else (match cE N own c n sc o, cE N own c n sc i, cE N own c n sc e with
        | some to, some ti, some te => some (sAug to ti te)
        | _, _, _ => none)
      | _, _ => none
    | .Raise _ _ _ => some fun _ _ _ => False
    | .Assign tgs e pos => match tgs with
      | [tg] => cA n sc tg e pos
      | _ => none
    | _ => none
def cA : Nat → Scope → Expr → Expr → Pos → Option SA
  | 0, _, _, _, _ => none
  | n + 1, sc, tg, e, pos => match tg with
    | .Name x px => if locB sc x then (match ixOf N x, cE N own c n sc e with
      | some i, some t => (match e with
        | .ListComp _ gens scope cpos => if sc.names.lookup x == some .cell then some (sSet t (gNm i))
          else if (px.line == cpos.line) && !(scope.names.any fun (n, k) => n == x && (k == .local || k == .cell)) then some (sSet t (gNm i)) else none
        | e => if isComp e then none else some (sSet t (gNm i)))
      | _, _ => none) else none
    | .Attribute o f _ => (match cE N own c n sc o, cE N own c n sc e with
      | some to, some te => some (sFldA own.cl f to te)
      | _, _ => none)
    | .Subscript o i _ => if isSlice i || isComp e then none else (match cE N own c n sc o, cE N own c n sc i, cE N own c n sc e with
      | some to, some ti, some te => some (sSet te (gSubD to ti))
      | _, _, _ => none)
    | .Tuple es _ _ => match e with
      | .Tuple vs _ _ => (match swOf sc es vs with
        | some none => (match cE N own c n sc e, cG N sc (List.range N.length) tg with
          | some t, some g => some (sSet t g)
          | _, _ => none)
        | some (some [x, y]) => (match es, vs with
          | [.Name x' _, .Name y' _], [a, b] => if x = x' && y = y' && !isStar a && !isStar b then (match ixOf N x, ixOf N y, cL N own c n sc vs with
            | some i, some j, some t => if decide (i ≠ j) && sc.names.lookup x == some .local && sc.names.lookup y == some .local then some (sPar i j t) else none
            | _, _, _ => none) else none
          | _, _ => none)
        | some (some [x, y, z]) => (match es, vs with
          | [.Name x' _, .Name y' _, .Name z' _], [a, b, d] => if x = x' && y = y' && z = z' && !isStar a && !isStar b && !isStar d then (match ixOf N x, ixOf N y, ixOf N z, cL N own c n sc vs with
            | some i, some j, some l, some t => if decide (i ≠ j) && decide (i ≠ l) && decide (j ≠ l) && sc.names.lookup x == some .local && sc.names.lookup y == some .local && sc.names.lookup z == some .local then some (sPar3 i j l t) else none
            | _, _, _, _ => none) else none
          | _, _ => none)
        | _ => none)
      | e => if isComp e then none else (match cE N own c n sc e, cG N sc (List.range N.length) tg with
        | some t, some g => some (sSet t g)
        | _, _ => none)
    | _ => none
def cSs : Nat → Scope → List Stmt → Option SA
  | 0, _, _ => none
  | _ + 1, _, [] => some sNx
  | n + 1, sc, st :: sts => match cS n sc st, cSs n sc sts with
    | some t, some u => some (sSeq t u)
    | _, _ => none
end
end
end Q
/-! Q15: the compile step is right. -/
namespace Q
open PySem PySem.Spec PyProof.Rows L2
structure XO (T : Tx) (FT : FTab) (N : List Str) (own : Pg) (m : Nat) (X : Cx) (sc sto : Scope) : Prop where
  ok : T.Ok X
  nm : X.N = N
  nd : N.Nodup
  scp : X.env.scope = sc
  kind : sc.kind = .function
  calm : X.calm = true
  gd : X.A.guards = some []
  room : Room (3 * m + 2) X.A
  fnl : ∀ x, locB sto x = true → Loc sc x ∧ (X.fn x = true ∨ sc.names.lookup x = some .local)
  fns : ∀ x F, own.fn.lookup x = some F → ∃ f fd ps, FnG X.prog X.w X.K X.mg X.base (L2.CX X.prog X.w) (3 * m) f fd ps (spA T FT m F) ∧ X.mg x = some (.ref f) ∧ PySem.W.keepIn X.K (.ref f) = true ∧ Binds X.K fd ps []
  bl : ∀ x, own.fn.lookup x = none → x ∈ bltNames → X.mg x = none
  cs : ∀ x i, own.kc.lookup x = some i → ∃ t, X.mg x = some (.int i t)
  ck : COk X T FT m own.cl own.df
section
variable {T : Tx} {FT : FTab} {N : List Str} {own : Pg} {m : Nat} {X : Cx} {sc sto : Scope}
theorem XO.vis (o : XO T FT N own m X sc sto) {x : Str} (h : visB sc x = true) : Vis X.env.scope x := by
  unfold visB at h
  rw [o.scp]
  split at h
  · rename_i e; exact .inl e
  · rename_i e; exact .inr (.inl e)
  · rename_i e; exact .inr (.inr e)
  · cases h
theorem XO.loc (o : XO T FT N own m X sc sto) {x : Str} (h : locB sto x = true) : Loc X.env.scope x := by
  rw [o.scp]; exact (o.fnl x h).1
theorem XO.fn (o : XO T FT N own m X sc sto) {x : Str} (h : locB sto x = true) : X.fn x = true ∨ X.env.scope.names.lookup x = some .local := by
  rw [o.scp]; exact (o.fnl x h).2
theorem XO.gl (o : XO T FT N own m X sc sto) {x : Str} (h : glB sc x = true) : Gl X x := by
  unfold glB at h
  show X.env.scope.names.lookup x = _
  rw [o.scp]
  split at h
  · rename_i e; exact e
  · cases h
theorem nmOk_d {x : Str} (h : nmOk x = true) : (x == ("__debug__" : Str)) = false ∧ (x == ("__classdict__" : Str)) = false ∧ x ≠ "__name__" := by
  unfold nmOk at h
  simp only [Bool.and_eq_true, Bool.not_eq_true'] at h
  exact ⟨h.1.1, h.1.2, by simpa using h.2⟩
theorem isBlt_of {x : Str} (o : XO T FT N own m X sc sto) (h : isBlt own sc x = true) : Gl X x ∧ X.mg x = none ∧ nmOk x = true := by
  unfold isBlt at h
  simp only [Bool.and_eq_true] at h
  obtain ⟨⟨⟨h1, h2⟩, h3⟩, h4⟩ := h
  exact ⟨o.gl h1, o.bl x (by simpa using h2) (by simpa using h3), h4⟩
theorem isOwn_of {x : Str} {F : String} (o : XO T FT N own m X sc sto) (h : isOwn own sc x = some F) : Gl X x ∧ own.fn.lookup x = some F ∧ nmOk x = true := by
  unfold isOwn at h
  split at h
  · rename_i hh
    simp only [Bool.and_eq_true] at hh
    exact ⟨o.gl hh.1, h, hh.2⟩
  · cases h
theorem bi_of {m' : Bool} {x : Str} {ty : Bool} {id : String} {f : PN} (o : XO T FT N own m X sc sto) (h : biT m' x = some (ty, id, f)) : (ty = false ∧ CallR X (.builtin id) (lN T f) ∧ bootBuiltins x = some (.builtin id)) ∨ (ty = true ∧ CallR X (.type id) (lN T f) ∧ bootBuiltins x = some (.type id)) := by
  have u := o.room.units
  unfold biT at h
  repeat (split at h; · rename_i e; cases h; subst e; first
    | exact .inl ⟨rfl, c_lenD o.ok.k, PySem.boot_len⟩
    | exact .inl ⟨rfl, c_repr o.ok o.gd u, boot_repr⟩
    | exact .inl ⟨rfl, c_abs, boot_abs⟩
    | exact .inl ⟨rfl, c_all o.ok.k o.calm, boot_all⟩
    | exact .inl ⟨rfl, c_any o.ok.k o.calm, boot_any⟩
    | exact .inr ⟨rfl, c_int, boot_int⟩
    | exact .inr ⟨rfl, c_list o.ok.k, boot_list⟩
    | exact .inr ⟨rfl, c_tuple o.ok.k, boot_tuple⟩
    | exact .inl ⟨rfl, c_sorted o.calm o.ok u, boot_sorted⟩
    | exact .inl ⟨rfl, c_sumL o.calm, boot_sum⟩)
  cases h
theorem ty_of {x : Str} {t : String} (h : tyT x = some t) : bootBuiltins x = some (.type t) ∧ okTy t = true := by
  unfold tyT at h
  repeat (split at h; · rename_i e; cases h; subst e; exact ⟨by decide +kernel, by decide +kernel⟩)
  cases h
theorem op_of {m' : Bool} {op : Operator} {f : P2} (hT : T.K = X.K) (h : opT m' op = some f) : OpR X (binaryOp op) (l2 T f) := by
  cases op <;> simp only [opT, reduceCtorEq, Option.some.injEq] at h
  all_goals first | (subst h; first | exact o_add hT | exact o_sub | exact o_mul | exact o_fdiv | exact o_mod | exact o_pow)
theorem cm_of {op : CmpOp} {f : P2} (o : XO T FT N own m X sc sto) (h : cmT op = some f) : OpR X (compareOp op) (l2 T f) := by
  have u := o.room.units
  have u2 : X.A.units + 65 < cLine := by have := o.room.un; omega
  cases op <;> simp only [cmT, reduceCtorEq, Option.some.injEq] at h
  all_goals first | (subst h; first | exact o_eq o.ok u | exact o_ne o.ok u | exact o_lt | exact o_le | exact o_gt | exact o_ge | exact o_inD o.ok u2 | exact o_notinD o.ok u2 | exact o_is | exact o_isnot)
theorem opX_of {fl m' : Bool} {op : Operator} {f : P2} (o : XO T FT N own m X sc sto) (h : opX fl m' own.cl (runF FT m) op = some f) : OpR X (binaryOp op) (l2 T f) := by
  unfold opX at h
  split at h
  · cases h
    refine o_opC o.ck ?_ o.room o.gd
    cases e : opT m' op with
    | none => exact fun pins s σ H x y v u Q I rx ry ⟨a, b, G, Qa, ra, rb, rg, hf, q⟩ => hf.elim
    | some g => exact op_of o.ok.k e
  · exact op_of o.ok.k h
theorem cmX_of {fl : Bool} {op : CmpOp} {f : P2} (o : XO T FT N own m X sc sto) (h : cmX fl own.cl (runF FT m) op = some f) : OpR X (compareOp op) (l2 T f) := by
  unfold cmX at h
  split at h
  · cases op <;> simp only [reduceCtorEq, Option.some.injEq] at h
    all_goals first | (subst h; first | exact o_eqC o.ck o.ok o.room o.gd | exact o_neC o.ck o.ok o.room o.gd | exact o_inC o.ck o.ok o.room o.gd | exact o_ninC o.ck o.ok o.room o.gd)
  · exact cm_of o h
theorem biX_of {fl m' : Bool} {x : Str} {ty : Bool} {id : String} {f : PN} (o : XO T FT N own m X sc sto) (h : biX fl m' own.cl (runF FT m) x = some (ty, id, f)) : (ty = false ∧ CallR X (.builtin id) (lN T f) ∧ bootBuiltins x = some (.builtin id)) ∨ (ty = true ∧ CallR X (.type id) (lN T f) ∧ bootBuiltins x = some (.type id)) := by
  unfold biX at h
  split at h
  · rename_i e; subst e; cases h
    exact .inr ⟨rfl, c_bool o.ck o.ok.k o.room o.gd, boot_bool⟩
  split at h
  · rename_i e; obtain ⟨_, e⟩ := e; subst e; cases h
    exact .inl ⟨rfl, c_lenC o.ck o.ok.k o.room o.gd, PySem.boot_len⟩
  split at h
  · rename_i e; obtain ⟨_, e⟩ := e; subst e; cases h
    exact .inl ⟨rfl, c_reprC o.ck o.ok o.room o.gd, boot_repr⟩
  exact bi_of o h
theorem isCl_of {x : Str} {ci : CI} (o : XO T FT N own m X sc sto) (h : isCl own sc x = some ci) : Gl X x ∧ own.cl.lookup x = some ci ∧ nmOk x = true := by
  unfold isCl at h
  split at h
  · rename_i hh
    simp only [Bool.and_eq_true] at hh
    exact ⟨o.gl hh.1, h, hh.2⟩
  · cases h
theorem dfOf_of {df : List (String × Nat × List A)} {F : String} {n : Nat} : dfOf df F n = [] ∨ ∃ k, (F, k, dfOf df F n) ∈ df := by
  unfold dfOf
  split
  · rename_i d e
    have h1 := List.mem_of_find?_eq_some e
    have h2 := List.find?_some e
    simp only [Bool.and_eq_true, beq_iff_eq] at h2
    obtain ⟨a, b, c⟩ := d
    simp only at h2
    exact .inr ⟨b, by rw [← h2.1]; exact h1⟩
  · exact .inl rfl
theorem mt_of {m' : Bool} {x : Str} {ty id : String} {f : A → PN} (o : XO T FT N own m X sc sto) (h : mtT m' x = some (ty, id, f)) : PlainAttrs ty ∧ Slot ty x id ∧ typeOf (.builtin id) = pure (.type "method_descriptor") ∧ MtR X id (lM T f) := by
  unfold mtT at h
  repeat (split at h; · rename_i e; cases h; subst e; first
    | exact ⟨PySem.F.plainAttrs_list, PySem.F.slot_list_append, PySem.F.type_list_append, m_append⟩
    | exact ⟨PySem.F.plainAttrs_list, PySem.F.slot_list_insert, PySem.F.type_list_insert, m_insert⟩
    | exact ⟨PySem.F.plainAttrs_list, PySem.F.slot_list_extend, PySem.F.type_list_extend, m_extend2 o.ok.k⟩
    | exact ⟨PySem.F.plainAttrs_str, PySem.F.slot_str_split, PySem.F.type_str_split, m_split⟩
    | exact ⟨PySem.F.plainAttrs_str, PySem.F.slot_str_join, PySem.F.type_str_join, m_join o.ok.k⟩
    | exact ⟨PySem.F.plainAttrs_dict, PySem.F.slot_dict_get, PySem.F.type_dict_get, m_get (by have := o.room.un; omega)⟩)
  cases h
theorem mt0_of {x : Str} {ty id : String} {f : A → PN} (o : XO T FT N own m X sc sto) (h : mtT0 x = some (ty, id, f)) : PlainAttrs ty ∧ Slot ty x id ∧ typeOf (.builtin id) = pure (.type "method_descriptor") ∧ MtR X id (lM T f) := by
  unfold mtT0 at h
  repeat (split at h; · rename_i e; cases h; subst e; first
    | exact ⟨PySem.F.plainAttrs_list, PySem.F.slot_list_reverse, PySem.F.type_list_reverse, m_reverse⟩
    | exact ⟨PySem.F.plainAttrs_list, PySem.F.slot_list_clear, PySem.F.type_list_clear, m_clear⟩
    | exact ⟨PySem.F.plainAttrs_str, PySem.F.slot_str_isascii, PySem.F.type_str_isascii, m_strB mt_isascii⟩
    | exact ⟨PySem.F.plainAttrs_str, PySem.F.slot_str_isalpha, PySem.F.type_str_isalpha, m_strB mt_isalpha⟩
    | exact ⟨PySem.F.plainAttrs_str, PySem.F.slot_str_islower, PySem.F.type_str_islower, m_strB mt_islower⟩
    | exact ⟨PySem.F.plainAttrs_str, PySem.F.slot_str_upper, PySem.F.type_str_upper, m_upper⟩)
  cases h
/-- a comprehension's block -/
theorem XO.blk (o : XO T FT N own m X sc sto) {scope : Scope} (hb : blkC N sc scope (ownOf N scope) = true) (s : Shared) (H : Hp) (C : Addr) (cl : List (Str × Addr)) (fp : List Addr) :
    XO T FT N own m (X.blk s H scope (compEnvC scope cl C X.env) fp) (relS scope sc) scope where
  ok := ⟨o.ok.k⟩
  nm := o.nm
  nd := o.nd
  scp := by show relabel scope X.env = relS scope sc; rw [← o.scp]; rfl
  kind := (blkOk_by hb).kind
  calm := o.calm
  gd := o.gd
  room := o.room
  fnl := fun x hx => by
    unfold locB at hx
    split at hx
    · rename_i e
      have z := lookup_relS_keep (sc := sc) (k := .local) (by decide) e
      exact ⟨.inl z, .inr z⟩
    · rename_i e
      have z := lookup_relS_keep (sc := sc) (k := .cell) (by decide) e
      refine ⟨.inr z, .inl ?_⟩
      show (scope.names.lookup x == some .cell) = true
      rw [e]; decide
    · cases hx
  fns := o.fns
  bl := o.bl
  cs := o.cs
  ck := ⟨o.ck.cls, o.ck.two, o.ck.mak, o.ck.fl, o.ck.mt, o.ck.pr⟩
end
end Q
/-! Q16: the compile step is right: expressions. -/
namespace Q
open PySem PySem.Spec PyProof.Rows L2
structure SN (T : Tx) (FT : FTab) (N : List Str) (own : Pg) (m n : Nat) : Prop where
  e : ∀ {X sc sto W}, XO T FT N own m X sc sto → Takes X W → ∀ {e t}, cE N own (runF FT m) n sc e = some t → PE X e (lE T W t)
  l : ∀ {X sc sto W}, XO T FT N own m X sc sto → Takes X W → ∀ {es t}, cL N own (runF FT m) n sc es = some t → PA X es (lL T W t)
  bo : ∀ {X sc sto W}, XO T FT N own m X sc sto → Takes X W → ∀ {op es t pos}, cBo N own (runF FT m) n sc op es = some t → PE X (.BoolOp op es pos) (lE T W t)
  b : ∀ {X sc sto W}, XO T FT N own m X sc sto → Takes X W → ∀ {e t}, cB N own (runF FT m) n sc e = some t → PT X e (lB T W t)
  bb : ∀ {X sc sto W}, XO T FT N own m X sc sto → Takes X W → ∀ {op es t pos}, cBb N own (runF FT m) n sc op es = some t → PW X (.BoolOp op es pos) (lB T W t)
  o : ∀ {X sc sto W}, XO T FT N own m X sc sto → Takes X W → ∀ {e t}, cO N own (runF FT m) n sc e = some t → PO X e (lO T W t)
  i : ∀ {X sc sto W}, XO T FT N own m X sc sto → Takes X W → ∀ {tg e t}, cI N own (runF FT m) n sc e = some t → isSet e = false → PI X tg e (lI T W t)
  p : ∀ {X sc sto W}, XO T FT N own m X sc sto → Takes X W → ∀ {pos ks vs ps}, cPs N own (runF FT m) n sc ks vs = some ps → PPs X pos ks vs (ps.map fun p => (lE T W p.1, lE T W p.2))
  fs : ∀ {X sc sto W}, XO T FT N own m X sc sto → Takes X W → ∀ {es ts}, cFs N own (runF FT m) n sc es = some ts → PJA X T W es ts
  k : ∀ {X sc sto W}, XO T FT N own m X sc sto → Takes X W → ∀ {kws t}, cKw N own (runF FT m) n sc kws = some t → PK X kws (lL T W t)
  t : ∀ {X sc sto W}, XO T FT N own m X sc sto → Takes X W → ∀ {es t}, cT N own (runF FT m) n sc es = some t → PTs X es (lB T W t)
section
variable {T : Tx} {FT : FTab} {N : List Str} {own : Pg} {m n : Nat} {X : Cx} {sc sto : Scope} {W : L2.WX}
theorem cNms_of (o : XO T FT N own m X sc sto) {vs : List Nat} : ∀ {es : List Expr} {is : List Nat}, cNms N sto vs es = some is → PGn X T vs es is ∧ (assignEach es X.env).length = is.length ∧ (assignEach es X.env).findIdx? (·.1) = none
  | [], is, h => by simp only [cNms, Option.some.injEq] at h; subst h; exact ⟨gn_nil, rfl, rfl⟩
  | e :: es, is, h => by
    cases e with
    | Name x pos =>
      simp only [cNms] at h
      split at h
      · rename_i hl
        split at h
        · rename_i i js h1 h2
          split at h
          · rename_i hc
            cases h
            obtain ⟨a, b, c⟩ := cNms_of o h2
            refine ⟨gn_cons (by rw [o.nm]; exact o.nd) (by rw [o.nm]; exact ixOf_get h1) (o.loc hl) (o.fn hl) (by simpa using hc) a rfl, ?_, ?_⟩
            · show (assignEach es X.env).length + 1 = _
              rw [b]; rfl
            · show List.findIdx? (·.1) ((false, assign (.Name x pos) X.env) :: assignEach es X.env) = none
              rw [List.findIdx?_cons]
              simp [c]
          · cases h
        · cases h
      · cases h
    | _ => simp [cNms] at h
theorem cG_of (o : XO T FT N own m X sc sto) {vs : List Nat} {tg : Expr} {g : GA} (h : cG N sto vs tg = some g) : PG X tg (lG T vs g) := by
  cases tg with
  | Name x pos =>
    simp only [cG] at h
    split at h
    · rename_i hl
      split at h
      · rename_i i h1
        split at h
        · rename_i hc
          cases h
          exact g_nm (by rw [o.nm]; exact o.nd) (by rw [o.nm]; exact ixOf_get h1) (o.loc hl) (o.fn hl) (by simpa using hc)
        · cases h
      · cases h
    · cases h
  | Tuple es k pos =>
    simp only [cG, Option.map_eq_some_iff] at h
    obtain ⟨is, h1, rfl⟩ := h
    obtain ⟨a, b, c⟩ := cNms_of o h1
    exact g_tup o.ok.k o.calm a b c
  | _ => simp [cG] at h
theorem snL (ih : SN T FT N own m n) (o : XO T FT N own m X sc sto) (tk : Takes X W) {es : List Expr} {t : LA} (h : cL N own (runF FT m) (n + 1) sc es = some t) : PA X es (lL T W t) := by
  cases es with
  | nil => simp only [cL, Option.some.injEq] at h; subst h; exact l_nil
  | cons e es =>
    simp only [cL] at h
    split at h
    · cases h
    · rename_i hs
      split at h
      · rename_i t u h1 h2
        cases h
        exact l_cons (ih.e o tk h1) (ih.l o tk h2) (star_cons (by simpa using hs))
      · cases h
theorem snK (ih : SN T FT N own m n) (o : XO T FT N own m X sc sto) (tk : Takes X W) {kws : List Keyword} {t : LA} (h : cKw N own (runF FT m) (n + 1) sc kws = some t) : PK X kws (lL T W t) := by
  cases kws with
  | nil => simp only [cKw, Option.some.injEq] at h; subst h; exact k_nil
  | cons k ks =>
    simp only [cKw] at h
    split at h
    · rename_i t u h1 h2
      cases h
      obtain ⟨a, v, p⟩ := k
      exact k_cons (ih.e o tk h1) (ih.k o tk h2)
    · cases h
theorem snP (ih : SN T FT N own m n) (o : XO T FT N own m X sc sto) (tk : Takes X W) {pos : Pos} {ks : List (Option Expr)} {vs : List Expr} {ps : List (EA × EA)} (h : cPs N own (runF FT m) (n + 1) sc ks vs = some ps) : PPs X pos ks vs (ps.map fun p => (lE T W p.1, lE T W p.2)) := by
  simp only [cPs] at h
  split at h
  · cases h; exact pps_nil
  · split at h
    · rename_i tk' tv ps' h1 h2 h3
      cases h
      exact pps_cons (ih.e o tk h1) (ih.e o tk h2) (ih.p o tk h3)
    · cases h
  · cases h
theorem snFs (ih : SN T FT N own m n) (o : XO T FT N own m X sc sto) (tk : Takes X W) {es : List Expr} {ts : List EA} (h : cFs N own (runF FT m) (n + 1) sc es = some ts) : PJA X T W es ts := by
  cases es with
  | nil => simp only [cFs, Option.some.injEq] at h; subst h; exact .nil
  | cons e es =>
    simp only [cFs] at h
    split at h
    · rename_i t ts' h1 h2
      cases h
      exact .cons (ih.e o tk h1) (ih.fs o tk h2)
    · cases h
theorem snBo (ih : SN T FT N own m n) (o : XO T FT N own m X sc sto) (tk : Takes X W) {op : BoolOp} {es : List Expr} {t : EA} {pos : Pos} (h : cBo N own (runF FT m) (n + 1) sc op es = some t) : PE X (.BoolOp op es pos) (lE T W t) := by
  cases es with
  | nil => simp [cBo] at h
  | cons e es =>
    cases es with
    | nil => simp only [cBo] at h; exact p_one (ih.e o tk h)
    | cons e' es =>
      simp only [cBo] at h
      split at h
      · rename_i ta tb h1 h2
        cases h
        cases op
        · exact p_and o.ok.k (ih.e o tk h1) (ih.bo o tk h2)
        · exact p_or o.ok.k (ih.e o tk h1) (ih.bo o tk h2)
      · cases h
theorem snBb (ih : SN T FT N own m n) (o : XO T FT N own m X sc sto) (tk : Takes X W) {op : BoolOp} {es : List Expr} {t : BA} {pos : Pos} (h : cBb N own (runF FT m) (n + 1) sc op es = some t) : PW X (.BoolOp op es pos) (lB T W t) := by
  cases es with
  | nil => simp [cBb] at h
  | cons e es =>
    cases es with
    | nil =>
      simp only [cBb] at h
      cases op
      · exact q_and1 (ih.b o tk h)
      · exact q_or1 (ih.b o tk h)
    | cons e' es =>
      simp only [cBb] at h
      split at h
      · rename_i ta tb h1 h2
        cases h
        cases op
        · exact q_and (ih.b o tk h1) (ih.bb o tk h2)
        · exact q_or (ih.b o tk h1) (ih.bb o tk h2)
      · cases h
theorem snB (ih : SN T FT N own m n) (o : XO T FT N own m X sc sto) (tk : Takes X W) {e : Expr} {t : BA} (h : cB N own (runF FT m) (n + 1) sc e = some t) : PT X e (lB T W t) := by
  have plain : (if plainTest e = true then (cE N own (runF FT m) n sc e).map bV else none) = some t → PT X e (lB T W t) := fun h => by
    split at h
    · rename_i hp
      simp only [Option.map_eq_some_iff] at h
      obtain ⟨ta, h1, rfl⟩ := h
      exact q_val o.ok.k (ih.e o tk h1) (test_ok hp)
    · cases h
  cases e with
  | UnaryOp op a p =>
    cases op with
    | Not =>
      simp only [cB, Option.map_eq_some_iff] at h
      obtain ⟨ta, h1, rfl⟩ := h
      exact q_not (ih.b o tk h1)
    | _ => simp only [cB] at h; exact plain h
  | BoolOp op es p => simp only [cB] at h; exact (ih.bb o tk h).pt
  | Compare a ops bs p =>
    simp only [cB] at h
    split at h
    · rename_i op b
      split at h
      · cases h
      · rename_i hs
        split at h
        · rename_i ta f tb h1 h2 h3
          cases h
          exact q_cmp (cmX_of o h2) (ih.e o tk h1) (ih.e o tk h3) (behind_ok (by simpa using hs))
        · cases h
    · rename_i op op' b b'
      split at h
      · cases h
      · rename_i hs
        split at h
        · rename_i ta f tb f' tc h1 h2 h3 h4 h5
          cases h
          exact q_chain (cm_of o h2) (cm_of o h4) (ih.e o tk h1) (ih.e o tk h3) (ih.e o tk h5) (last_ok (by simpa using hs))
        · cases h
    · cases h
  | _ => simp only [cB] at h; exact plain h
theorem snO (ih : SN T FT N own m n) (o : XO T FT N own m X sc sto) (tk : Takes X W) {e : Option Expr} {t : OA} (h : cO N own (runF FT m) (n + 1) sc e = some t) : PO X e (lO T W t) := by
  cases e with
  | none => simp only [cO, Option.some.injEq] at h; subst h; exact o_no
  | some e =>
    simp only [cO, Option.map_eq_some_iff] at h
    obtain ⟨ta, h1, rfl⟩ := h
    exact o_some (ih.e o tk h1)
theorem snT (ih : SN T FT N own m n) (o : XO T FT N own m X sc sto) (tk : Takes X W) {es : List Expr} {t : BA} (h : cT N own (runF FT m) (n + 1) sc es = some t) : PTs X es (lB T W t) := by
  simp only [cT] at h
  split at h
  · cases h; exact ts_nil
  · exact ts_one (ih.b o tk h)
  · cases h
theorem snI (ih : SN T FT N own m n) (o : XO T FT N own m X sc sto) (tk : Takes X W) {tg e : Expr} {t : IA} (h : cI N own (runF FT m) (n + 1) sc e = some t) (hs : isSet e = false) : PI X tg e (lI T W t) := by
  have seq : ∀ {e : Expr}, (cE N own (runF FT m) n sc e).map iSeq = some t → PI X tg e (lI T W t) := fun {e} h => by
    simp only [Option.map_eq_some_iff] at h
    obtain ⟨ta, h1, rfl⟩ := h
    exact i_seq o.ok.k (ih.e o tk h1)
  simp only [cI] at h
  split at h
  · rename_i x p a pos
    split at h
    · rename_i hx
      subst hx
      split at h
      · rename_i hb
        simp only [Bool.and_eq_true, Bool.not_eq_true'] at hb
        obtain ⟨g1, g2, g3⟩ := isBlt_of o hb.1
        simp only [Option.map_eq_some_iff] at h
        obtain ⟨ta, h1, rfl⟩ := h
        exact i_rng1 g1 g2 (ih.e o tk h1) (star_cons hb.2)
      · cases h
    · exact seq h
  · rename_i x p a b pos
    split at h
    · rename_i hx
      subst hx
      split at h
      · rename_i hb
        simp only [Bool.and_eq_true, Bool.not_eq_true'] at hb
        obtain ⟨g1, g2, g3⟩ := isBlt_of o hb.1.1
        split at h
        · rename_i ta tb h1 h2
          cases h
          exact i_rng2 g1 g2 (ih.e o tk h1) (ih.e o tk h2) (by rw [star_cons hb.1.2, star_cons hb.2]; rfl) (star_cons hb.2)
        · cases h
      · cases h
    · exact seq h
  · exact seq h
end
end Q
/-! Q17: the compile step is right: expressions, all; statements. -/
namespace Q
open PySem PySem.Spec PyProof.Rows L2
section
variable {T : Tx} {FT : FTab} {N : List Str} {own : Pg} {m n : Nat} {X : Cx} {sc sto : Scope} {W : L2.WX}
theorem snCall (ih : SN T FT N own m n) (o : XO T FT N own m X sc sto) (tk : Takes X W) {x : Str} {p pos : Pos} {es : List Expr} {t : EA} (h : cE N own (runF FT m) (n + 1) sc (.Call (.Name x p) es [] pos) = some t) : PE X (.Call (.Name x p) es [] pos) (lE T W t) := by
  simp only [cE] at h
  split at h
  · rename_i hst
    split at h
    · rename_i F hF
      obtain ⟨g1, g2, g3⟩ := isOwn_of o hF
      obtain ⟨d1, _, _⟩ := nmOk_d g3
      obtain ⟨f, fd, ps, FN, hm, hk, hb⟩ := o.fns x F g2
      simp only [Option.map_eq_some_iff] at h
      obtain ⟨u, h1, rfl⟩ := h
      cases es with
      | nil =>
        have hl := ih.l o tk h1
        have e : u = lNil := by
          cases n with
          | zero => simp [cL] at h1
          | succ k => simpa [cL] using h1.symm
        subst e
        exact p_call0 FN (o.room.mono (by omega)) o.gd g1 hm hk hb tk d1
      | cons e es =>
        simp only [List.all_cons, Bool.and_eq_true] at hst
        exact p_call FN (o.room.mono (by omega)) o.gd g1 hm hk hb tk (ih.l o tk h1) d1 (star_cons (by simpa using hst.1)) (back_plain hst.2)
    · split at h
      · rename_i ci hC
        obtain ⟨g1, g2, g3⟩ := isCl_of o hC
        obtain ⟨d1, _, _⟩ := nmOk_d g3
        split at h
        · cases h
        rename_i hko
        simp only [Bool.and_eq_true, List.isEmpty_iff, not_and] at hko
        simp only [Option.map_eq_some_iff] at h
        obtain ⟨u, h1, rfl⟩ := h
        have hds : ∀ ci', own.cl.lookup x = some ci' → (dfOf own.df ci.init (es.length + 1) = [] ∧ ci'.ko = false) ∨ ∃ k, (ci'.init, k, dfOf own.df ci.init (es.length + 1)) ∈ own.df := by
          intro ci' e
          rw [g2] at e; cases e
          rcases dfOf_of (df := own.df) (F := ci.init) (n := es.length + 1) with z | z
          · refine .inl ⟨z, ?_⟩
            cases hk : ci.ko with
            | false => rfl
            | true => exact absurd z (hko hk)
          · exact .inr z
        cases es with
        | nil =>
          have hl := ih.l o tk h1
          have e : u = lNil := by
            cases n with
            | zero => simp [cL] at h1
            | succ k => simpa [cL] using h1.symm
          subst e
          exact p_mk0 o.ck hds (o.room.mono (by omega)) o.gd tk g1 d1 g2
        | cons e es =>
          simp only [List.all_cons, Bool.and_eq_true] at hst
          exact p_mk o.ck hds (o.room.mono (by omega)) o.gd tk g1 (ih.l o tk h1) d1 (star_cons (by simpa using hst.1)) (back_plain hst.2) g2
      split at h
      · rename_i hB
        obtain ⟨g1, g2, g3⟩ := isBlt_of o hB
        obtain ⟨d1, _, d3⟩ := nmOk_d g3
        split at h
        · rename_i hx
          subst hx
          split at h
          · rename_i e t0 pt
            split at h
            · rename_i hB2
              obtain ⟨k1, k2, k3⟩ := isBlt_of o hB2
              obtain ⟨l1, _, l3⟩ := nmOk_d k3
              split at h
              · rename_i ta mm h1 h2
                cases h
                obtain ⟨b1, b2⟩ := ty_of h2
                simp only [List.all_cons, Bool.and_eq_true] at hst
                exact p_isi1 o.ok.k (ih.e o tk h1) g1 g2 k1 k2 b1 b2 l3 l1 (star_cons (by simpa using hst.1))
              · cases h
            · split at h
              · rename_i hC
                obtain ⟨ci, hC⟩ := Option.isSome_iff_exists.mp hC
                obtain ⟨k1, k2, k3⟩ := isCl_of o hC
                obtain ⟨l1, _, _⟩ := nmOk_d k3
                simp only [Option.map_eq_some_iff] at h
                obtain ⟨u, h1, rfl⟩ := h
                simp only [List.all_cons, Bool.and_eq_true] at hst
                exact p_isC o.ck o.ok.k k2 (ih.e o tk h1) g1 g2 k1 l1 (star_cons (by simpa using hst.1))
              · cases h
          · rename_i e t0 pt t1 pt1 x1 pp
            split at h
            · rename_i hB2
              simp only [Bool.and_eq_true] at hB2
              obtain ⟨k1, k2, k3⟩ := isBlt_of o hB2.1
              obtain ⟨l1, _, l3⟩ := nmOk_d k3
              obtain ⟨k1', k2', k3'⟩ := isBlt_of o hB2.2
              obtain ⟨l1', _, l3'⟩ := nmOk_d k3'
              split at h
              · rename_i ta mm mm' h1 h2 h3
                cases h
                obtain ⟨b1, b2⟩ := ty_of h2
                obtain ⟨b1', b2'⟩ := ty_of h3
                simp only [List.all_cons, Bool.and_eq_true] at hst
                exact p_isi2 o.ok.k (ih.e o tk h1) g1 g2 k1 k2 b1 b2 l3 l1 k1' k2' b1' b2' l3' l1' (star_cons (by simpa using hst.1))
              · cases h
            · cases h
          · cases h
        · split at h
          · rename_i hx
            subst hx
            split at h
            · rename_i z pz a b posz
              split at h
              · rename_i hz
                subst hz
                split at h
                · rename_i hc
                  simp only [Bool.and_eq_true, Bool.not_eq_true'] at hc
                  obtain ⟨k1, k2, k3⟩ := isBlt_of o hc.1.1
                  simp only [Option.map_eq_some_iff] at h
                  obtain ⟨u, h1, rfl⟩ := h
                  exact p_dz o.calm g1 g2 k1 k2 (ih.l o tk h1) (star_cons hc.1.2) (back_plain (by simp [hc.2]))
                · cases h
              · cases h
            · cases h
          split at h
          · rename_i hsc
            simp only [setCall, Bool.and_eq_true, Bool.or_eq_true, decide_eq_true_eq] at hsc
            split at h
            · rename_i z pz a posz
              split at h
              · rename_i hz
                subst hz
                split at h
                · rename_i hc
                  simp only [Bool.and_eq_true, Bool.not_eq_true'] at hc
                  obtain ⟨k1, k2, k3⟩ := isBlt_of o hc.1
                  simp only [Option.map_eq_some_iff] at h
                  obtain ⟨u, h1, rfl⟩ := h
                  rcases hsc.1 with e | e
                  · subst e
                    rw [if_neg (by decide)]
                    exact p_ss o.calm o.ok o.room.units g1 g2 k1 k2 (ih.e o tk h1) (by rw [star_cons hc.2]; rfl)
                  · subst e
                    rw [if_pos rfl]
                    exact p_ls o.calm o.ok o.room.units g1 g2 k1 k2 (ih.e o tk h1) (by rw [star_cons hc.2]; rfl)
                · cases h
              · cases h
            · cases h
          split at h
          · cases h
          · rename_i hne
            split at h
            · rename_i ty id f u h1 h2
              cases h
              cases es with
              | nil => simp at hne
              | cons e es =>
                simp only [List.all_cons, Bool.and_eq_true] at hst
                rcases biX_of (T := T) o h1 with ⟨_, c1, c2⟩ | ⟨_, c1, c2⟩
                · exact p_bi c1 g1 g2 c2 (ih.l o tk h2) d3 d1 (star_cons (by simpa using hst.1)) (back_plain hst.2)
                · exact p_bt c1 g1 g2 c2 (ih.l o tk h2) d3 d1 (star_cons (by simpa using hst.1)) (back_plain hst.2)
            · cases h
      · cases h
  · cases h
theorem snCallK (ih : SN T FT N own m n) (o : XO T FT N own m X sc sto) (tk : Takes X W) {x : Str} {p pos : Pos} {es : List Expr} {k : Keyword} {ks : List Keyword} {t : EA} (h : cE N own (runF FT m) (n + 1) sc (.Call (.Name x p) es (k :: ks) pos) = some t) : PE X (.Call (.Name x p) es (k :: ks) pos) (lE T W t) := by
  simp only [cE] at h
  split at h
  · rename_i hc
    simp only [Bool.and_eq_true, Bool.not_eq_true'] at hc
    obtain ⟨⟨hst, hne⟩, hkw⟩ := hc
    split at h
    · rename_i ci hC
      obtain ⟨g1, g2, g3⟩ := isCl_of o hC
      obtain ⟨d1, _, _⟩ := nmOk_d g3
      split at h
      · rename_i u uk q h1 h2 h3
        cases h
        have hq := List.find?_some h3
        simp only [Bool.and_eq_true, beq_iff_eq] at hq
        cases es with
        | nil => simp at hne
        | cons e es =>
          have hst' := hst
          simp only [List.all_cons, Bool.and_eq_true] at hst
          refine p_mkK (ci := ci) o.ck (o.room.mono (by omega)) o.gd tk g1 (ih.l o tk h1) (ih.k o tk h2) d1 (kw_all hkw) (kw_names.trans hq.2.symm) (star_cons (by simpa using hst.1)) ?_ g2 (List.mem_of_find?_eq_some h3) hq.1.symm
          rw [back_plain hst', kw_any hkw]; rfl
      · cases h
    · cases h
  · cases h
theorem snMeth (ih : SN T FT N own m n) (o : XO T FT N own m X sc sto) (tk : Takes X W) {ob : Expr} {mn : Str} {apos pos : Pos} {es : List Expr} {t : EA} (h : cE N own (runF FT m) (n + 1) sc (.Call (.Attribute ob mn apos) es [] pos) = some t) : PE X (.Call (.Attribute ob mn apos) es [] pos) (lE T W t) := by
  simp only [cE] at h
  split at h
  · rename_i hc
    simp only [Bool.and_eq_true, decide_eq_true_eq] at hc
    obtain ⟨⟨⟨hst, hb⟩, hl⟩, hlen⟩ := hc
    split at h
    · split at h
      · rename_i to u h1 h2
        cases h
        cases es with
        | nil =>
          have e : u = lNil := by
            cases n with
            | zero => simp [cL] at h2
            | succ k => simpa [cL] using h2.symm
          subst e
          obtain ⟨pl, ht⟩ := meth_eval (o := ob) (f := mn) (args := []) (env := X.env) (base_ok hb) rfl hl
          exact p_me0 o.ck (o.room.mono (by omega)) o.gd tk (ih.e o tk h1) ht
        | cons e es =>
          have hst' := hst
          obtain ⟨pl, ht⟩ := meth_eval (o := ob) (f := mn) (args := e :: es) (env := X.env) (base_ok hb) (few_ok hst' (by simp at hlen; omega)) hl
          simp only [List.all_cons, Bool.and_eq_true] at hst
          exact p_me o.ck (o.room.mono (by omega)) o.gd tk (ih.e o tk h1) (ih.l o tk h2) (star_cons (by simpa using hst.1)) (back_plain hst.2) ht
      · cases h
    split at h
    · rename_i he
      split at h
      · rename_i ty id f to h1 h2
        cases h
        cases es with
        | cons e es => simp at he
        | nil =>
          obtain ⟨a1, a2, a3, a4⟩ := mt0_of o h1
          exact p_m0 o.ok.k a1 a2 a3 a4 (ih.e o tk h2) (base_ok hb) hl
      · cases h
    · rename_i he
      split at h
      · rename_i ty id f to u h1 h2 h3
        cases h
        cases es with
        | nil => simp at he
        | cons e es =>
          obtain ⟨a1, a2, a3, a4⟩ := mt_of o h1
          have hst' := hst
          simp only [List.all_cons, Bool.and_eq_true] at hst
          exact p_m o.ok.k a1 a2 a3 a4 (ih.e o tk h2) (ih.l o tk h3) (base_ok hb) (few_ok hst' (by simp at hlen; omega)) hl (star_cons (by simpa using hst.1)) (back_plain hst.2)
      · cases h
  · cases h
theorem snLc (ih : SN T FT N own m n) (o : XO T FT N own m X sc sto) (tk : Takes X W) {elt : Expr} {gens : List Comprehension} {scope : Scope} {pos : Pos} {t : EA} (h : cE N own (runF FT m) (n + 1) sc (.ListComp elt gens scope pos) = some t) :
    ∃ tg iter ifs it g tt te, gens = [⟨tg, iter, ifs, 0⟩] ∧ t = eLc (own.mu.contains pos) it g tt te ((ownOf N scope).map (·.2)) ∧ PI X tg iter (lI T W it) ∧ BlkOk X.N X.env.scope scope (ownOf N scope) ∧
      (∀ s H C cl fp, PG (X.blk s H scope (compEnvC scope cl C X.env) fp) tg (lG T ((ownOf N scope).map (·.2)) g)) ∧ (∀ s H C cl fp, PTs (X.blk s H scope (compEnvC scope cl C X.env) fp) ifs (lB T W0 tt)) ∧
      (∀ s H C cl fp, PE (X.blk s H scope (compEnvC scope cl C X.env) fp) elt (lE T W0 te)) ∧ (∀ x, foldedSetIterable iter X.env x = pure x) := by
  simp only [cE] at h
  split at h
  · rename_i tg iter ifs
    split at h
    · rename_i hc
      simp only [Bool.and_eq_true, Bool.not_eq_true'] at hc
      split at h
      · rename_i it g tt te h1 h2 h3 h4
        cases h
        exact ⟨tg, iter, ifs, it, g, tt, te, rfl, rfl, ih.i o tk h1 hc.2, by rw [o.nm, o.scp]; exact blkOk_by hc.1, fun s H C cl fp => cG_of (o.blk hc.1 s H C cl fp) h2, fun s H C cl fp => ih.t (o.blk hc.1 s H C cl fp) takes0 h3,
          fun s H C cl fp => ih.e (o.blk hc.1 s H C cl fp) takes0 h4, folded_ok hc.2⟩
      · cases h
    · cases h
  · cases h
theorem snDc (ih : SN T FT N own m n) (o : XO T FT N own m X sc sto) (tk : Takes X W) {k v : Expr} {gens : List Comprehension} {scope : Scope} {pos : Pos} {t : EA} (h : cE N own (runF FT m) (n + 1) sc (.DictComp k v gens scope pos) = some t) :
    PE X (.DictComp k v gens scope pos) (lE T W t) := by
  simp only [cE] at h
  split at h
  · rename_i tg iter ifs
    split at h
    · rename_i hc
      simp only [Bool.and_eq_true, Bool.not_eq_true'] at hc
      split at h
      · rename_i it g tt tk' tv h1 h2 h3 h4 h5
        cases h
        have B := fun s H C cl fp => o.blk hc.1 s H C cl fp
        exact PE.imp (pe_dg (own := ownOf N scope) (by have := o.room.un; omega) ⟨o.calm, by rw [o.nm]; exact o.nd, ih.i o tk h1 hc.2, by rw [o.nm, o.scp]; exact blkOk_by hc.1, fun s H C cl fp => cG_of (B s H C cl fp) h2,
          fun s H C cl fp => ih.t (B s H C cl fp) takes0 h3, fun s H C cl fp => ih.e (B s H C cl fp) takes0 h4, fun s H C cl fp => ih.e (B s H C cl fp) takes0 h5, folded_ok hc.2⟩) fun σ H Q h => dc_lift h
      · cases h
    · cases h
  · cases h
theorem snE (ih : SN T FT N own m n) (o : XO T FT N own m X sc sto) (tk : Takes X W) {e : Expr} {t : EA} (h : cE N own (runF FT m) (n + 1) sc e = some t) : PE X e (lE T W t) := by
  cases e with
  | Name x pos =>
    simp only [cE] at h
    split at h
    · rename_i hc
      simp only [Bool.and_eq_true] at hc
      obtain ⟨d1, d2, _⟩ := nmOk_d hc.2
      simp only [Option.map_eq_some_iff] at h
      obtain ⟨i, h1, rfl⟩ := h
      exact p_var (by rw [o.nm]; exact ixOf_get h1) (o.vis hc.1) d1 d2
    · split at h
      · rename_i hc
        simp only [Bool.and_eq_true] at hc
        obtain ⟨d1, d2, _⟩ := nmOk_d hc.2
        simp only [Option.map_eq_some_iff] at h
        obtain ⟨i, h1, rfl⟩ := h
        obtain ⟨t, e⟩ := o.cs x i h1
        exact p_const (pe_glob (v := .int i) (o.gl hc.1) e ⟨t, rfl⟩ d1) fun G H => rv_i _
      · cases h
  | Constant k j pos =>
    simp only [cE] at h
    split at h <;> first | cases h | skip
    · exact p_const pe_int fun G H => rv_i _
    · exact p_const pe_bl fun G H => rv_b _
    · exact p_const pe_non fun G H => rv_n
    · exact p_const pe_str fun G H => rv_s _
  | Tuple es k pos => simp only [cE, Option.map_eq_some_iff] at h; obtain ⟨u, h1, rfl⟩ := h; exact p_tup (ih.l o tk h1)
  | List es pos => simp only [cE, Option.map_eq_some_iff] at h; obtain ⟨u, h1, rfl⟩ := h; exact p_lst (ih.l o tk h1)
  | Dict ks vs pos =>
    simp only [cE] at h
    split at h
    · rename_i hc
      simp only [Bool.and_eq_true, List.isEmpty_iff] at hc
      cases h
      obtain ⟨rfl, rfl⟩ := hc
      exact p_dct0
    · split at h
      · rename_i hc
        simp only [Bool.and_eq_true, decide_eq_true_eq, Bool.not_eq_true'] at hc
        simp only [Option.map_eq_some_iff] at h
        obtain ⟨u, h1, rfl⟩ := h
        exact p_dis2 (by have := o.room.un; omega) (ih.p o tk h1) hc.1.1.1 hc.1.1.2 (fun z => by rw [z] at hc; simp at hc) hc.2
      · cases h
  | BinOp a op b pos =>
    simp only [cE] at h
    split at h
    · rename_i ta f tb h1 h2 h3
      cases h
      exact p_bin (opX_of o h2) (ih.e o tk h1) (ih.e o tk h3)
    · cases h
  | UnaryOp op a pos =>
    cases op <;> simp only [cE, reduceCtorEq] at h
    all_goals first
      | (simp only [Option.map_eq_some_iff] at h; obtain ⟨u, h1, rfl⟩ := h; exact p_neg (ih.e o tk h1))
      | (split at h <;> (simp only [Option.map_eq_some_iff] at h; obtain ⟨u, h1, rfl⟩ := h; first | exact p_notC o.ck o.ok.k o.room o.gd (ih.e o tk h1) | exact p_not o.ok.k (ih.e o tk h1)))
  | Attribute ob f pos =>
    simp only [cE] at h
    split at h
    · rename_i hb
      split at h
      · simp only [Option.map_eq_some_iff] at h
        obtain ⟨u, h1, rfl⟩ := h
        exact p_att o.ck (o.room.mono (by omega)) o.gd (ih.e o tk h1) (base_ok hb)
      · simp only [Option.map_eq_some_iff] at h
        obtain ⟨u, h1, rfl⟩ := h
        exact p_fld o.ck (ih.e o tk h1) (base_ok hb)
    · cases h
  | JoinedStr vs pos =>
    simp only [cE] at h
    split at h
    · simp only [Option.map_eq_some_iff] at h
      obtain ⟨u, h1, rfl⟩ := h
      exact p_fs (ih.fs o tk h1)
    · cases h
  | FormattedValue a k sp pos =>
    simp only [cE] at h
    split at h
    · split at h
      · rename_i hk
        subst hk
        simp only [Option.map_eq_some_iff] at h
        obtain ⟨u, h1, rfl⟩ := h
        exact p_fmtR o.ok o.gd o.room.units (ih.e o tk h1)
      · split at h
        · rename_i hk
          subst hk
          simp only [Option.map_eq_some_iff] at h
          obtain ⟨u, h1, rfl⟩ := h
          exact p_fmt (ih.e o tk h1)
        · cases h
    · cases h
  | BoolOp op es pos => simp only [cE] at h; exact ih.bo o tk h
  | Compare a ops bs pos =>
    simp only [cE] at h
    split at h
    · rename_i op b
      split at h
      · cases h
      · rename_i hs
        split at h
        · rename_i ta f tb h1 h2 h3
          cases h
          exact p_cmp (cmX_of o h2) (ih.e o tk h1) (ih.e o tk h3) (behind_ok (by simpa using hs))
        · cases h
    · rename_i op op' b b'
      split at h
      · cases h
      · rename_i hs
        split at h
        · rename_i ta f tb f' tc h1 h2 h3 h4 h5
          cases h
          exact p_chain (cm_of o h2) (cm_of o h4) (ih.e o tk h1) (ih.e o tk h3) (ih.e o tk h5) (last_ok (by simpa using hs))
        · cases h
    · cases h
  | IfExp q a b pos =>
    simp only [cE] at h
    split at h
    · rename_i t1 ta tb h1 h2 h3
      cases h
      exact p_if (ih.b o tk h1) (ih.e o tk h2) (ih.e o tk h3)
    · cases h
  | Subscript a s pos =>
    simp only [cE] at h
    split at h
    · rename_i lo hi st p2
      split at h
      · split at h
        · rename_i ta tl th h1 h2 h3
          cases h
          exact p_sl o.ok.k (ih.e o tk h1) (ih.o o tk h2) (ih.o o tk h3)
        · cases h
      · split at h
        · rename_i hc
          simp only [Bool.and_eq_true, Option.isNone_iff_eq_none] at hc
          obtain ⟨rfl, rfl⟩ := hc
          simp only [Option.map_eq_some_iff] at h
          obtain ⟨u, h1, rfl⟩ := h
          exact p_rev o.ok.k (ih.e o tk h1)
        · cases h
      · cases h
    · rename_i hs
      split at h
      · rename_i ta ti h1 h2
        cases h
        refine p_ixD o.ok.k (by have := o.room.un; omega) (ih.e o tk h1) (ih.e o tk h2) (plainIx_ok ?_)
        cases s <;> first | rfl | exact absurd rfl (hs _ _ _ _)
      · cases h
  | Call f es ks pos =>
    cases f with
    | Name x p =>
      cases ks with
      | nil => exact snCall ih o tk h
      | cons k ks => exact snCallK ih o tk h
    | Attribute ob mn apos =>
      cases ks with
      | nil => exact snMeth ih o tk h
      | cons _ _ => simp [cE] at h
    | _ => simp [cE] at h
  | ListComp elt gens scope pos =>
    obtain ⟨tg, iter, ifs, it, g, tt, te, rfl, rfl, a1, a2, a3, a4, a5, a6⟩ := snLc ih o tk h
    exact p_lc o.calm (by rw [o.nm]; exact o.nd) a1 a2 a3 a4 a5 a6
  | DictComp k v gens scope pos => exact snDc ih o tk h
  | _ => simp [cE] at h
theorem sn_zero : SN T FT N own m 0 where
  e := by intro X sc sto W o tk e t h; simp [cE] at h
  l := by intro X sc sto W o tk e t h; simp [cL] at h
  bo := by intro X sc sto W o tk op e t p h; simp [cBo] at h
  b := by intro X sc sto W o tk e t h; simp [cB] at h
  bb := by intro X sc sto W o tk op e t p h; simp [cBb] at h
  o := by intro X sc sto W o tk e t h; simp [cO] at h
  i := by intro X sc sto W o tk tg e t h; simp [cI] at h
  p := by intro X sc sto W o tk pos ks vs ps h; simp [cPs] at h
  fs := by intro X sc sto W o tk es ts h; simp [cFs] at h
  k := by intro X sc sto W o tk kws t h; simp [cKw] at h
  t := by intro X sc sto W o tk e t h; simp [cT] at h
theorem sn_all : ∀ n, SN T FT N own m n
  | 0 => sn_zero
  | n + 1 => {
    e := by intro X sc sto W o tk e t h; exact snE (sn_all n) o tk h
    l := by intro X sc sto W o tk e t h; exact snL (sn_all n) o tk h
    bo := by intro X sc sto W o tk op e t p h; exact snBo (sn_all n) o tk h
    b := by intro X sc sto W o tk e t h; exact snB (sn_all n) o tk h
    bb := by intro X sc sto W o tk op e t p h; exact snBb (sn_all n) o tk h
    o := by intro X sc sto W o tk e t h; exact snO (sn_all n) o tk h
    i := by intro X sc sto W o tk tg e t h hs; exact snI (sn_all n) o tk h hs
    p := by intro X sc sto W o tk pos ks vs ps h; exact snP (sn_all n) o tk h
    fs := by intro X sc sto W o tk es ts h; exact snFs (sn_all n) o tk h
    k := by intro X sc sto W o tk kws t h; exact snK (sn_all n) o tk h
    t := by intro X sc sto W o tk e t h; exact snT (sn_all n) o tk h }
/-! ### statements -/
structure SS (T : Tx) (FT : FTab) (N : List Str) (own : Pg) (m n : Nat) : Prop where
  s : ∀ {X sc W}, XO T FT N own m X sc sc → Takes X W → PassesOwn (model X.prog X.w) X.A X.env X.xe → ∀ {st t}, cS N own (runF FT m) n sc st = some t → PS X st (lS T W t)
  a : ∀ {X sc W}, XO T FT N own m X sc sc → Takes X W → PassesOwn (model X.prog X.w) X.A X.env X.xe → ∀ {tg e pos t}, cA N own (runF FT m) n sc tg e pos = some t → PS X (.Assign [tg] e pos) (lS T W t)
  ss : ∀ {X sc W}, XO T FT N own m X sc sc → Takes X W → PassesOwn (model X.prog X.w) X.A X.env X.xe → ∀ {sts t}, cSs N own (runF FT m) n sc sts = some t → PSs X sts (lS T W t)
theorem ssSs (ih : SS T FT N own m n) (o : XO T FT N own m X sc sc) (tk : Takes X W) (po : PassesOwn (model X.prog X.w) X.A X.env X.xe) {sts : List Stmt} {t : SA} (h : cSs N own (runF FT m) (n + 1) sc sts = some t) : PSs X sts (lS T W t) := by
  cases sts with
  | nil => simp only [cSs, Option.some.injEq] at h; subst h; exact b_nil
  | cons st sts =>
    simp only [cSs] at h
    split at h
    · rename_i t1 t2 h1 h2
      cases h
      exact b_cons (ih.s o tk po h1) (ih.ss o tk po h2)
    · cases h
theorem swap_attr {e o : Expr} {f : Str} {p : Pos} {l : Nat} {env : Env} : swapsWith e (some (.Attribute o f p)) l env = pure false := by cases e <;> rfl
theorem s_raise {e c : Option Expr} {p : Pos} : PS X (.Raise e c p) (lS T W fun _ _ _ => False) := ⟨fun pins s σ H D I ⟨_, _, _, _, _, h, _⟩ => h.elim⟩
theorem ssAs (o : XO T FT N own m X sc sc) (tk : Takes X W) (po : PassesOwn (model X.prog X.w) X.A X.env X.xe) {tg e : Expr} {pos : Pos} {t : SA} (h : cA N own (runF FT m) (n + 1) sc tg e pos = some t) : PS X (.Assign [tg] e pos) (lS T W t) := by
  have nd : X.N.Nodup := by rw [o.nm]; exact o.nd
  have ie := fun {e t} h => (sn_all (T := T) (FT := FT) (N := N) (own := own) (m := m) n).e o tk (e := e) (t := t) h
  cases tg with
  | Name x px =>
    simp only [cA] at h
    split at h
    · rename_i hl
      split at h
      · rename_i i t1 h1 h2
        have get : X.N[i]? = some x := by rw [o.nm]; exact ixOf_get h1
        split at h
        · rename_i elt gens scope cpos
          split at h
          · rename_i hcell
            cases h
            refine s_set nd get (o.loc hl) (ie h2) (swap_cell ?_) (o.fn hl)
            show X.env.scope.names.lookup x = _
            rw [o.scp]; simpa using hcell
          · rename_i hcell
            split at h
            · rename_i hc
              cases h
              simp only [Bool.and_eq_true, Bool.not_eq_true'] at hc
              have hloc : sc.names.lookup x = some .local := by
                unfold locB at hl
                split at hl
                · rename_i e; exact e
                · rename_i e; rw [e] at hcell; exact absurd (by decide) hcell
                · cases hl
              cases n with
              | zero => simp [cE] at h2
              | succ k =>
                obtain ⟨tg, iter, ifs, it, g, tt, te, rfl, rfl, a1, a2, a3, a4, a5, a6⟩ := snLc (sn_all k) o tk h2
                exact s_setLc o.calm nd get (by rw [o.scp]; exact hloc) (sw_true (by rw [o.scp]; exact o.kind) (by rw [o.scp]; exact hloc) hc.1 hc.2) a1 a2 a3 a4 a5 a6
            · cases h
        · split at h
          · cases h
          · rename_i hc
            cases h
            exact s_set nd get (o.loc hl) (ie h2) (swap_ok (by simpa using hc)) (o.fn hl)
      · cases h
    · cases h
  | Attribute ob f p2 =>
    simp only [cA] at h
    split at h
    · rename_i to te h1 h2
      cases h
      exact s_fld o.ck (ie h1) (ie h2) swap_attr
    · cases h
  | Subscript ob i p2 =>
    simp only [cA] at h
    split at h
    · cases h
    · rename_i hc
      simp only [Bool.or_eq_true, not_or, Bool.not_eq_true] at hc
      split at h
      · rename_i to ti te h1 h2 h3
        cases h
        exact s_asg (vs := []) (ie h3) (g_subD (by have := o.room.un; omega) (ie h1) (ie h2) (subStore_ok hc.1)) (swapSole_ok hc.2) (stores_one rfl) (assign1 rfl)
      · cases h
  | Tuple es k p2 =>
    simp only [cA] at h
    split at h
    · rename_i vs k2 pt2
      split at h
      · rename_i hsw
        split at h
        · rename_i t1 g h1 h2
          cases h
          exact s_asg (ie h1) (cG_of o h2) (swapSole_ok rfl) (sw_of (by rw [o.scp]; exact o.kind) (by rw [o.scp]; exact hsw)) (assign1 rfl)
        · cases h
      · rename_i x y hsw
        split at h
        · rename_i x' px y' py a b
          split at h
          · rename_i hc
            simp only [Bool.and_eq_true, decide_eq_true_eq, Bool.not_eq_true'] at hc
            obtain ⟨⟨⟨rfl, rfl⟩, ha⟩, hb⟩ := hc
            split at h
            · rename_i i j t1 h1 h2 h3
              split at h
              · rename_i hd
                cases h
                simp only [Bool.and_eq_true, decide_eq_true_eq, beq_iff_eq] at hd
                exact s_par o.calm nd (by rw [o.nm]; exact ixOf_get h1) (by rw [o.nm]; exact ixOf_get h2) hd.1.1 (by rw [o.scp]; exact hd.1.2) (by rw [o.scp]; exact hd.2) ((sn_all n).l o tk h3)
                  (sw_of (by rw [o.scp]; exact o.kind) (by rw [o.scp]; exact hsw)) (swapSole_ok rfl)
              · cases h
            · cases h
          · cases h
        · cases h
      · rename_i x y z hsw
        split at h
        · rename_i x' px y' py z' pz a b d
          split at h
          · rename_i hc
            simp only [Bool.and_eq_true, decide_eq_true_eq, Bool.not_eq_true'] at hc
            obtain ⟨⟨⟨⟨⟨rfl, rfl⟩, rfl⟩, ha⟩, hb⟩, hd⟩ := hc
            split at h
            · rename_i i j l t1 h1 h2 h3 h4
              split at h
              · rename_i hd
                cases h
                simp only [Bool.and_eq_true, decide_eq_true_eq, beq_iff_eq] at hd
                exact s_par3 o.calm nd (by rw [o.nm]; exact ixOf_get h1) (by rw [o.nm]; exact ixOf_get h2) (by rw [o.nm]; exact ixOf_get h3) hd.1.1.1.1.1 hd.1.1.1.1.2 hd.1.1.1.2 (by rw [o.scp]; exact hd.1.1.2) (by rw [o.scp]; exact hd.1.2) (by rw [o.scp]; exact hd.2) ((sn_all n).l o tk h4)
                  (sw_of (by rw [o.scp]; exact o.kind) (by rw [o.scp]; exact hsw)) (swapSole_ok rfl)
              · cases h
            · cases h
          · cases h
        · cases h
      · cases h
    · rename_i hnt
      split at h
      · cases h
      · rename_i hc
        split at h
        · rename_i t1 g h1 h2
          cases h
          refine s_asg (ie h1) (cG_of o h2) (swapSole_ok (by simpa using hc)) (stores_ok ?_) (assign1 rfl)
          cases e <;> first | rfl | exact absurd rfl (hnt _ _ _)
        · cases h
  | _ => simp [cA] at h
theorem ssS (ih : SS T FT N own m n) (o : XO T FT N own m X sc sc) (tk : Takes X W) (po : PassesOwn (model X.prog X.w) X.A X.env X.xe) {st : Stmt} {t : SA} (h : cS N own (runF FT m) (n + 1) sc st = some t) : PS X st (lS T W t) := by
  have ie := fun {e t} h => (sn_all (T := T) (FT := FT) (N := N) (own := own) (m := m) n).e o tk (e := e) (t := t) h
  cases st with
  | Pass p => simp only [cS, Option.some.injEq] at h; subst h; exact s_pass
  | Break p => simp only [cS, Option.some.injEq] at h; subst h; exact s_brk
  | Continue p => simp only [cS, Option.some.injEq] at h; subst h; exact s_cnt
  | Return e p =>
    simp only [cS] at h
    split at h
    · cases h; exact s_retN
    · simp only [Option.map_eq_some_iff] at h; obtain ⟨u, h1, rfl⟩ := h; exact s_ret (ie h1)
  | Expr e p =>
    simp only [cS] at h
    split at h
    · cases h; exact s_doc (j := none)
    · split at h
      · cases h
      · rename_i hc
        simp only [Option.map_eq_some_iff] at h; obtain ⟨u, h1, rfl⟩ := h; exact s_ex (ie h1) (swap_ok (by simpa using hc))
  | If q a b p =>
    simp only [cS] at h
    split at h
    · rename_i t1 u v h1 h2 h3
      cases h
      exact s_if ((sn_all n).b o tk h1) (ih.ss o tk po h2) (ih.ss o tk po h3)
    · cases h
  | For tg iter body orelse p =>
    simp only [cS] at h
    split at h
    · cases h
    · rename_i hc
      simp only [Bool.or_eq_true, not_or, Bool.not_eq_true, Bool.not_eq_false', List.isEmpty_iff] at hc
      split at h
      · rename_i it g t1 h1 h2 h3
        cases h
        obtain ⟨hs, hor⟩ := hc
        subst hor
        exact s_for po o.calm ((sn_all n).i o tk h1 hs) (cG_of o h2) (ih.ss o tk po h3) (folded_ok hs)
      · cases h
  | AugAssign tg op e p =>
    simp only [cS] at h
    split at h
    · rename_i ob i p2
      split at h
      · cases h
      · rename_i hc
        split at h
        · rename_i to ti te h1 h2 h3
          cases h
          exact s_aug o.ok.k (ie h1) (ie h2) (ie h3) (augStore_ok (by simpa using hc))
        · cases h
    · cases h
  | Raise e c p => simp only [cS, Option.some.injEq] at h; subst h; exact s_raise
  | Assign tgs e p =>
    simp only [cS] at h
    split at h
    · exact ih.a o tk po h
    · cases h
  | _ => simp [cS] at h
theorem ss_all : ∀ n, SS T FT N own m n
  | 0 => {
    s := by intro X sc W o tk po st t h; simp [cS] at h
    a := by intro X sc W o tk po tg e pos t h; simp [cA] at h
    ss := by intro X sc W o tk po sts t h; simp [cSs] at h }
  | n + 1 => {
    s := by intro X sc W o tk po st t h; exact ssS (ss_all n) o tk po h
    a := by intro X sc W o tk po tg e pos t h; exact ssAs o tk po h
    ss := by intro X sc W o tk po sts t h; exact ssSs (ss_all n) o tk po h }
end
end Q
/-! Q18: all defs of a text; the law's call. -/
namespace Q
open PySem PySem.Spec PyProof.Rows L2
/-- a def of the text by its compiled body -/
theorem fnG_comp {P : Program} {w : World} {K : PySem.W.Frag} {mg : Str → Option Value} {base : Heap} {T : Tx} {FT : FTab} {n k : Nat} {x qual : Str} {st : Stmt} {f : Addr} {fd : FuncData} {N ps : List Str} {F : String} {d : FD} {own : Pg} (hF : FunA K x qual st f fd) (S : FnScope N ps (defScope st))
    (hd : FT (Str.ofString F) = some d) (h1 : d.ps = ps.length) (h2 : d.slots = N.length) (hT : T.K = K)
    (hc : cSs N own (runF FT n) k (defScope st) (defBody st) = some (d.body (runF FT n)))
    (fns : ∀ x F, own.fn.lookup x = some F → ∃ f fd ps, FnG P w K mg base (L2.CX P w) (3 * n) f fd ps (spA T FT n F) ∧ mg x = some (.ref f) ∧ PySem.W.keepIn K (.ref f) = true ∧ Binds K fd ps [])
    (ck : ∀ X : Cx, X.prog = P → X.w = w → X.K = K → X.mg = mg → X.base = base → COk X T FT n own.cl own.df)
    (bl : ∀ x, own.fn.lookup x = none → x ∈ bltNames → mg x = none) (cs : ∀ x i, own.kc.lookup x = some i → ∃ t, mg x = some (.int i t)) : FnG P w K mg base (L2.CX P w) (3 * (n + 1)) f fd ps (spA T FT (n + 1) F) := by
  refine fnG_of (r := 3 * n + 2) hF S hd h1 h2 fun cdv A fr s H E hr hg => ?_
  have o : XO T FT N own n (cxOf (L2.CX P w) P w K mg base N qual (defScope st) f cdv A fr s H E) (defScope st) (defScope st) :=
    ⟨⟨hT⟩, rfl, S.nd, rfl, S.kind, rfl, hg, hr, (fun x hx => by
      unfold locB at hx
      split at hx
      · rename_i e; exact ⟨.inl e, .inl rfl⟩
      · rename_i e; exact ⟨.inr e, .inl rfl⟩
      · cases hx), fns, bl, cs, ck _ rfl rfl rfl rfl rfl⟩
  exact (ss_all k).ss o (takes_of rfl rfl rfl rfl) (passes_of rfl) hc
/-- what a text's def is: its key, name, the place in the top, names by slot, parameters -/
structure DI where
  key : String
  nm : Str
  qual : Str
  st : Stmt
  N : List Str
  ps : List Str
/-- one def as the top has left it -/
structure CodeAt (K : PySem.W.Frag) (i : DI) (f : Addr) (fd : FuncData) : Prop where
  fn : FunA K i.nm i.qual i.st f fd
  sc : FnScope i.N i.ps (defScope i.st)
structure DefAt (K : PySem.W.Frag) (mg : Str → Option Value) (i : DI) (f : Addr) (fd : FuncData) : Prop where
  fn : FunA K i.nm i.qual i.st f fd
  sc : FnScope i.N i.ps (defScope i.st)
  mg : mg (Str.ofString i.key) = some (.ref f)
  bd : Binds K fd i.ps []
  bd1 : ∀ (s : Shared) (us : List Value), us.length = i.ps.length → BindsTo s fd ⟨us, []⟩ (i.ps.zip us)
theorem DefAt.code {K : PySem.W.Frag} {mg : Str → Option Value} {i : DI} {f : Addr} {fd : FuncData} (d : DefAt K mg i f fd) : CodeAt K i f fd := ⟨d.fn, d.sc⟩
/-- what fills up -/
def DflOk (T : Tx) (K : PySem.W.Frag) (fd : FuncData) (ps : List Str) (as : List A) : Prop := ∃ us dvs, Vals dvs us ∧ (∀ (G : GS) H, RVs T G H as dvs) ∧ Binds K fd ps us
/-- what binds when it is called with keywords -/
def KwOk (T : Tx) (K : PySem.W.Frag) (fd : FuncData) (ps : List Str) (p : Nat × List Str × List A) : Prop := ∃ us dvs, Vals dvs us ∧ (∀ (G : GS) H, RVs T G H p.2.2 dvs) ∧
  ∀ (s : Shared) (vs ws : List Value), K.In s.heap → vs.length = p.1 → ws.length = p.2.1.length → BindsTo s fd ⟨vs, p.2.1.zip ws⟩ (ps.zip (vs ++ ws ++ us))
/-- a class as the top has left it -/
structure ClsAt (K : PySem.W.Frag) (mg : Str → Option Value) (T : Tx) (ds : List DI) (df : List (String × Nat × List A)) (C : Str) (ci : CI) (c : Addr) : Prop where
  mg : mg C = some (.ref c)
  x : ClsX K c
  ini : ∃ i ∈ ds, i.key = ci.init ∧ ∃ f fd, CodeAt K i f fd ∧ Mk K c f ∧ (ci.ko = false → Binds K fd i.ps []) ∧ (∀ k as, (ci.init, k, as) ∈ df → DflOk T K fd i.ps as) ∧ ∀ p ∈ ci.kws, KwOk T K fd i.ps p
  fl : ∀ g ∈ ci.fs, NoAttr K c g
  mt : ∀ mn F, ci.ms.lookup mn = some F → ∃ i ∈ ds, i.key = F ∧ ∃ f fd, CodeAt K i f fd ∧ Meth K c mn f ∧ Binds K fd i.ps [] ∧ ∀ k as, (F, k, as) ∈ df → DflOk T K fd i.ps as
  pr : ∀ mn F, ci.ps.lookup mn = some F → ∃ i ∈ ds, i.key = F ∧ ∃ p f fd, CodeAt K i f fd ∧ PropOf K c mn p f ∧ Binds K fd i.ps []
def cmOf (mg : Str → Option Value) (C : Str) : Option Addr := match mg C with
  | some (.ref c) => some c
  | _ => none
structure ClsAll (K : PySem.W.Frag) (mg : Str → Option Value) (T : Tx) (ds : List DI) (own : Pg) : Prop where
  at_ : ∀ C ci, own.cl.lookup C = some ci → ∃ c, ClsAt K mg T ds own.df C ci c
  two : ∀ C C' ci ci' c c', own.cl.lookup C = some ci → own.cl.lookup C' = some ci' → mg C = some (.ref c) → mg C' = some (.ref c') → PySem.W.kitOne K (.ref c) (.ref c') = some (decide (C = C')) ∧ PySem.W.notFirst K c (.ref c') = true
theorem cmOf_mg {mg : Str → Option Value} {C : Str} {c : Addr} (h : cmOf mg C = some c) : mg C = some (.ref c) := by
  unfold cmOf at h
  split at h
  · rename_i e; cases h; exact e
  · cases h
/-- all defs keep their promises, at every depth -/
theorem cok_of {P : Program} {w : World} {K : PySem.W.Frag} {mg : Str → Option Value} {base : Heap} {T : Tx} {FT : FTab} {n : Nat} {ds : List DI} {own : Pg} (hcm : T.cm = cmOf mg) (hc : ClsAll K mg T ds own)
    (F : ∀ i ∈ ds, ∀ f fd, CodeAt K i f fd → FnG P w K mg base (L2.CX P w) (3 * n) f fd i.ps (spA T FT n i.key)) (X : Cx) (e1 : X.prog = P) (e2 : X.w = w) (e3 : X.K = K) (e4 : X.mg = mg) (e5 : X.base = base) : COk X T FT n own.cl own.df := by
  subst e1; subst e2; subst e3; subst e4; subst e5
  have has : ∀ {i : DI} {f : Addr} {fd : FuncData}, i ∈ ds → CodeAt X.K i f fd → Binds X.K fd i.ps [] → HasFn X T FT n i.key f [] := fun {i f fd} hi D bd => ⟨fd, i.ps, [], [], F i hi f fd D, .nil, fun _ _ => by simp only [RVs], bd⟩
  have hasD : ∀ {i : DI} {f : Addr} {fd : FuncData} {as : List A}, i ∈ ds → CodeAt X.K i f fd → DflOk T X.K fd i.ps as → HasFn X T FT n i.key f as := fun {i f fd as} hi D ⟨us, dvs, a, b, c⟩ => ⟨fd, i.ps, us, dvs, F i hi f fd D, a, b, c⟩
  have adr : ∀ {C : Str} {c c' : Addr}, T.cm C = some c → X.mg C = some (.ref c') → c' = c := fun {C c c'} h1 h2 => by
    rw [hcm] at h1
    have := cmOf_mg h1
    rw [h2] at this
    cases this; rfl
  refine ⟨fun {C ci} hl => ?_, fun {C C' ci ci' c c'} hl hl' h h' => ?_, fun {C ci c} hl h => ?_, fun {C c g} hg h => ?_, fun {C c mn F'} hm h => ?_, fun {C c mn F'} hm h => ?_⟩
  · obtain ⟨c, A⟩ := hc.at_ C ci hl
    refine ⟨c, ?_, A.mg, A.x⟩
    rw [hcm]; unfold cmOf; rw [A.mg]
  · rw [hcm] at h h'
    exact hc.two C C' ci ci' c c' hl hl' (cmOf_mg h) (cmOf_mg h')
  · obtain ⟨c', A⟩ := hc.at_ C ci hl
    obtain rfl := adr h A.mg
    obtain ⟨i, hi, e, f, fd, D, M, bd, dk, kk⟩ := A.ini
    refine ⟨f, M, fun h0 => e ▸ has hi D (bd h0), fun k as z => e ▸ hasD hi D (dk k as z), fun p hp => ?_⟩
    obtain ⟨us, dvs, a, b, z⟩ := kk p hp
    exact ⟨fd, i.ps, us, dvs, e ▸ F i hi f fd D, a, b, z⟩
  · obtain ⟨ci, hl⟩ := isFl_cl hg
    obtain ⟨c', A⟩ := hc.at_ C ci hl
    obtain rfl := adr h A.mg
    unfold isFl at hg
    rw [hl] at hg
    exact A.fl g (by simpa using hg)
  · obtain ⟨ci, hl⟩ := mthOf_cl hm
    obtain ⟨c', A⟩ := hc.at_ C ci hl
    obtain rfl := adr h A.mg
    unfold mthOf at hm
    rw [hl] at hm
    obtain ⟨i, hi, e, f, fd, D, M, bd, dk⟩ := A.mt mn F' hm
    exact ⟨f, M, e ▸ has hi D bd, fun k as z => e ▸ hasD hi D (dk k as z)⟩
  · obtain ⟨ci, hl⟩ := prpOf_cl hm
    obtain ⟨c', A⟩ := hc.at_ C ci hl
    obtain rfl := adr h A.mg
    unfold prpOf at hm
    rw [hl] at hm
    obtain ⟨i, hi, e, p, f, fd, D, M, bd⟩ := A.pr mn F' hm
    exact ⟨p, f, M, e ▸ has hi D bd⟩
theorem all_defs {P : Program} {w : World} {K : PySem.W.Frag} {mg : Str → Option Value} {base : Heap} {T : Tx} {FT : FTab} {k : Nat} {ds : List DI} {own : Pg} (hT : T.K = K) (hcm : T.cm = cmOf mg)
    (hown : ∀ x F, own.fn.lookup x = some F → ∃ i ∈ ds, i.key = F ∧ ∃ f fd, CodeAt K i f fd ∧ mg x = some (.ref f) ∧ Binds K fd i.ps [])
    (hc : ClsAll K mg T ds own)
    (hFT : ∀ i ∈ ds, ∃ d, FT (Str.ofString i.key) = some d ∧ d.ps = i.ps.length ∧ d.slots = i.N.length ∧ ∀ c, cSs i.N own c k (defScope i.st) (defBody i.st) = some (d.body c))
    (bl : ∀ x, own.fn.lookup x = none → x ∈ bltNames → mg x = none) (cs : ∀ x i, own.kc.lookup x = some i → ∃ t, mg x = some (.int i t)) :
    ∀ (n : Nat) (i : DI), i ∈ ds → ∀ f fd, CodeAt K i f fd → FnG P w K mg base (L2.CX P w) (3 * n) f fd i.ps (spA T FT n i.key)
  | 0, i, hi, f, fd, D => ⟨fun vs H Q E h => by obtain ⟨_, _, _, _, _, _, z, _⟩ := h; exact False.elim z, fun A _ _ fr s H as us vs Q E _ _ _ h => by obtain ⟨_, _, _, _, _, _, z, _⟩ := h; exact False.elim z⟩
  | n + 1, i, hi, f, fd, D => by
    obtain ⟨d, e, e1, e2, hcc⟩ := hFT i hi
    refine fnG_comp D.fn D.sc e e1 e2 hT (hcc _) (fun x F h => ?_) (cok_of hcm hc (all_defs hT hcm hown hc hFT bl cs n)) bl cs
    obtain ⟨j, hj, rfl, g, gd, Dj, hm, bd⟩ := hown x F h
    exact ⟨g, gd, j.ps, all_defs hT hcm hown hc hFT bl cs n j hj g gd Dj, hm, Dj.fn.kp, bd⟩
/-- the heap of the law's entry: the script alone, where it is no object of the top -/
def scriptH (K : PySem.W.Frag) (a : Addr) (o : Obj) (xs : List V) : Hp := fun b => if b = a ∧ K.lookup a = none then some (.frz o (.lst xs)) else none
theorem scriptH_cases {K : PySem.W.Frag} {a b : Addr} {o : Obj} {xs : List V} {u : HO} (h : scriptH K a o xs b = some u) : b = a ∧ K.lookup a = none ∧ u = .frz o (.lst xs) := by
  unfold scriptH at h
  split at h
  · rename_i c; cases h; exact ⟨c.1, c.2, rfl⟩
  · cases h
theorem law_run {P : Program} {w : World} {K : PySem.W.Frag} {mg mb : Str → Option Value} {n : Nat} {fa a : Addr} {fd : FuncData} {x : Str} {s₁ : Shared} {vs : List Value} {ns : List Int} {T : Tx} {FT : FTab} {F : String}
    (KX : K.In s₁.heap) (hns : s₁.heap.Ns mainGlobals mg) (hb : s₁.heap.Ns builtinsNs mb) (hbb : ∀ x : Str, x ≠ "__name__" → mb x = bootBuiltins x) (hlim : s₁.heap.NoLimit) (hg : s₁.gens = #[])
    (ha : s₁.heap.get? a = some { cls := .type "list", data := .seq vs.toArray }) (hi : IntsAre vs ns) (hl : ns.length ≤ sizeLine) (hr : Room (3 * n) callerA) (hT : T.K = K)
    (FN : ∀ base : Heap, FnG P w K mg base (L2.CX P w) (3 * n) fa fd [x] (spA T FT n F)) (hbind : ∀ (s : Shared) (u : Value), BindsTo s fd ⟨[u], []⟩ [(x, u)])
    (run : runF FT n F [.scr (ns.map A.int)] (fun _ => none) (fun v _ => v = .bl true) (fun _ _ => False)) :
    codeAny (model P w) callerA (.call (.ref fa) ⟨[.ref a], []⟩) (fun r s' => r = .ok (.ret (.bool true)) ∧ OldK s₁.heap s'.heap ∧ s'.os = s₁.os ∧ AllBare s'.gens) s₁ := by
  have rv : Vals (ns.map V.int) vs := vals_of_ints hi
  generalize hH : scriptH K a { cls := .type "list", data := .seq vs.toArray } (ns.map V.int) = H
  have only : ∀ b u, H b = some u → b = a ∧ K.lookup a = none ∧ u = .frz { cls := .type "list", data := .seq vs.toArray } (.lst (ns.map V.int)) := fun b u h => by rw [← hH] at h; exact scriptH_cases h
  have sq : ScrAt T ⟨fun _ => none, fun b => H b ≠ none⟩ H a (ns.map V.int) := by
    cases hk : K.lookup a with
    | none =>
      have e : H a = some (.frz { cls := .type "list", data := .seq vs.toArray } (.lst (ns.map V.int))) := by rw [← hH]; unfold scriptH; rw [if_pos ⟨rfl, hk⟩]
      exact .inl ⟨⟨by show H a ≠ none; rw [e]; simp, rfl⟩, .inr ⟨_, e⟩⟩
    | some o =>
      have e := KX a o hk
      rw [ha] at e
      cases e
      exact .inr (.inr ⟨_, vs.toArray, _, hT ▸ hk, rfl, rfl, rfl, by rw [List.size_toArray, hi.length]; exact hl, by simpa using rv⟩)
  have hok : HOk P w H s₁.heap := fun b u h => by
    obtain ⟨rfl, _, rfl⟩ := only b u h
    exact ⟨ha, by rw [List.length_map]; exact hl, vs, _, rv, ha⟩
  have keepK : ∀ {b : Addr} {o : Obj}, s₁.heap.get? b = some o → (b = a → K.lookup a ≠ none) → (hidT s₁.heap H).get? b = some o := fun {b o} e h => hidT_get e (by
    cases q : H b with
    | none => rfl
    | some u => obtain ⟨z1, z2, _⟩ := only b u q; exact absurd z2 (h z1))
  have keepD : ∀ {b : Addr} {m : Str → Option Value}, s₁.heap.Ns b m → (hidT s₁.heap H).Ns b m := fun {b m} ⟨o, es, ep, e, d, r⟩ => ⟨o, es, ep, hidT_get e (by
    cases q : H b with
    | none => rfl
    | some u =>
      obtain ⟨z1, _, _⟩ := only b u q
      subst z1
      rw [ha] at e
      cases e
      cases d), d, r⟩
  have M : Mod K mg (hidT s₁.heap H) := ⟨fun b o e => keepK (KX b o e) (fun z => by subst z; rw [e]; exact fun q => nomatch q), keepD hns, ⟨mb, keepD hb, hbb⟩, let ⟨mc, h1, h2⟩ := hlim; ⟨mc, keepD h1, h2⟩⟩
  have e0 : Env0 P w K mg (hidT s₁.heap H) callerA [] s₁ H := ⟨rfl, M, fun b o e => of_hidT e, Nat.le_of_eq (hidT_size _ _), trivial, (fun b hb => by cases hb), hok, .of_eq hg⟩
  have prom : spA T FT n F [.ref a] H (fun v _ => v = .bl true) fun _ _ _ => False := by
    refine ⟨[.scr (ns.map A.int)], ⟨fun _ => none, fun b => H b ≠ none⟩, _, _, .one ?_, ⟨(fun b o z => by cases z), fun b z => z⟩, run, fun a' G' v H' z r _ _ => ?_, fun _ _ _ _ _ z _ _ _ => z⟩
    · simp only [RV]
      refine ⟨a, ns.map V.int, rfl, sq, ?_⟩
      clear run hi rv hH only sq hok keepK keepD M e0
      induction ns with
      | nil => simp only [List.map_nil, RVs]
      | cons i is ih => exact .cons (rv_i i) (ih (by simp at hl; omega))
    · subst z; simpa only [RV] using r
  refine codeAny_mono ((FN _).run callerA hr rfl [] s₁ H ⟨[.ref a], []⟩ [.ref a] [.ref a] _ _ e0 (hbind s₁ (.ref a)) (.cons rfl .nil) prom) fun r s' h => ?_
  match r, h with
  | .error e, h =>
    obtain ⟨_, _, _, _, _, _, _, _, _, _, _, _, z⟩ := h
    exact z.elim
  | .ok (.ret u), ⟨v, H', os, bare, un, hok', r', q⟩ =>
    have q' : v = .bl true := q
    subst q'
    obtain rfl : u = Value.bool true := r'
    refine ⟨rfl, OldK.of_keep fun b o e => ?_, os, bare⟩
    cases q : H b with
    | none => exact un.keep b o e q (by intro z; cases z) (by intro z; cases z)
    | some u =>
      obtain ⟨rfl, _, rfl⟩ := only b u q
      obtain ⟨e1, _⟩ := hok' b _ (un.frzs b _ _ q)
      rw [ha] at e
      cases e
      exact e1
end Q
/-! Q19: the end of a law's proof. -/
namespace Q
open PySem PySem.Spec PyProof.Rows L2
theorem all_nil {P : DI → Prop} : ∀ i ∈ ([] : List DI), P i := fun _ h => nomatch h
theorem all_cons {P : DI → Prop} {d : DI} {ds : List DI} (h : P d) (t : ∀ i ∈ ds, P i) : ∀ i ∈ d :: ds, P i := fun i hi => by
  rcases List.mem_cons.mp hi with rfl | hi
  · exact h
  · exact t i hi
theorem lookup_all {P : Str → Int → Prop} : ∀ {l : List (Str × Int)}, (∀ p ∈ l, P p.1 p.2) → ∀ x i, l.lookup x = some i → P x i
  | [], _, _, _, h => by simp at h
  | (y, j) :: l, hp, x, i, h => by
    simp only [List.lookup_cons] at h
    split at h
    · rename_i e
      cases h
      have := hp (y, j) (by simp)
      rwa [show x = y by simpa using e]
    · exact lookup_all (fun q hq => hp q (by simp [hq])) x i h
def ownL (ds : List DI) : List (Str × String) := ds.map fun i => (Str.ofString i.key, i.key)
theorem own_of {K : PySem.W.Frag} {mg : Str → Option Value} : ∀ {ds all : List DI} {x : Str} {F : String}, (∀ i ∈ ds, i ∈ all ∧ ∃ f fd, DefAt K mg i f fd) → (ownL ds).lookup x = some F → ∃ i ∈ all, i.key = F ∧ ∃ f fd, CodeAt K i f fd ∧ mg x = some (.ref f) ∧ Binds K fd i.ps []
  | [], all, x, F, _, h => by simp [ownL] at h
  | d :: ds, all, x, F, hat, h => by
    simp only [ownL, List.map_cons, List.lookup_cons] at h
    split at h
    · rename_i e
      cases h
      obtain ⟨h1, f, fd, D⟩ := hat d (by simp)
      exact ⟨d, h1, rfl, f, fd, D.code, by rw [show x = Str.ofString d.key by simpa using e]; exact D.mg, D.bd⟩
    · exact own_of (ds := ds) (fun i hi => hat i (by simp [hi])) h
section
variable {K : PySem.W.Frag} {mg : Str → Option Value} {h : Heap} {key : String} {nm qual : Str} {st : Stmt} {N ps : List Str} {f : Addr} {oc : Value} {od an : Option Addr} {osl : Array (Option Value)} {kV doc pm cdv ct : Value}
theorem def_mk (X : K.In h) (G : h.Ns mainGlobals mg)
    (S : FnScope N ps (defScope st)) (hb : ∀ (kV doc pm : Value) (an : Option Addr) (cdv ct : Value) (us : List Value), us.length = ps.length → bindArgs (PySem.W.fnOf nm qual (defArgs st) (defBody st) (defScope st) .none kV doc pm an cdv ct) ⟨us, []⟩ = pure (ps.zip us))
    (a : PySem.W.nsIn K mainGlobals (Str.ofString key) = some (some (.ref f))) (l : K.lookup f = some ⟨oc, od, .func (PySem.W.fnOf nm qual (defArgs st) (defBody st) (defScope st) .none kV doc pm an cdv ct), osl⟩)
    (c : PySem.W.codeIn K cdv qual = true) (k : PySem.W.keepIn K (.ref f) = true) :
    ∃ f fd, DefAt K mg ⟨key, nm, qual, st, N, ps⟩ f fd := by
  have F : FunA K nm qual st f (PySem.W.fnOf nm qual (defArgs st) (defBody st) (defScope st) .none kV doc pm an cdv ct) := ⟨⟨oc, od, _, kV, doc, pm, an, cdv, ct, osl, rfl, l, c⟩, k⟩
  have bd1 : ∀ (s : Shared) (us : List Value), us.length = ps.length → BindsTo s (PySem.W.fnOf nm qual (defArgs st) (defBody st) (defScope st) .none kV doc pm an cdv ct) ⟨us, []⟩ (ps.zip us) := fun s us hl => .of_eq (hb kV doc pm an cdv ct us hl)
  exact ⟨f, _, F, S, PySem.W.mg_of X G a, .all (hb kV doc pm an cdv ct), bd1⟩
/-- a method without defaults -/
theorem meth_mk {C : Addr} {mn : Str} (S : FnScope N ps (defScope st)) (hb : ∀ (kV doc pm : Value) (an : Option Addr) (cdv ct : Value) (us : List Value), us.length = ps.length → bindArgs (PySem.W.fnOf nm qual (defArgs st) (defBody st) (defScope st) .none kV doc pm an cdv ct) ⟨us, []⟩ = pure (ps.zip us))
    (a : PySem.W.findIn K (.ref C) mn = some (some (.ref f))) (l : K.lookup f = some ⟨oc, od, .func (PySem.W.fnOf nm qual (defArgs st) (defBody st) (defScope st) .none kV doc pm an cdv ct), osl⟩)
    (c : PySem.W.codeIn K cdv qual = true) (k : PySem.W.keepIn K (.ref f) = true) (fn : PySem.W.isFn K (.ref f) = true) :
    ∃ f fd, CodeAt K ⟨key, nm, qual, st, N, ps⟩ f fd ∧ Meth K C mn f ∧ Binds K fd ps [] := by
  have F : FunA K nm qual st f (PySem.W.fnOf nm qual (defArgs st) (defBody st) (defScope st) .none kV doc pm an cdv ct) := ⟨⟨oc, od, _, kV, doc, pm, an, cdv, ct, osl, rfl, l, c⟩, k⟩
  exact ⟨f, _, ⟨F, S⟩, ⟨a, fn, k⟩, .all (hb kV doc pm an cdv ct)⟩
/-- a method with one default, the empty tuple, for its last parameter -/
theorem methT_mk {T : Tx} {C : Addr} {mn : Str} {Tp p : Addr} {o : Obj} {n n' : Nat} {sl : Array (Option Value)} {dd : Option Addr} (hT : T.K = K) (S : FnScope N ps (defScope st))
    (hb : ∀ (Tp : Addr) (kV doc pm : Value) (an : Option Addr) (cdv ct : Value) (us its : List Value), us.length = ps.length → its.length = 1 → ∃ g, bindArgs (PySem.W.fnOf nm qual (defArgs st) (defBody st) (defScope st) (.ref Tp) kV doc pm an cdv ct) ⟨us, []⟩ = seqItems? (.ref Tp) >>= g ∧ g (some its.toArray) = pure (ps.zip us))
    (hb1 : ∀ (Tp : Addr) (kV doc pm : Value) (an : Option Addr) (cdv ct : Value) (us its : List Value), us.length + 1 = ps.length → its.length = 1 → ∃ g, bindArgs (PySem.W.fnOf nm qual (defArgs st) (defBody st) (defScope st) (.ref Tp) kV doc pm an cdv ct) ⟨us, []⟩ = seqItems? (.ref Tp) >>= g ∧ g (some its.toArray) = pure (ps.zip (us ++ its)))
    (a : PySem.W.findIn K (.ref C) mn = some (some (.ref f))) (l : K.lookup f = some ⟨oc, od, .func (PySem.W.fnOf nm qual (defArgs st) (defBody st) (defScope st) (.ref Tp) kV doc pm an cdv ct), osl⟩)
    (lT : K.lookup Tp = some ⟨.type "tuple", dd, .seq #[.ref p] n, sl⟩) (lp : K.lookup p = some o) (oc' : o.cls = .type "tuple") (od' : o.data = .seq #[] n')
    (c : PySem.W.codeIn K cdv qual = true) (k : PySem.W.keepIn K (.ref f) = true) (fn : PySem.W.isFn K (.ref f) = true) :
    ∃ f fd, CodeAt K ⟨key, nm, qual, st, N, ps⟩ f fd ∧ Meth K C mn f ∧ Binds K fd ps [] ∧ DflOk T K fd ps [.tup []] := by
  have F : FunA K nm qual st f (PySem.W.fnOf nm qual (defArgs st) (defBody st) (defScope st) (.ref Tp) kV doc pm an cdv ct) := ⟨⟨oc, od, _, kV, doc, pm, an, cdv, ct, osl, rfl, l, c⟩, k⟩
  refine ⟨f, _, ⟨F, S⟩, ⟨a, fn, k⟩, fun s us X hl => ?_, [.ref p], [.ref p], .cons rfl .nil, fun G H => ?_, fun s us X hl => ?_⟩
  · rw [List.append_nil] at hl ⊢
    obtain ⟨g, e1, e2⟩ := hb Tp kV doc pm an cdv ct us [.ref p] hl rfl
    refine BindsTo.of_looks fun M => ?_
    rw [e1]
    exact looks_items (its := #[.ref p]) X lT rfl (.of_pure e2)
  · refine .one ?_
    simp only [RV]
    exact ⟨p, [], rfl, .inr ⟨rfl, .inr ⟨o, #[], n', hT ▸ lp, oc', od', Nat.zero_le _, .nil⟩⟩, by simp only [RVs]⟩
  · obtain ⟨g, e1, e2⟩ := hb1 Tp kV doc pm an cdv ct us [.ref p] (by simpa using hl) rfl
    refine BindsTo.of_looks fun M => ?_
    rw [e1]
    exact looks_items (its := #[.ref p]) X lT rfl (.of_pure e2)
/-- a method that is called with all its keywords -/
theorem methK_mk {T : Tx} {C : Addr} {mn : Str} {Tp : Addr} {its : Array Value} {n' n : Nat} {ks : List Str} {sl : Array (Option Value)} {dd : Option Addr} {oc2 : Value} (S : FnScope N ps (defScope st))
    (hb : ∀ (Tp : Addr) (kV doc pm : Value) (an : Option Addr) (cdv ct : Value) (us ws its : List Value), us.length = n → ws.length = ks.length → its.length = n' → ∃ g, bindArgs (PySem.W.fnOf nm qual (defArgs st) (defBody st) (defScope st) (.ref Tp) kV doc pm an cdv ct) ⟨us, ks.zip ws⟩ = seqItems? (.ref Tp) >>= g ∧ g (some its.toArray) = pure (ps.zip (us ++ ws)))
    (a : PySem.W.findIn K (.ref C) mn = some (some (.ref f))) (l : K.lookup f = some ⟨oc, od, .func (PySem.W.fnOf nm qual (defArgs st) (defBody st) (defScope st) (.ref Tp) kV doc pm an cdv ct), osl⟩)
    (lT : K.lookup Tp = some ⟨oc2, dd, .seq its m', sl⟩) (hi : its.size = n')
    (c : PySem.W.codeIn K cdv qual = true) (k : PySem.W.keepIn K (.ref f) = true) (fn : PySem.W.isFn K (.ref f) = true) :
    ∃ f fd, CodeAt K ⟨key, nm, qual, st, N, ps⟩ f fd ∧ Meth K C mn f ∧ KwOk T K fd ps (n, ks, []) := by
  have F : FunA K nm qual st f (PySem.W.fnOf nm qual (defArgs st) (defBody st) (defScope st) (.ref Tp) kV doc pm an cdv ct) := ⟨⟨oc, od, _, kV, doc, pm, an, cdv, ct, osl, rfl, l, c⟩, k⟩
  refine ⟨f, _, ⟨F, S⟩, ⟨a, fn, k⟩, [], [], .nil, fun G H => by simp only [RVs], fun s us ws X h1 h2 => ?_⟩
  obtain ⟨g, e1, e2⟩ := hb Tp kV doc pm an cdv ct us ws its.toList h1 h2 (by simpa using hi)
  refine BindsTo.of_looks fun M => ?_
  rw [e1, List.append_nil]
  exact looks_items (its := its) X lT rfl (.of_pure (by simpa using e2))
/-- a property -/
theorem prop_mk {C p : Addr} {mn : Str} {rest : List Value} (S : FnScope N ps (defScope st)) (hb : ∀ (kV doc pm : Value) (an : Option Addr) (cdv ct : Value) (us : List Value), us.length = ps.length → bindArgs (PySem.W.fnOf nm qual (defArgs st) (defBody st) (defScope st) .none kV doc pm an cdv ct) ⟨us, []⟩ = pure (ps.zip us))
    (a : PySem.W.findIn K (.ref C) mn = some (some (.ref p))) (g : PySem.W.specialIn K (.ref p) "__get__" = some (some (.builtin "property.__get__"))) (t : PySem.W.takesIn K (.ref p) = some true) (r : PySem.W.recIn K p "property" = some (.ref f :: rest))
    (l : K.lookup f = some ⟨oc, od, .func (PySem.W.fnOf nm qual (defArgs st) (defBody st) (defScope st) .none kV doc pm an cdv ct), osl⟩)
    (c : PySem.W.codeIn K cdv qual = true) (k : PySem.W.keepIn K (.ref f) = true) :
    ∃ p f fd, CodeAt K ⟨key, nm, qual, st, N, ps⟩ f fd ∧ PropOf K C mn p f ∧ Binds K fd ps [] := by
  have F : FunA K nm qual st f (PySem.W.fnOf nm qual (defArgs st) (defBody st) (defScope st) .none kV doc pm an cdv ct) := ⟨⟨oc, od, _, kV, doc, pm, an, cdv, ct, osl, rfl, l, c⟩, k⟩
  exact ⟨p, f, _, ⟨F, S⟩, ⟨a, g, t, rest, r⟩, .all (hb kV doc pm an cdv ct)⟩
end
theorem walkG {l : PySem.W.OpenLaw} {n k : Nat} {q : Program} {loose : List Str} {XP : (Str → Option Value) → Heap → Prop} {YP : World → Heap → Prop} {d : DefRec} {K : Params → PySem.W.Frag} {x : Str} {FT : FTab} {F : String}
    (hn : l.most = some n) (hn2 : n ≤ sizeLine) (hdf : d.params.defaults = []) (hr : Room (3 * k) callerA) (hY : ∀ (w : World) (h : Heap), YP w h → (K w.params).In h)
    (D : ∀ (w : World) (mg : Str → Option Value) (fa : Addr) (h : Heap), (K w.params).In h → h.Ns mainGlobals mg → mg d.name = some (.ref fa) →
      ∃ fd : FuncData, (∀ (s : Shared) (u : Value), BindsTo s fd ⟨[u], []⟩ [(x, u)]) ∧ ∀ base : Heap, FnG l.prog w (K w.params) mg base (L2.CX l.prog w) (3 * k) fa fd [x] (spA ⟨K w.params, cmOf mg⟩ FT k F))
    (run : ∀ ns : List Int, ns.length ≤ n → runF FT k F [.scr (ns.map A.int)] (fun _ => none) (fun v _ => v = .bl true) (fun _ _ => False)) : PySem.W.WalkO q loose XP YP l.row.toRowW d [] (fun f vs => PySem.call f vs) := by
  refine Att.attach_call hn hdf fun w s₀ s₁ mg mb fa o pm cd doc a vs ns G Y ho hd hcd hmg hobj hints hlen hg => ?_
  have KX := hY w _ Y
  obtain ⟨fd, hb, hF⟩ := D w mg fa _ KX G.T.g hmg
  exact law_run (T := ⟨K w.params, cmOf mg⟩) KX G.T.g G.T.b G.T.builtins G.T.nolimit hg hobj hints (Nat.le_trans hlen hn2) hr rfl hF hb (run ns hlen)
end Q
/-! N20: a class as the top has left it. -/
namespace Q
open PySem PySem.Spec PyProof.Rows L2
section
variable {K : PySem.W.Frag} {mg : Str → Option Value} {h : Heap} {T : Tx} {ds : List DI} {df : List (String × Nat × List A)} {C : Str} {ci : CI} {c : Addr} {own : Pg}
theorem kn_all {P : String → Prop} (a : P "NoneType") (b : P "bool") (c : P "int") (d : P "str") (e : P "tuple") (f : P "list") (g : P "dict") : ∀ n ∈ kindNames, P n := by
  intro n hn
  simp only [kindNames, List.mem_cons, List.not_mem_nil, or_false] at hn
  rcases hn with rfl | rfl | rfl | rfl | rfl | rfl | rfl <;> assumption
def MtAll (K : PySem.W.Frag) (T : Tx) (ds : List DI) (df : List (String × Nat × List A)) (c : Addr) (ms : List (Str × String)) : Prop :=
  ∀ mn F, ms.lookup mn = some F → ∃ i ∈ ds, i.key = F ∧ ∃ f fd, CodeAt K i f fd ∧ Meth K c mn f ∧ Binds K fd i.ps [] ∧ ∀ k as, (F, k, as) ∈ df → DflOk T K fd i.ps as
theorem mt_nil : MtAll K T ds df c [] := fun mn F h => by simp at h
theorem mt_cons {i : DI} {mn : Str} {F : String} {r : List (Str × String)} (hi : i ∈ ds) (hk : i.key = F) (D : ∃ f fd, CodeAt K i f fd ∧ Meth K c mn f ∧ Binds K fd i.ps []) (hz : ∀ k as, (F, k, as) ∉ df) (hr : MtAll K T ds df c r) : MtAll K T ds df c ((mn, F) :: r) := by
  intro mn' F' h
  rw [List.lookup_cons] at h
  split at h
  · rename_i e
    cases h
    obtain ⟨f, fd, a, b, bd⟩ := D
    exact ⟨i, hi, hk, f, fd, a, by rw [show mn' = mn by simpa using e]; exact b, bd, fun k as z => absurd z (hz k as)⟩
  · exact hr mn' F' h
theorem fl_nil {P : Str → Prop} : ∀ g ∈ ([] : List Str), P g := fun _ h => nomatch h
theorem fl_cons {P : Str → Prop} {x : Str} {r : List Str} (a : P x) (b : ∀ g ∈ r, P g) : ∀ g ∈ x :: r, P g := fun g hg => by
  rcases List.mem_cons.mp hg with rfl | hg
  · exact a
  · exact b g hg
def IniOk (K : PySem.W.Frag) (T : Tx) (ds : List DI) (df : List (String × Nat × List A)) (c : Addr) (ci : CI) : Prop :=
  ∃ i ∈ ds, i.key = ci.init ∧ ∃ f fd, CodeAt K i f fd ∧ Meth K c "__init__" f ∧ (ci.ko = false → Binds K fd i.ps []) ∧ (∀ k as, (ci.init, k, as) ∈ df → DflOk T K fd i.ps as) ∧ ∀ p ∈ ci.kws, KwOk T K fd i.ps p
theorem ini_of0 {i : DI} (hi : i ∈ ds) (hk : i.key = ci.init) (D : ∃ f fd, CodeAt K i f fd ∧ Meth K c "__init__" f ∧ Binds K fd i.ps []) (hw : ci.kws = []) (hz : ∀ k as, (ci.init, k, as) ∉ df) : IniOk K T ds df c ci := by
  obtain ⟨f, fd, a, b, bd⟩ := D
  exact ⟨i, hi, hk, f, fd, a, b, fun _ => bd, fun k as z => absurd z (hz k as), fun p hp => by rw [hw] at hp; cases hp⟩
theorem ini_of {i : DI} (hi : i ∈ ds) (hk : i.key = ci.init) (D : ∃ f fd, CodeAt K i f fd ∧ Meth K c "__init__" f ∧ Binds K fd i.ps [] ∧ DflOk T K fd i.ps [.tup []]) (hw : ci.kws = []) (hz : ∀ k as, (ci.init, k, as) ∈ df → as = [.tup []]) : IniOk K T ds df c ci := by
  obtain ⟨f, fd, a, b, bd, d⟩ := D
  exact ⟨i, hi, hk, f, fd, a, b, fun _ => bd, fun k as z => by rw [hz k as z]; exact d, fun p hp => by rw [hw] at hp; cases hp⟩
theorem ini_ofK {i : DI} {p : Nat × List Str × List A} (hi : i ∈ ds) (hk : i.key = ci.init) (D : ∃ f fd, CodeAt K i f fd ∧ Meth K c "__init__" f ∧ KwOk T K fd i.ps p) (hw : ci.kws = [p]) (ho : ci.ko = true) (hz : ∀ k as, (ci.init, k, as) ∉ df) : IniOk K T ds df c ci := by
  obtain ⟨f, fd, a, b, d⟩ := D
  refine ⟨i, hi, hk, f, fd, a, b, fun h => ?_, fun k as z => absurd z (hz k as), fun q hq => ?_⟩
  · rw [ho] at h; cases h
  · rw [hw, List.mem_singleton] at hq; subst hq; exact d
def PrAll (K : PySem.W.Frag) (ds : List DI) (c : Addr) (ms : List (Str × String)) : Prop :=
  ∀ mn F, ms.lookup mn = some F → ∃ i ∈ ds, i.key = F ∧ ∃ p f fd, CodeAt K i f fd ∧ PropOf K c mn p f ∧ Binds K fd i.ps []
theorem pr_nil : PrAll K ds c [] := fun mn F h => by simp at h
theorem pr_cons {i : DI} {mn : Str} {F : String} {r : List (Str × String)} (hi : i ∈ ds) (hk : i.key = F) (D : ∃ p f fd, CodeAt K i f fd ∧ PropOf K c mn p f ∧ Binds K fd i.ps []) (hr : PrAll K ds c r) : PrAll K ds c ((mn, F) :: r) := by
  intro mn' F' h
  rw [List.lookup_cons] at h
  split at h
  · rename_i e
    cases h
    obtain ⟨p, f, fd, a, b, bd⟩ := D
    exact ⟨i, hi, hk, p, f, fd, a, by rw [show mn' = mn by simpa using e]; exact b, bd⟩
  · exact hr mn' F' h
theorem cls_mk (X : K.In h) (G : h.Ns mainGlobals mg) (a : PySem.W.nsIn K mainGlobals C = some (some (.ref c))) (pg : PySem.W.plainGet K c Str.empty = true) (hd : PySem.W.hasDictIn K c = true) (po : PySem.W.plainOver K c = true)
    (sa : PySem.W.findIn K (.ref c) "__setattr__" = some (some (.builtin "object.__setattr__"))) (sf : PySem.W.selfFirst K c = true) (ne : PySem.W.findIn K (.ref c) "__ne__" = some (some (.builtin "object.__ne__"))) (mo : PySem.W.mroIn K c (.type "object") = some true)
    (ka : PySem.W.findIn K (.ref c) "__class__" = some (some (.builtin "object.__class__"))) (kn : PySem.W.specialIn K (.builtin "object.__class__") "__get__" = some (some (.builtin "getset_descriptor.__get__"))) (kt : PySem.W.takesIn K (.builtin "object.__class__") = some true)
    (sub : ∀ n ∈ kindNames, PySem.W.subIn K (.type n) (.ref c) = some false) (kit : ∀ n ∈ kindNames, PySem.W.kitOne K (.type n) (.ref c) = some false) (mks : PySem.W.makesIn K c = true) (kp : PySem.W.keepIn K (.ref c) = true)
    (ini : IniOk K T ds df c ci) (fl : ∀ g ∈ ci.fs, NoAttr K c g) (mt : MtAll K T ds df c ci.ms) (pr : PrAll K ds c ci.ps) : ∃ c, ClsAt K mg T ds df C ci c := by
  obtain ⟨i, hi, hk, f, fd, D, M, z⟩ := ini
  exact ⟨c, PySem.W.mg_of X G a, ⟨⟨pg, hd, po, sa⟩, sf, ne, mo, ka, kn, kt, sub, kit⟩, ⟨i, hi, hk, f, fd, D, ⟨mks, M.at_, M.fn, kp⟩, z⟩, fl, mt, pr⟩
theorem lookup_all' {P : Str → CI → Prop} : ∀ {l : CT}, (∀ p ∈ l, P p.1 p.2) → ∀ x i, l.lookup x = some i → P x i
  | [], _, _, _, h => by simp at h
  | (y, j) :: l, hp, x, i, h => by
    simp only [List.lookup_cons] at h
    split at h
    · rename_i e
      cases h
      have := hp (y, j) (by simp)
      rwa [show x = y by simpa using e]
    · exact lookup_all' (fun q hq => hp q (by simp [hq])) x i h
theorem lookup_mem {l : CT} {x : Str} {i : CI} (h : l.lookup x = some i) : (x, i) ∈ l := lookup_all' (P := fun x i => (x, i) ∈ l) (fun p hp => hp) x i h
/-- one class alone -/
theorem cls_one {n : Str} {i : CI} (hl : own.cl = [(n, i)]) (h : ∃ c, ClsAt K mg T ds own.df n i c) : ClsAll K mg T ds own := by
  refine ⟨fun C ci e => ?_, fun C C' ci ci' c c' e e' m m' => ?_⟩
  · have := lookup_mem e
    rw [hl] at this
    simp only [List.mem_cons, List.not_mem_nil, or_false, Prod.mk.injEq] at this
    obtain ⟨rfl, rfl⟩ := this
    exact h
  · have h1 := lookup_mem e
    have h2 := lookup_mem e'
    rw [hl] at h1 h2
    simp only [List.mem_cons, List.not_mem_nil, or_false, Prod.mk.injEq] at h1 h2
    obtain ⟨rfl, _⟩ := h1
    obtain ⟨rfl, _⟩ := h2
    rw [m] at m'
    cases m'
    refine ⟨by simp [PySem.W.kitOne], by simp [PySem.W.notFirst]⟩
/-- two classes are no kinds of one another -/
def PairOk (K : PySem.W.Frag) (mg : Str → Option Value) (C C' : Str) : Prop := ∀ c c', mg C = some (.ref c) → mg C' = some (.ref c') → PySem.W.kitOne K (.ref c) (.ref c') = some false ∧ PySem.W.notFirst K c (.ref c') = true
theorem pair_mk {C C' : Str} {c c' : Addr} (X : K.In h) (G : h.Ns mainGlobals mg) (a : PySem.W.nsIn K mainGlobals C = some (some (.ref c))) (a' : PySem.W.nsIn K mainGlobals C' = some (some (.ref c'))) (k : PySem.W.kitOne K (.ref c) (.ref c') = some false) (n : PySem.W.notFirst K c (.ref c') = true) : PairOk K mg C C' := by
  intro d d' e e'
  rw [PySem.W.mg_of X G a] at e
  rw [PySem.W.mg_of X G a'] at e'
  cases e; cases e'
  exact ⟨k, n⟩
theorem cls_all (h : ∀ p ∈ own.cl, ∃ c, ClsAt K mg T ds own.df p.1 p.2 c) (hp : ∀ p ∈ own.cl, ∀ q ∈ own.cl, p.1 = q.1 ∨ PairOk K mg p.1 q.1) : ClsAll K mg T ds own := by
  refine ⟨fun C ci e => h (C, ci) (lookup_mem e), fun C C' ci ci' c c' e e' m m' => ?_⟩
  by_cases z : C = C'
  · subst z
    rw [m] at m'
    cases m'
    refine ⟨by simp [PySem.W.kitOne], by simp [PySem.W.notFirst]⟩
  · rcases hp (C, ci) (lookup_mem e) (C', ci') (lookup_mem e') with w | w
    · exact absurd w z
    · obtain ⟨a, b⟩ := w c c' m m'
      rw [decide_eq_false z]
      exact ⟨a, b⟩
/-- no class -/
theorem cls_none (hl : own.cl = []) : ClsAll K mg T ds own := by
  refine ⟨fun C ci e => ?_, fun C C' ci ci' c c' e e' m m' => ?_⟩ <;> (rw [hl] at e; simp at e)
end
end Q
/-! L1: how the combinators compute; the bag and what is drawn from it. -/
namespace Q
open PySem PySem.Spec PyProof.Rows L2
section
variable {G G1 G' : Gp} {a b p : Addr} {o o' : O}
theorem rm_up : rm b (up G b o) = rm b G := by
  funext a
  by_cases h : a = b
  · subst h; rw [rm_self, rm_self]
  · rw [rm_ne h, rm_ne h, up_ne h]
theorem up_up : up (up G b o) b o' = up G b o' := by
  funext a
  by_cases h : a = b
  · subst h; rw [up_same, up_same]
  · rw [up_ne h, up_ne h, up_ne h]
theorem rm_new (h : G p = none) : rm p (up G p o) = G := by
  funext a
  by_cases e : a = p
  · subst e; rw [rm_self, h]
  · rw [rm_ne e, up_ne e]
theorem up_comm {c : Addr} (h : b ≠ c) : up (up G b o) c o' = up (up G c o') b o := by
  funext a
  by_cases e : a = b
  · subst e; rw [up_ne h, up_same, up_same]
  · by_cases e2 : a = c
    · subst e2; rw [up_same, up_ne e, up_same]
    · rw [up_ne e2, up_ne e, up_ne e, up_ne e2]
theorem keep (r : rm b G' = rm b G) (n : a ≠ b) : G' a = G a := by
  have z := congrFun r a
  rwa [rm_ne n, rm_ne n] at z
theorem ne_fresh (e : G a = some o) (h : G p = none) : a ≠ p := fun z => by subst z; rw [e] at h; cases h
end
section
variable {G : Gp} {Q : KA} {a : A} {i j : Int}
theorem eqInt {neg : Bool} : eqA neg (.int i) (.int j) G Q = Q (.bl (if neg then !(i == j) else i == j)) G := by
  unfold eqA
  refine propext ⟨?_, fun h => .inl ⟨_, _, .int, .int, rfl, rfl, by simpa only [PyData.eqv] using h⟩⟩
  rintro (⟨d, e, h1, h2, _, _, q⟩ | ⟨xs, _, h, _⟩ | ⟨_, h, _⟩ | ⟨_, _, h, _⟩)
  · cases h1; cases h2; simpa only [PyData.eqv] using q
  · cases h
  · cases h
  · cases h
theorem eqStr {neg : Bool} {x y : Str} : eqA neg (.str x) (.str y) G Q = Q (.bl (if neg then !(x == y) else x == y)) G := by
  unfold eqA
  refine propext ⟨?_, fun h => .inr (.inr (.inr ⟨_, _, rfl, rfl, by simpa only [bne] using h⟩))⟩
  rintro (⟨d, e, h1, h2, _, _, q⟩ | ⟨xs, _, h, _⟩ | ⟨_, h, _⟩ | ⟨_, _, h1, h2, q⟩)
  · cases h1; cases h2; simpa only [PyData.eqv] using q
  · cases h
  · cases h
  · cases h1; cases h2; simpa only [bne] using q
def atK (xs : List A) (i : Int) (G : Gp) (Q : KA) : Prop := match atI xs i with
  | some x => Q x G
  | none => False
theorem at_k {xs : List A} (h : ∃ ys x, some xs = some ys ∧ atI ys i = some x ∧ Q x G) : atK xs i G Q := by
  obtain ⟨ys, x, e, h, q⟩ := h
  cases e
  unfold atK; rw [h]; exact q
theorem k_at {xs : List A} (h : atK xs i G Q) : ∃ ys x, some xs = some ys ∧ atI ys i = some x ∧ Q x G := by
  unfold atK at h
  split at h
  · rename_i x e; exact ⟨xs, x, rfl, e, h⟩
  · exact h.elim
theorem ixFro {xs : List A} : ixD (.fro xs) (.int i) G Q = atK xs i G Q := propext ⟨at_k, k_at⟩
theorem ixTup {xs : List A} : ixD (.tup xs) (.int i) G Q = atK xs i G Q := propext ⟨at_k, k_at⟩
theorem ixRef {b : Addr} {xs : List A} (h : G b = some (.lst xs)) : ixD (.ref b) (.int i) G Q = atK xs i G Q := by
  refine propext ⟨fun z => at_k ?_, fun z => ?_⟩
  · simpa only [ixD, dctOf, ixA, seqOf, lstOf, h] using z
  · simpa only [ixD, dctOf, ixA, seqOf, lstOf, h] using k_at z
theorem len_fro {xs : List A} : lenD [.fro xs] G Q = Q (.int xs.length) G := propext ⟨fun ⟨ys, e, q⟩ => by cases e; exact q, fun q => ⟨xs, rfl, q⟩⟩
theorem len_tup {xs : List A} : lenD [.tup xs] G Q = Q (.int xs.length) G := propext ⟨fun ⟨ys, e, q⟩ => by cases e; exact q, fun q => ⟨xs, rfl, q⟩⟩
theorem len_ref {b : Addr} {xs : List A} (h : G b = some (.lst xs)) : lenD [.ref b] G Q = Q (.int xs.length) G := by
  simp only [lenD, dctOf, lenA, seqOf, lstOf, h]
  exact propext ⟨fun ⟨ys, e, q⟩ => by cases e; exact q, fun q => ⟨xs, rfl, q⟩⟩
theorem add_fro {m : Bool} {xs ys : List A} : addA m (.fro xs) (.fro ys) G Q = (xs.length + ys.length ≤ sizeLine ∧ new m (.lst (xs ++ ys)) G Q) :=
  propext ⟨fun ⟨_, _, e1, e2, q⟩ => by cases e1; cases e2; exact q, fun q => ⟨xs, ys, rfl, rfl, q⟩⟩
theorem sl_fro {m : Bool} {xs : List A} {lo hi : Option Int} : slA m (.fro xs) lo hi G Q = new m (.lst (cutA xs lo hi)) G Q :=
  propext ⟨fun ⟨_, e1, q⟩ => by cases e1; exact q, fun q => ⟨xs, rfl, q⟩⟩
theorem mul_fro {m : Bool} {xs : List A} {j : Int} : mulA m (.fro xs) (.int j) G Q = (-(2 ^ 63) ≤ j ∧ j < 2 ^ 63 ∧ xs.length * j.toNat ≤ sizeLine ∧ new m (.lst (List.replicate j.toNat xs).flatten) G Q) :=
  propext ⟨fun ⟨_, e1, q⟩ => by cases e1; exact q, fun q => ⟨xs, rfl, q⟩⟩
theorem tupleA_fro {xs : List A} : tupleA [.fro xs] G Q = Q (.tup xs) G :=
  propext ⟨fun ⟨_, _, e, e1, q⟩ => by cases e; cases e1; exact q, fun q => ⟨_, xs, rfl, rfl, q⟩⟩
theorem tupleA_tup {xs : List A} : tupleA [.tup xs] G Q = Q (.tup xs) G :=
  propext ⟨fun ⟨_, _, e, e1, q⟩ => by cases e; cases e1; exact q, fun q => ⟨_, xs, rfl, rfl, q⟩⟩
theorem listA_tup {m : Bool} {xs : List A} : listA m [.tup xs] G Q = new m (.lst xs) G Q :=
  propext ⟨fun ⟨_, _, e, e1, q⟩ => by cases e; cases e1; exact q, fun q => ⟨_, xs, rfl, rfl, q⟩⟩
theorem listA_fro {m : Bool} {xs : List A} : listA m [.fro xs] G Q = new m (.lst xs) G Q :=
  propext ⟨fun ⟨_, _, e, e1, q⟩ => by cases e; cases e1; exact q, fun q => ⟨_, xs, rfl, rfl, q⟩⟩
theorem new_f {o : O} : new false o G Q = Q (frz o) G := rfl
theorem new_t {o : O} : new true o G Q = ∀ p, G p = none → Q (.ref p) (up G p o) := rfl
theorem frz_l {xs : List A} : frz (.lst xs) = .fro xs := rfl
/-- storing at a place -/
theorem gset {b : Addr} {v : A} {ς : En} {xs : List A} {Q : En → Gp → Prop} (h : G b = some (.lst xs)) (q : ∃ j, L2.ixN xs.length i = some j ∧ Q ς (up G b (.lst (xs.set j v)))) :
    ∃ p, A.ref b = .ref p ∧ ((∃ xs k j, A.int i = .int k ∧ G p = some (.lst xs) ∧ L2.ixN xs.length k = some j ∧ Q ς (up G p (.lst (xs.set j v)))) ∨
      ∃ kvs, G p = some (.dct kvs) ∧ keyOk (.int i) kvs = true ∧ kvs.length < sizeLine ∧ Q ς (up G p (.dct (putA kvs (.int i) v)))) := by
  obtain ⟨j, e, q⟩ := q
  exact ⟨b, rfl, .inl ⟨xs, i, j, rfl, h, e, q⟩⟩
theorem at0 {α : Type} {x : α} {xs : List α} : L2.atI (x :: xs) 0 = some x := by
  unfold L2.atI L2.ixN
  rw [if_pos (by omega), if_pos (by simp only [List.length_cons]; omega)]; rfl
theorem at1 {α : Type} {x y : α} {xs : List α} : L2.atI (x :: y :: xs) 1 = some y := by
  unfold L2.atI L2.ixN
  rw [if_pos (by omega), if_pos (by simp only [List.length_cons]; omega)]; rfl
theorem at2 {α : Type} {x y z : α} {xs : List α} : L2.atI (x :: y :: z :: xs) 2 = some z := by
  unfold L2.atI L2.ixN
  rw [if_pos (by omega), if_pos (by simp only [List.length_cons]; omega)]; rfl
theorem at3 {α : Type} {x y z w : α} {xs : List α} : L2.atI (x :: y :: z :: w :: xs) 3 = some w := by
  unfold L2.atI L2.ixN
  rw [if_pos (by omega), if_pos (by simp only [List.length_cons]; omega)]; rfl
theorem atI_nat {α : Type} {xs : List α} {i : Nat} (h : i < xs.length) : L2.atI xs (i : Int) = some xs[i] := by
  unfold L2.atI L2.ixN
  rw [if_pos (by omega), if_pos (by omega)]
  simp [h]
theorem atI_mem {α : Type} {xs : List α} {i : Int} (h0 : 0 ≤ i) (h1 : i < xs.length) : ∃ x ∈ xs, L2.atI xs i = some x := by
  obtain ⟨k, rfl⟩ : ∃ k : Nat, i = k := ⟨i.toNat, by omega⟩
  exact ⟨_, List.getElem_mem _, atI_nat (by omega)⟩
/-- an item, whichever it is -/
theorem at_any {xs : List A} (h0 : 0 ≤ i) (h1 : i < xs.length) (q : ∀ x ∈ xs, Q x G) : atK xs i G Q := by
  obtain ⟨x, m, e⟩ := atI_mem h0 h1
  unfold atK; rw [e]; exact q x m
theorem ix_any {xs : List A} (h0 : 0 ≤ i) (h1 : i < xs.length) (q : ∀ x ∈ xs, Q x G) : ixD (.fro xs) (.int i) G Q := by rw [ixFro]; exact at_any h0 h1 q
theorem seq_i {t u : SA} {D : Fl} {ς : En} (h : ∀ R : En → Gp → Prop, (∀ ς G, u D ς G → R ς G) → t { D with nx := R } ς G) : sSeq t u D ς G := h _ fun _ _ h => .done h
/-- with leave to take places for unchanged from here on -/
theorem seq_f {t u : SA} {D : Fl} {ς : En} (h : ∀ R : En → Gp → Prop, (∀ ς G, Fz (u D) ς G → R ς G) → t { D with nx := R } ς G) : sSeq t u D ς G := h _ fun _ _ h => h
end
/-! ### the bag -/
def tk_bag (c : Cal) : SA := (sSeq (sRet (eLst true (lCons (eC (.int 0)) (lCons (eC (.int 1234567891)) (lCons (eC (.int 0)) (lCons (eLc false (iSeq (eSl false (eVar 0) oNo (oSome (eC (.int 63))))) (gNm 1) bYes (eBi absA (lCons (eVar 1) lNil)) [1]) lNil))))))
  sNx)
def tk_take (c : Cal) : SA := (sSeq (sIf (bB (eBin (eqA false) (eBin ixD (eVar 0) (eC (.int 0))) (eC (.int 0)))) (sSeq (sSet (eC (.int 0)) (gNm 2))
  (sSeq (sIf (bB (eBin ltA (eBin ixD (eVar 0) (eC (.int 2))) (eBi lenD (lCons (eBin ixD (eVar 0) (eC (.int 3))) lNil)))) (sSeq (sSet (eBin ixD (eBin ixD (eVar 0) (eC (.int 3))) (eBin ixD (eVar 0) (eC (.int 2)))) (gNm 2))
  sNx) sNx)
  (sSeq (sAug (eVar 0) (eC (.int 2)) (eC (.int 1)))
  (sSeq (sIf (bB (eBin geA (eVar 2) (eC (.int 1000000000000000000)))) (sSeq (sSet (eVar 2) (gSubD (eVar 0) (eC (.int 0))))
  sNx) sNx)
  (sSeq (sSet (eBin (addA false) (eBin modA (eBi intOfA (lCons (eVar 2) lNil)) (eC (.int 2147483647))) (eBin (mulA false) (eC (.int 7919)) (eBin ixD (eVar 0) (eC (.int 2))))) (gNm 3))
  (sSeq (sSet (eBin modA (eBi intOfA (lCons (eBin (addA false) (eBin (mulA false) (eBin ixD (eVar 0) (eC (.int 1))) (eC (.int 48271))) (eVar 3)) lNil)) (eC (.int 2147483647))) (gSubD (eVar 0) (eC (.int 1))))
  sNx)))))) sNx)
  (sSeq (sIf (bB (eBin gtA (eBin ixD (eVar 0) (eC (.int 0))) (eC (.int 0)))) (sSeq (sSet (eBin modA (eBi intOfA (lCons (eBin ixD (eVar 0) (eC (.int 0))) lNil)) (eVar 1)) (gNm 4))
  (sSeq (sSet (eBin fdivA (eBin ixD (eVar 0) (eC (.int 0))) (eVar 1)) (gSubD (eVar 0) (eC (.int 0))))
  (sSeq (sRet (eVar 4))
  sNx))) sNx)
  (sSeq (sSet (eBin modA (eBi intOfA (lCons (eBin (mulA false) (eBin (addA false) (eBin ixD (eVar 0) (eC (.int 1))) (eC (.int 1))) (eC (.int 39373))) lNil)) (eC (.int 1000000007))) (gNm 5))
  (sSeq (sSet (eBin modA (eBi intOfA (lCons (eBin (mulA false) (eBin modA (eBi intOfA (lCons (eBin (mulA false) (eVar 5) (eVar 5)) lNil)) (eC (.int 998244353))) (eC (.int 30011))) lNil)) (eC (.int 998244353))) (gNm 6))
  (sSeq (sIf (bB (eBin gtA (eVar 1) (eC (.int 1000000)))) (sSeq (sRet (eBin modA (eBi intOfA (lCons (eBin (addA false) (eBin (mulA false) (eVar 6) (eC (.int 1000000007))) (eVar 5)) lNil)) (eVar 1)))
  sNx) sNx)
  (sSeq (sRet (eBin modA (eBi intOfA (lCons (eBin fdivA (eVar 6) (eC (.int 7))) lNil)) (eVar 1)))
  sNx))))))
/-- the bag at b, P takes or fewer so far -/
def Bag (b : Addr) (P : Int) (G : Gp) : Prop := ∃ (w s p : Int) (cells : List Int), G b = some (.lst [.int w, .int s, .int p, .fro (cells.map A.int)]) ∧ 0 ≤ w ∧ 0 ≤ s ∧ s < 2147483647 ∧ 0 ≤ p ∧ p ≤ P
section
variable {G G' : Gp} {b p a : Addr} {P : Int} {o : O}
theorem Bag.more {P' : Int} (h : Bag b P G) (l : P ≤ P') : Bag b P' G := by
  obtain ⟨w, s, q, cells, h1, h4, h5, h6, h7, h8⟩ := h
  exact ⟨w, s, q, cells, h1, h4, h5, h6, h7, by omega⟩
theorem Bag.at (h : Bag b P G) : G b ≠ none := by
  obtain ⟨w, s', q, cells, h1, h4, h5, h6, h7, h8⟩ := h
  rw [h1]; simp
theorem Bag.ne (h : Bag b P G) (hp : G p = none) : p ≠ b := fun z => by subst z; exact h.at hp
theorem Bag.same (h : Bag b P G) (e : G' b = G b) : Bag b P G' := by
  obtain ⟨w, s', q, cells, h1, h4, h5, h6, h7, h8⟩ := h
  exact ⟨w, s', q, cells, e.trans h1, h4, h5, h6, h7, h8⟩
theorem Bag.new (h : Bag b P G) (hp : p ≠ b) : Bag b P (up G p o) := h.same (up_ne (Ne.symm hp))
end
theorem small_mul {i j : Int} (h1 : i.natAbs < 2 ^ 64) (h2 : j.natAbs < 2 ^ 64) : CMulW i j := by
  have f : ∀ n : Nat, n < 2 ^ 64 → n.log2 < 64 := fun n h => by
    by_cases z : n = 0
    · subst z; decide
    · exact (Nat.log2_lt z).mpr h
  have := f _ h1
  have := f _ h2
  unfold CMulW; omega
theorem take_ok {FT : FTab} {n : Nat} {b : Addr} {P many : Int} {G : Gp} {Q : KA} {X : KX} (hF : FT (Str.ofString "_law_take") = some ⟨2, 7, tk_take⟩) (B : Bag b P G) (hP : P ≤ 2 ^ 60) (h0 : 0 < many) (h1 : many.natAbs < 2 ^ 64)
    (q : ∀ d G', 0 ≤ d → d < many → Bag b (P + 1) G' → rm b G' = rm b G → Q (.int d) G') : runF FT (n + 1) "_law_take" [.ref b, .int many] G Q X := by
  obtain ⟨w, s, p, cells, hb, w0, s0, s1, p0, p1⟩ := B
  refine ⟨_, hF, rfl, ?_⟩
  show tk_take (runF FT n) _ [some (.ref b), some (.int many), none, none, none, none, none] G
  unfold tk_take
  refine seq_i fun R hR => ?_
  have tail : ∀ (x y : Option A) (w s p : Int) (G' : Gp), G' b = some (.lst [.int w, .int s, .int p, .fro (cells.map A.int)]) → rm b G' = rm b G → 0 ≤ w → 0 ≤ s → s < 2147483647 → 0 ≤ p → p ≤ P + 1 →
      R [some (.ref b), some (.int many), x, y, none, none, none] G' := by
    intro x y w s p G' hb hr w0 s0 s1 p0 p1
    refine hR _ _ ?_
    refine seq_i fun R2 h2 => ?_
    have bag : ∀ (w' : Int) (G2 : Gp), 0 ≤ w' → G2 b = some (.lst [.int w', .int s, .int p, .fro (cells.map A.int)]) → Bag b (P + 1) G2 := fun w' G2 hw e => ⟨w', s, p, cells, e, hw, s0, s1, p0, p1⟩
    have rest : R2 [some (.ref b), some (.int many), x, y, none, none, none] G' := by
      refine h2 _ _ ?_
      refine seq_i fun R3 h3 => ?_
      simp only [sSet, gNm, eBi, lCons, lNil, bB, eBin, eVar, eC, List.getElem?_cons_zero, List.getElem?_cons_succ, List.set_cons_zero, List.set_cons_succ, ixRef hb, atK, at0, at1, at2, at3, intOfA, addA, mulA, modA, intA]
      refine ⟨small_mul (by omega) (by decide), by decide, h3 _ _ ?_⟩
      refine seq_i fun R4 h4 => ?_
      generalize hf : (s + 1) * 39373 % 1000000007 = f
      have f0 : 0 ≤ f := by rw [← hf]; exact Int.emod_nonneg _ (by decide)
      have f1 : f < 1000000007 := by rw [← hf]; exact Int.emod_lt_of_pos _ (by decide)
      simp only [sSet, gNm, eBi, lCons, lNil, bB, eBin, eVar, eC, List.getElem?_cons_zero, List.getElem?_cons_succ, List.set_cons_zero, List.set_cons_succ, intOfA, addA, mulA, modA, intA]
      have g0 : 0 ≤ f * f % 998244353 := Int.emod_nonneg _ (by decide)
      have g1 : f * f % 998244353 < 998244353 := Int.emod_lt_of_pos _ (by decide)
      refine ⟨small_mul (by omega) (by omega), by decide, small_mul (by omega) (by decide), by decide, h4 _ _ ?_⟩
      generalize hg : f * f % 998244353 * 30011 % 998244353 = g
      have k0 : 0 ≤ g := by rw [← hg]; exact Int.emod_nonneg _ (by decide)
      have k1 : g < 998244353 := by rw [← hg]; exact Int.emod_lt_of_pos _ (by decide)
      refine seq_i fun R5 h5 => ?_
      simp only [sIf, sNx, eBi, lCons, lNil, bB, eBin, eVar, eC, gtA, List.getElem?_cons_zero, List.getElem?_cons_succ, intOfA, addA, mulA, modA, intA, decide_eq_true_eq]
      have fin : ∀ z : Int, Q (.int (z % many)) G' := fun z => q _ _ (Int.emod_nonneg _ (by omega)) (Int.emod_lt_of_pos _ h0) (bag w G' w0 hb) hr
      by_cases hm : 1000000 < many
      · rw [if_pos hm]
        refine seq_i fun R6 _ => ?_
        simp only [sRet, eBi, lCons, lNil, eBin, eVar, eC, List.getElem?_cons_zero, List.getElem?_cons_succ, intOfA, addA, mulA, modA, intA]
        exact ⟨small_mul (by omega) (by decide), h0, fin _⟩
      · rw [if_neg hm]
        refine h5 _ _ ?_
        refine seq_i fun R6 _ => ?_
        simp only [sRet, eBi, lCons, lNil, eBin, eVar, eC, List.getElem?_cons_zero, List.getElem?_cons_succ, intOfA, modA, fdivA, intA]
        exact ⟨⟨by decide, by decide⟩, h0, fin _⟩
    simp only [sIf, sNx, eBi, lCons, lNil, bB, eBin, eVar, eC, gtA, List.getElem?_cons_zero, List.getElem?_cons_succ, ixRef hb, atK, at0, intOfA, fdivA, modA, intA, decide_eq_true_eq]
    by_cases hw : 0 < w
    · rw [if_pos hw]
      refine seq_i fun R6 h6 => ?_
      simp only [sSet, gNm, eBi, lCons, lNil, eBin, eVar, eC, List.getElem?_cons_zero, List.getElem?_cons_succ, List.set_cons_zero, List.set_cons_succ, ixRef hb, atK, at0, intOfA, modA, intA]
      refine ⟨h0, h6 _ _ ?_⟩
      refine seq_i fun R7 h7 => ?_
      simp only [sSet, gSubD, eBin, eVar, eC, List.getElem?_cons_zero, List.getElem?_cons_succ, ixRef hb, atK, at0, fdivA, intA]
      refine ⟨⟨h0, ?_⟩, ?_⟩
      · by_cases z : many.natAbs = 0
        · rw [z]; decide
        · have := (Nat.log2_lt z).mpr h1; omega
      · refine gset hb ⟨0, rfl, h7 _ _ ?_⟩
        refine seq_i fun R8 _ => ?_
        simp only [sRet, eVar, List.getElem?_cons_zero, List.getElem?_cons_succ, List.set_cons_zero]
        refine q _ _ (Int.emod_nonneg _ (by omega)) (Int.emod_lt_of_pos _ h0) (bag (w / many) _ (Int.ediv_nonneg w0 (by omega)) up_same) (rm_up.trans hr)
    · rw [if_neg hw]; exact rest
  simp only [sIf, sNx, bB, eBin, eVar, eC, List.getElem?_cons_zero, List.getElem?_cons_succ, ixRef hb, atK, at0, eqInt, Bool.false_eq_true, if_false]
  by_cases hw : (w == 0) = true
  · rw [if_pos hw]
    refine seq_i fun R2 h2 => ?_
    simp only [sSet, gNm, eC, List.set_cons_zero, List.set_cons_succ]
    refine h2 _ _ ?_
    refine seq_i fun R3 h3 => ?_
    have go : ∀ z : Int, R3 [some (.ref b), some (.int many), some (.int z), none, none, none, none] G := by
      intro z
      refine h3 _ _ ?_
      refine seq_i fun R4 h4 => ?_
      simp only [sAug, eVar, eC, List.getElem?_cons_zero]
      refine ⟨b, _, 2, p, rfl, rfl, hb, by decide, rfl, 1, _, rfl, hb, (by show 2 < 4; decide), h4 _ _ ?_⟩
      refine seq_i fun R5 h5 => ?_
      have go2 : ∀ w' G2, 0 ≤ w' → G2 b = some (.lst [.int w', .int s, .int (p + 1), .fro (cells.map A.int)]) → rm b G2 = rm b G → R5 [some (.ref b), some (.int many), some (.int z), none, none, none, none] G2 := by
        intro w' G2 hw' e2 r2
        refine h5 _ _ ?_
        refine seq_i fun R6 h6 => ?_
        simp only [sSet, gNm, eBi, lCons, lNil, eBin, eVar, eC, List.getElem?_cons_zero, List.getElem?_cons_succ, List.set_cons_zero, List.set_cons_succ, ixRef e2, atK, at0, at1, at2, at3, intOfA, addA, mulA, modA, intA]
        refine ⟨by decide, small_mul (by decide) (by omega), h6 _ _ ?_⟩
        refine seq_i fun R7 h7 => ?_
        have m0 : 0 ≤ z % 2147483647 := Int.emod_nonneg _ (by decide)
        simp only [sSet, gNm, gSubD, eBi, lCons, lNil, eBin, eVar, eC, List.getElem?_cons_zero, List.getElem?_cons_succ, List.set_cons_zero, List.set_cons_succ, ixRef e2, atK, at0, at1, at2, at3, intOfA, addA, mulA, modA, intA]
        refine ⟨small_mul (by omega) (by decide), by decide, gset e2 ⟨1, rfl, ?_⟩⟩
        simp only [List.set_cons_zero, List.set_cons_succ]
        refine h7 _ _ ?_
        simp only [sNx]
        exact tail _ _ w' _ (p + 1) _ up_same (rm_up.trans r2) hw' (Int.emod_nonneg _ (by decide)) (Int.emod_lt_of_pos _ (by decide)) (by omega) (by omega)
      simp only [sIf, sNx, bB, eBin, eVar, eC, geA, List.getElem?_cons_zero, List.getElem?_cons_succ, decide_eq_true_eq]
      by_cases hz : 1000000000000000000 ≤ z
      · rw [if_pos hz]
        refine seq_i fun R6 h6 => ?_
        simp only [sSet, gSubD, eVar, eC, List.getElem?_cons_zero, List.getElem?_cons_succ]
        refine gset (xs := [A.int w, .int s, .int (p + 1), .fro (cells.map A.int)]) up_same ⟨0, rfl, h6 _ _ ?_⟩
        simp only [up_up, sNx]
        exact go2 z _ (by omega) up_same rm_up
      · rw [if_neg hz]
        exact go2 w _ w0 up_same rm_up
    simp only [sIf, sNx, eBi, lCons, lNil, bB, eBin, eVar, eC, List.getElem?_cons_zero, List.getElem?_cons_succ, ixRef hb, atK, at0, at2, at3, ltA, len_fro, List.length_map, decide_eq_true_eq]
    by_cases hl : p < cells.length
    · rw [if_pos hl]
      refine seq_i fun R4 h4 => ?_
      have e : L2.atI (cells.map A.int) p = some (.int (cells[p.toNat]'(by omega))) := by
        obtain ⟨i, rfl⟩ : ∃ i : Nat, p = i := ⟨p.toNat, by omega⟩
        rw [atI_nat (by simp; omega)]
        simp
      simp only [sSet, gNm, eBin, eVar, eC, List.getElem?_cons_zero, List.getElem?_cons_succ, List.set_cons_zero, List.set_cons_succ, ixRef hb, ixFro, atK, at2, at3, e]
      refine h4 _ _ ?_
      simp only [sNx]
      exact go _
    · rw [if_neg hl]
      exact go _
  · rw [if_neg hw]
    exact tail _ _ w s p G hb rfl w0 s0 s1 p0 (by omega)
end Q
/-! P3: texts: of which signs, how long. -/
namespace Q
open PySem PySem.Spec PyProof.Rows L2
/-- a text of signs with q, L or fewer -/
def Cs (q : Nat → Prop) (L : Nat) (z : Str) : Prop := z.length ≤ L ∧ ∀ c ∈ z.cps.toList, q c
section
variable {q : Nat → Prop} {L M : Nat} {x y : Str}
theorem lenStr (z : Str) : z.length = z.cps.toList.length := rfl
theorem Cs.more (h : Cs q L x) (l : L ≤ M) : Cs q M x := ⟨Nat.le_trans h.1 l, h.2⟩
theorem Cs.imp {r : Nat → Prop} (h : Cs q L x) (k : ∀ c, q c → r c) : Cs r L x := ⟨h.1, fun c m => k c (h.2 c m)⟩
theorem app_list (x y : Str) : (x ++ y).cps.toList = x.cps.toList ++ y.cps.toList := by
  show (x.cps ++ y.cps).toList = _
  simp
theorem len_app (x y : Str) : (x ++ y).length = x.length + y.length := by
  rw [lenStr, lenStr, lenStr, app_list, List.length_append]
theorem Cs.app (h : Cs q L x) (k : Cs q M y) : Cs q (L + M) (x ++ y) := by
  refine ⟨by rw [len_app]; exact Nat.add_le_add h.1 k.1, fun c m => ?_⟩
  rw [app_list] at m
  rcases List.mem_append.mp m with m | m
  · exact h.2 c m
  · exact k.2 c m
theorem Cs.cut {lo hi : Option Int} (h : Cs q L x) : Cs q L (cutS x lo hi) := by
  unfold cutS
  refine ⟨?_, fun c m => h.2 c (List.mem_of_mem_drop (List.mem_of_mem_take m))⟩
  have := h.1
  rw [lenStr] at this ⊢
  simp only [List.length_take, List.length_drop]
  omega
theorem Cs.one {c : Nat} (h : q c) : Cs q 1 ⟨#[c]⟩ := ⟨Nat.le_refl _, fun d m => by simp at m; subst m; exact h⟩
theorem Cs.nil : Cs q 0 Str.empty := ⟨Nat.le_refl _, fun c m => by simp [Str.empty] at m⟩
theorem rep_list (a : Array Nat) : ∀ (n : Nat) (acc : Array Nat), ((List.replicate n a).foldl (· ++ ·) acc).toList = acc.toList ++ (List.replicate n a.toList).flatten
  | 0, acc => by simp
  | n + 1, acc => by
    rw [List.replicate_succ, List.foldl_cons, rep_list a n, List.replicate_succ, List.flatten_cons]
    simp
theorem Cs.mul {n : Nat} {k : Int} (h : Cs q L x) (hk : k ≤ n) : Cs q (n * L) (Txt.mul x k) := by
  unfold Txt.mul
  split
  · exact Cs.nil.more (Nat.zero_le _)
  · rename_i h1
    have hn : 1 ≤ n := by omega
    split
    · exact h.more (by calc L = 1 * L := (Nat.one_mul _).symm
                           _ ≤ n * L := Nat.mul_le_mul_right _ hn)
    · have e := rep_list x.cps k.toNat #[]
      refine ⟨?_, fun c m => ?_⟩
      · rw [lenStr, e]
        simp only [List.nil_append, List.length_flatten, List.map_replicate, List.sum_replicate_nat]
        exact Nat.mul_le_mul (by omega) h.1
      · rw [e] at m
        simp only [List.nil_append, List.mem_flatten, List.mem_replicate] at m
        obtain ⟨l, ⟨_, rfl⟩, m⟩ := m
        exact h.2 c m
theorem MulOk.small {k : Int} (h : x.length ≤ 1000) (h1 : k ≤ 1000) (h0 : -1000 ≤ k) : MulOk x k := by
  have e : (2 : Int) ^ 63 = 9223372036854775808 := by decide
  refine ⟨?_, fun a _ => ?_, fun a _ => ?_⟩
  · simp; omega
  · have hp : 0 < k := by omega
    have : (2 ^ 63 - 1) / 1000 ≤ (2 ^ 63 - 1 : Int) / k := by
      apply Int.le_ediv_of_mul_le hp
      have : ((2 ^ 63 - 1 : Int) / 1000) * k ≤ ((2 ^ 63 - 1) / 1000) * 1000 := Int.mul_le_mul_of_nonneg_left h1 (by decide)
      refine Int.le_trans this (by decide)
    have e2 : (2 ^ 63 - 1 : Int) / 1000 = 9223372036854775 := by decide
    omega
  · have : x.length * k.toNat ≤ 1000 * 1000 := Nat.mul_le_mul h (by omega)
    unfold PySem.Builtin.Str.tooLong sizeLine
    simp; omega
theorem glue_list : ∀ (ps : List Str) (acc : Array Nat), (ps.foldl (fun acc p => acc ++ (#[] : Array Nat) ++ p.cps) acc).toList = acc.toList ++ (ps.map (·.cps.toList)).flatten
  | [], acc => by simp
  | p :: ps, acc => by
    rw [List.foldl_cons, glue_list ps, List.map_cons, List.flatten_cons]
    simp
theorem join_list (ys : List Str) : (Txt.join (Str.ofString "") ys).cps.toList = (ys.map (·.cps.toList)).flatten := by
  show ((ys.drop 1).foldl (fun acc p => acc ++ (#[] : Array Nat) ++ p.cps) (ys.headD Str.empty).cps).toList = _
  cases ys with
  | nil => rfl
  | cons y ys => rw [glue_list]; rfl
theorem Cs.join {ys : List Str} (h : ∀ y ∈ ys, Cs q 1 y) : Cs q ys.length (Txt.join (Str.ofString "") ys) := by
  refine ⟨?_, fun c m => ?_⟩
  · rw [lenStr, join_list]
    induction ys with
    | nil => exact Nat.le_refl _
    | cons y ys ih =>
      have h1 := (h y (by simp)).1
      have h2 := ih fun z m => h z (by simp [m])
      rw [lenStr] at h1
      simp only [List.map_cons, List.flatten_cons, List.length_append, List.length_cons]
      omega
  · rw [join_list] at m
    simp only [List.mem_flatten, List.mem_map] at m
    obtain ⟨l, ⟨y, hy, rfl⟩, m⟩ := m
    exact (h y hy).2 c m
theorem Cs.lens {ys : List Str} (h : ∀ y ∈ ys, Cs q L y) : (ys.map (·.length)).sum ≤ ys.length * L := by
  induction ys with
  | nil => simp
  | cons y ys ih =>
    have h1 := (h y (by simp)).1
    have h2 := ih fun z m => h z (by simp [m])
    simp only [List.map_cons, List.sum_cons, List.length_cons, Nat.succ_mul]
    omega
end
/-- small letters -/
def low (c : Nat) : Prop := 97 ≤ c ∧ c ≤ 122
def asc (c : Nat) : Prop := c < 128
theorem low_asc {c : Nat} (h : low c) : asc c := by unfold low at h; unfold asc; omega
instance (c : Nat) : Decidable (low c) := by unfold low; infer_instance
instance (c : Nat) : Decidable (asc c) := by unfold asc; infer_instance
def abc : Str := Str.ofString "abcdefghijklmnopqrstuvwxyz"
theorem abc_low : ∀ c ∈ abc.cps.toList, low c := by decide +kernel
theorem abc_len : abc.cps.toList.length = 26 := by decide +kernel
theorem char_at {q : Nat → Prop} {z : Str} (h : ∀ c ∈ z.cps.toList, q c) {i : Int} (h0 : 0 ≤ i) (h1 : i < z.cps.toList.length) : ∃ c, L2.atI z.cps.toList i = some c ∧ q c := by
  obtain ⟨k, rfl⟩ : ∃ k : Nat, i = k := ⟨i.toNat, by omega⟩
  exact ⟨_, atI_nat (by omega), h _ (List.getElem_mem _)⟩
end Q
/-! Y3: comprehensions; the bag's making; the labels. -/
namespace Q
open PySem PySem.Spec PyProof.Rows L2
/-- a comprehension without a test, by an invariant -/
theorem lc_inv {i : Nat} {te : EA} {vs : List Nat} {chk : Gp → Prop} {Qf : List A → Gp → Prop} {ς : En} (N : Nat) (hN : N ≤ sizeLine) (I : List A → Gp → Prop) (hc : ∀ acc G, I acc G → chk G) : ∀ (xs acc : List A) (G : Gp),
    (∀ x ∈ xs, ∀ acc G Q, acc.length < N → I acc G → (∀ y G', I (acc ++ [y]) G' → Q y G') → te ((wipeA ς vs).set i (some x)) G Q (fun _ _ => False)) →
    I acc G → acc.length + xs.length ≤ N → (∀ acc' G', acc'.length = acc.length + xs.length → I acc' G' → Qf acc' G') → lcR (gNm i) bYes te vs chk Qf xs acc ς G
  | [], acc, G, _, h, _, q => ⟨hc acc G h, q acc G rfl h⟩
  | x :: xs, acc, G, st, h, l, q => by
    refine ⟨hc acc G h, ?_⟩
    simp only [gNm, bYes, if_true]
    simp only [List.length_cons] at l
    refine st x (by simp) acc G _ (by omega) h fun y G' h' => ⟨by omega, ?_⟩
    refine lc_inv N hN I hc xs (acc ++ [y]) G' (fun z m => st z (by simp [m])) h' (by simp only [List.length_append, List.length_cons, List.length_nil]; omega) fun acc' G2 l2 h2 => q acc' G2 ?_ h2
    simp only [List.length_cons, List.length_append, List.length_nil] at l2 ⊢
    omega
theorem lc_filt {G : Gp} {i : Nat} {tt : BA} {vs : List Nat} {chk : Gp → Prop} {Qf : List A → Gp → Prop} {ς : En} {p : A → Bool} (hi : i < (wipeA ς vs).length) (hc : chk G) : ∀ (xs acc : List A),
    (∀ x ∈ xs, ∀ Qb : Bool → Gp → Prop, Qb (p x) G → tt ((wipeA ς vs).set i (some x)) G Qb (fun _ _ => False)) → acc.length + xs.length ≤ sizeLine → Qf (acc ++ xs.filter p) G → lcR (gNm i) tt (eVar i) vs chk Qf xs acc ς G
  | [], acc, _, _, q => ⟨hc, by simpa using q⟩
  | x :: xs, acc, st, l, q => by
    refine ⟨hc, ?_⟩
    simp only [gNm]
    simp only [List.length_cons] at l
    refine st x (by simp) _ ?_
    cases hp : p x
    · simp only [Bool.false_eq_true, if_false]
      exact lc_filt hi hc xs acc (fun y m => st y (by simp [m])) (by omega) (by simpa only [List.filter_cons, hp, Bool.false_eq_true, if_false] using q)
    · simp only [if_true, eVar]
      rw [List.getElem?_set_self hi]
      refine ⟨by omega, lc_filt hi hc xs (acc ++ [x]) (fun y m => st y (by simp [m])) (by simp only [List.length_append, List.length_cons, List.length_nil]; omega) ?_⟩
      simpa only [List.filter_cons, hp, if_true, List.append_assoc, List.singleton_append] using q
theorem lc_map {G : Gp} {i : Nat} {te : EA} {vs : List Nat} {chk : Gp → Prop} {Qf : List A → Gp → Prop} {ς : En} {f : A → A} (hc : chk G) : ∀ (xs acc : List A),
    (∀ x ∈ xs, ∀ Q : KA, Q (f x) G → te ((wipeA ς vs).set i (some x)) G Q (fun _ _ => False)) → acc.length + xs.length ≤ sizeLine → Qf (acc ++ xs.map f) G → lcR (gNm i) bYes te vs chk Qf xs acc ς G
  | [], acc, _, _, q => ⟨hc, by simpa using q⟩
  | x :: xs, acc, st, l, q => by
    refine ⟨hc, ?_⟩
    simp only [gNm, bYes, if_true]
    simp only [List.length_cons] at l
    refine st x (by simp) _ ⟨by omega, ?_⟩
    refine lc_map hc xs (acc ++ [f x]) (fun y m => st y (by simp [m])) (by simp only [List.length_append, List.length_cons, List.length_nil]; omega) ?_
    simpa only [List.map_cons, List.append_assoc, List.singleton_append] using q
theorem bag_ok {FT : FTab} {n : Nat} {G : Gp} {ns : List Int} {Q : KA} {X : KX} (hF : FT (Str.ofString "_law_bag") = some ⟨1, 2, tk_bag⟩)
    (q : ∀ b G', G b = none → Bag b 0 G' → rm b G' = rm b G → Q (.ref b) G') : runF FT (n + 1) "_law_bag" [.scr (ns.map .int)] G Q X := by
  refine ⟨_, hF, rfl, ?_⟩
  show tk_bag (runF FT n) _ [some (.scr (ns.map .int)), none] G
  refine seq_i fun R _ => ?_
  simp only [sRet, eLst, lCons, lNil, eC, eLc, iSeq, eSl, oNo, oSome, eVar, List.getElem?_cons_zero, slA, new_f, frz_l, itOf]
  have hl : (cutA (ns.map A.int) none (some 63)).length ≤ 63 := by
    unfold cutA
    simp only [HT.sIx, List.length_take, List.length_drop, List.length_map]
    simp; omega
  have hall : ∀ x ∈ cutA (ns.map A.int) none (some 63), ∃ i : Int, x = .int i := fun x hx => by
    have := List.mem_of_mem_drop (List.mem_of_mem_take hx)
    simp only [List.mem_map] at this
    obtain ⟨i, _, e⟩ := this
    exact ⟨i, e.symm⟩
  generalize cutA (ns.map A.int) none (some 63) = row at hl hall ⊢
  refine lc_inv 63 (by decide) (fun acc G2 => ∃ cells : List Int, acc = cells.map A.int ∧ G2 = G) (fun _ _ _ => trivial) _ _ _ ?_ ⟨[], rfl, rfl⟩ (by simp only [List.length_nil]; omega) ?_
  · rintro x hx acc G2 Q2 _ ⟨cells, rfl, rfl⟩ q2
    obtain ⟨i, rfl⟩ := hall x hx
    simp only [wipeA, eBi, absA, lCons, lNil, eVar, List.set_cons_zero, List.set_cons_succ, List.getElem?_cons_zero, List.getElem?_cons_succ]
    refine ⟨i, rfl, q2 _ _ ⟨cells ++ [if i < 0 then -i else i], by simp, rfl⟩⟩
  · rintro acc G2 hl2 ⟨cells, rfl, rfl⟩
    refine ⟨(by show 4 ≤ sizeLine; decide), fun b hb => q b _ hb ⟨0, 1234567891, 0, cells, up_same, by decide, by decide, by decide, by decide, by decide⟩ rm_up⟩
def tk_labels (c : Cal) : SA := (sSeq (sSet (eC (.str (Str.ofString "abcdefghijklmnopqrstuvwxyz"))) (gNm 2))
  (sSeq (sSet (eM "str" (splitA false) (eC (.str (Str.ofString "a b edge path go put take rule drop back again result facts rules ask why idle bare rounds"))) (lCons (eC (.str (Str.ofString " "))) lNil)) (gNm 3))
  (sSeq (sSet (eBin (addA false) (eVar 3) (eLst false (lCons (eC (.str (Str.ofString "x"))) (lCons (eC (.str (Str.ofString "y"))) (lCons (eC (.str (Str.ofString "va"))) (lCons (eC (.str (Str.ofString "vb"))) (lCons (eC (.str (Str.ofString "wall"))) lNil))))))) (gNm 3))
  (sSeq (sSet (eTup (lCons (eCall c "_law_take" (lCons (eVar 0) (lCons (eC (.int 4)) lNil))) (lCons (eCall c "_law_take" (lCons (eVar 0) (lCons (eC (.int 24)) lNil))) lNil))) (gTup [4, 5]))
  (sSeq (sSet (eM "str" joinA (eC (.str (Str.ofString ""))) (lCons (eLc false (iR1 (eBin (addA false) (eC (.int 1)) (eCall c "_law_take" (lCons (eVar 0) (lCons (eC (.int 7)) lNil))))) (gNm 7) bYes (eBin ixD (eVar 2) (eCall c "_law_take" (lCons (eVar 0) (lCons (eC (.int 26)) lNil)))) [7]) lNil)) (gNm 6))
  (sSeq (sSet (eTup (lCons (eCall c "_law_take" (lCons (eVar 0) (lCons (eBin (addA false) (eBi lenD (lCons (eVar 6) lNil)) (eC (.int 1))) lNil))) (lCons (eBin fdivA (eVar 4) (eC (.int 3))) lNil))) (gTup [8, 9]))
  (sSeq (sIf (bB (eBin (eqA false) (eVar 4) (eC (.int 0)))) (sSeq (sRet (eSl false (eBin (addA false) (eSl false (eVar 3) (oSome (eVar 5)) oNo) (eSl false (eVar 3) oNo (oSome (eVar 5)))) oNo (oSome (eVar 1))))
  sNx) sNx)
  (sSeq (sSet (eLc false (iR1 (eVar 1)) (gNm 7) bYes (eBin (mulA false) (eBin ixD (eVar 2) (eBin modA (eBi intOfA (lCons (eBin (addA false) (eVar 5) (eBin ixD (eLst false (lCons (eBin (mulA false) (eC (.int 3)) (eVar 7)) (lCons (eBin fdivA (eVar 7) (eC (.int 8))) lNil))) (eVar 9))) lNil)) (eC (.int 26)))) (eBin (addA false) (eC (.int 1)) (eBin (mulA false) (eBin modA (eBi intOfA (lCons (eVar 7) lNil)) (eC (.int 8))) (eVar 9)))) [7]) (gNm 10))
  (sSeq (sSet (eBin (mulA false) (eVar 6) (eBi intOfA (lCons (eBin (eqA false) (eVar 4) (eC (.int 2))) lNil))) (gNm 6))
  (sSeq (sRet (eLc false (iR1 (eVar 1)) (gNm 7) bYes (eBin (addA false) (eBin (addA false) (eSl false (eVar 6) oNo (oSome (eVar 8))) (eBin ixD (eVar 10) (eVar 7))) (eSl false (eVar 6) (oSome (eVar 8)) oNo)) [7]))
  sNx))))))))))
def mnu : Str := Str.ofString "a b edge path go put take rule drop back again result facts rules ask why idle bare rounds"
def men : List Str := Txt.split mnu (Str.ofString " ")
def men5 : List Str := ["x", "y", "va", "vb", "wall"].map Str.ofString
instance (q : Nat → Prop) [DecidablePred q] (L : Nat) (z : Str) : Decidable (Cs q L z) := by unfold Cs; infer_instance
/-- a word -/
def Wd (z : Str) : Prop := Cs low 8 z ∧ 1 ≤ z.length
instance (z : Str) : Decidable (Wd z) := by unfold Wd; infer_instance
theorem men_wd : ∀ z ∈ men ++ men5, Wd z := by decide +kernel
theorem men_len : (men ++ men5).length = 24 := by decide +kernel
theorem cut_map {α β : Type} (f : α → β) (xs : List α) (lo hi : Option Int) : cutA (xs.map f) lo hi = (cutA xs lo hi).map f := by
  unfold cutA
  simp only [List.length_map, List.map_take, List.map_drop]
theorem cut_mem {α : Type} {xs : List α} {lo hi : Option Int} {x : α} (h : x ∈ cutA xs lo hi) : x ∈ xs := List.mem_of_mem_drop (List.mem_of_mem_take h)
theorem cut_pre {α : Type} {xs : List α} {k : Int} (h0 : 0 ≤ k) (h1 : k ≤ xs.length) : (cutA xs none (some k)).length = k.toNat := by
  unfold cutA
  simp only [HT.sIx, List.length_take, List.length_drop]
  rw [if_neg (by omega)]; omega
theorem cut_suf {α : Type} {xs : List α} {k : Int} (h0 : 0 ≤ k) (h1 : k ≤ xs.length) : (cutA xs (some k) none).length = xs.length - k.toNat := by
  unfold cutA
  simp only [HT.sIx, List.length_take, List.length_drop]
  rw [if_neg (by omega)]; omega
theorem cutS_len {z : Str} {k : Int} (h0 : 0 ≤ k) : (cutS z none (some k)).length + (cutS z (some k) none).length = z.length := by
  unfold cutS
  rw [lenStr, lenStr, lenStr]
  simp only [HT.sIx, List.length_take, List.length_drop]
  rw [if_neg (by omega)]
  have : z.length = z.cps.toList.length := rfl
  omega
theorem mul_zero (z : Str) : (Txt.mul z 0).length = 0 := rfl
theorem mul_len1 {c : Nat} {k : Int} (h : 1 ≤ k) : 1 ≤ (Txt.mul ⟨#[c]⟩ k).length := by
  unfold Txt.mul
  split
  · rename_i z; omega
  split
  · show 1 ≤ 1; decide
  · have e := rep_list #[c] k.toNat #[]
    rw [lenStr, e]
    simp only [List.nil_append, List.length_flatten, List.map_replicate, List.sum_replicate_nat]
    show 1 ≤ k.toNat * 1
    omega
theorem labels_ok {FT : FTab} {n : Nat} {b : Addr} {P many : Int} {G : Gp} {Q : KA} {X : KX} (hT : FT (Str.ofString "_law_take") = some ⟨2, 7, tk_take⟩) (hF : FT (Str.ofString "_law_labels") = some ⟨2, 11, tk_labels⟩)
    (B : Bag b P G) (hP : P ≤ 2 ^ 59) (h0 : 0 ≤ many) (h1 : many ≤ 24)
    (q : ∀ (ws : List Str) G', (ws.length : Int) = many → (∀ z ∈ ws, Wd z) → Bag b (P + 11) G' → rm b G' = rm b G → Q (.fro (ws.map A.str)) G') : runF FT (n + 2) "_law_labels" [.ref b, .int many] G Q X := by
  refine ⟨_, hF, rfl, ?_⟩
  show tk_labels (runF FT (n + 1)) _ [some (.ref b), some (.int many), none, none, none, none, none, none, none, none, none] G
  have hbn : (2 : Int) ^ 59 = 576460752303423488 := by decide
  have hbm : (2 : Int) ^ 60 = 1152921504606846976 := by decide
  have hz : sizeLine = 16777216 := by decide
  unfold tk_labels
  refine seq_i fun R hR => ?_
  simp only [sSet, eC, gNm, List.set_cons_zero, List.set_cons_succ]
  refine hR _ _ ?_
  clear hR R
  refine seq_i fun R hR => ?_
  simp only [sSet, eM, eC, gNm, lCons, lNil, tyA, splitA, List.set_cons_zero, List.set_cons_succ, new_f, frz_l]
  refine ⟨trivial, _, _, rfl, rfl, by decide +kernel, by decide +kernel, hR _ _ ?_⟩
  clear hR R
  refine seq_i fun R hR => ?_
  simp only [sSet, eBin, eC, eVar, gNm, eLst, lCons, lNil, List.getElem?_cons_zero, List.getElem?_cons_succ, List.set_cons_zero, List.set_cons_succ, new_f, frz_l, add_fro]
  refine ⟨(by show 5 ≤ sizeLine; decide), by decide +kernel, hR _ _ ?_⟩
  clear hR R
  have em : (Txt.split (Str.ofString "a b edge path go put take rule drop back again result facts rules ask why idle bare rounds") (Str.ofString " ")).map A.str ++ [A.str (Str.ofString "x"), .str (Str.ofString "y"), .str (Str.ofString "va"), .str (Str.ofString "vb"), .str (Str.ofString "wall")] = (men ++ men5).map A.str := by
    rw [List.map_append]; rfl
  rw [em]
  clear em
  refine seq_i fun R hR => ?_
  simp only [sSet, eTup, eCall, eC, eVar, gTup, gTs, lCons, lNil, List.getElem?_cons_zero, List.getElem?_cons_succ, List.set_cons_zero, List.set_cons_succ]
  refine take_ok hT B (by omega) (by decide) (by decide) fun way G4 w0 w1 B4 r4 => ?_
  refine take_ok hT B4 (by omega) (by decide) (by decide) fun turn G5 t0 t1 B5 r5 => ?_
  refine ⟨(by show 2 ≤ sizeLine; decide), rfl, hR _ _ ?_⟩
  clear hR R
  have r5 := r5.trans r4
  refine seq_i fun R hR => ?_
  simp only [sSet, eM, eC, eVar, eLc, iR1, eBin, eCall, gNm, addA, lCons, lNil, List.getElem?_cons_zero, List.getElem?_cons_succ, List.set_cons_zero, List.set_cons_succ, tyA, true_and, new_f, frz_l]
  refine take_ok hT B5 (by omega) (by decide) (by decide) fun d6 G6 d60 d61 B6 r6 => ?_
  have r6 := r6.trans r5
  refine ⟨by omega, by omega, ?_⟩
  refine lc_inv 7 (by decide) (fun acc G' => ∃ ys : List Str, acc = ys.map A.str ∧ (∀ y ∈ ys, Cs low 1 y) ∧ Bag b (P + 3 + ys.length) G' ∧ rm b G' = rm b G) (fun _ _ _ => trivial) _ _ _ ?_ ⟨[], rfl, by simp, by simpa using B6.more (by omega), r6⟩ (by simp only [List.length_nil, List.length_map, List.length_range]; omega) ?_
  · rintro x hx acc Gx Qx hl ⟨ys, rfl, hy, Bx, rx⟩ qx
    simp only [List.length_map] at hl
    simp only [wipeA, eBin, eCall, eC, eVar, lCons, lNil, ixD, dctOf, ixA, List.set_cons_zero, List.set_cons_succ, List.getElem?_cons_zero, List.getElem?_cons_succ]
    refine take_ok (many := 26) hT Bx (by omega) (by decide) (by decide) fun d Gy y0 y1 By ry => ?_
    obtain ⟨c, ec, hcl⟩ := char_at abc_low y0 (by rw [abc_len]; omega)
    refine ⟨by decide, c, ec, qx _ _ ⟨ys ++ [⟨#[c]⟩], by simp, ?_, by simpa [Int.add_assoc] using By, ry.trans rx⟩⟩
    intro y my
    rcases List.mem_append.mp my with my | my
    · exact hy y my
    · simp at my; subst my; exact Cs.one hcl
  rintro acc G7 hl7 ⟨ys, rfl, hy, B7, r7⟩
  simp only [List.length_map, List.length_range, List.length_nil, Nat.zero_add] at hl7
  have hys : ys.length ≤ 7 := by omega
  have hlens := Cs.lens hy
  refine ⟨_, _, ys, rfl, rfl, rfl, ?_, ?_⟩
  · have z : (Str.ofString "").length = 0 := by decide +kernel
    rw [z]; omega
  have hstem : Cs low 7 (Txt.join (Str.ofString "") ys) := (Cs.join hy).more hys
  generalize Txt.join (Str.ofString "") ys = stem at hstem ⊢
  have B7' : Bag b (P + 10) G7 := B7.more (by omega)
  refine hR _ _ ?_
  clear hR R
  refine seq_i fun R hR => ?_
  simp only [sSet, eTup, eCall, eBin, eBi, eC, eVar, gTup, gTs, addA, fdivA, intA, lenD, dctOf, lenA, lCons, lNil, List.getElem?_cons_zero, List.getElem?_cons_succ, List.set_cons_zero, List.set_cons_succ]
  have hsl := hstem.1
  refine ⟨by omega, take_ok hT B7' (by omega) (by omega) (by omega) fun at_ G9 a0 a1 B9 r9 => ?_⟩
  have r9 := r9.trans r7
  refine ⟨⟨by decide, by decide⟩, (by show 2 ≤ sizeLine; decide), rfl, hR _ _ ?_⟩
  clear hR R
  refine seq_i fun R hR => ?_
  simp only [sIf, sNx, bB, eBin, eC, eVar, eqInt, Bool.false_eq_true, if_false, List.getElem?_cons_zero, List.getElem?_cons_succ]
  by_cases hw : (way == 0) = true
  · rw [if_pos hw]
    refine seq_i fun R2 _ => ?_
    simp only [sRet, eBin, eVar, eSl, oNo, oSome, sl_fro, add_fro, new_f, frz_l, List.getElem?_cons_zero, List.getElem?_cons_succ]
    have la : (cutA (men ++ men5) (some turn) none).length = 24 - turn.toNat := by rw [cut_suf t0 (by rw [men_len]; omega), men_len]
    have lb : (cutA (men ++ men5) none (some turn)).length = turn.toNat := cut_pre t0 (by rw [men_len]; omega)
    simp only [cut_map]
    refine ⟨by simp only [List.length_map]; omega, ?_⟩
    rw [← List.map_append, cut_map]
    refine q (cutA (cutA (men ++ men5) (some turn) none ++ cutA (men ++ men5) none (some turn)) none (some many)) _ ?_ ?_ (B9.more (by omega)) r9
    · rw [cut_pre h0 (by rw [List.length_append]; omega)]; omega
    · intro z mz
      have mz := cut_mem mz
      rcases List.mem_append.mp mz with mz | mz
      · exact men_wd z (cut_mem mz)
      · exact men_wd z (cut_mem mz)
  · rw [if_neg hw]
    have hw' : way ≠ 0 := by simpa using hw
    refine hR _ _ ?_
    clear hR R
    generalize hfar : way / 3 = far
    have f0 : 0 ≤ far := by omega
    have f1 : far ≤ 1 := by omega
    refine seq_i fun R hR => ?_
    simp only [sSet, eLc, iR1, eVar, gNm, List.getElem?_cons_zero, List.getElem?_cons_succ, List.set_cons_zero, List.set_cons_succ, new_f, frz_l]
    refine ⟨by omega, by omega, ?_⟩
    refine lc_inv 24 (by decide) (fun acc G' => ∃ ys : List Str, acc = ys.map A.str ∧ (∀ y ∈ ys, Cs low (1 + 7 * far.toNat) y ∧ 1 ≤ y.length) ∧ G' = G9) (fun _ _ _ => trivial) _ _ _ ?_ ⟨[], rfl, by simp, rfl⟩ (by simp only [List.length_nil, List.length_map, List.length_range]; omega) ?_
    · rintro x hx acc Gx Qx hl ⟨ys, rfl, hy, rfl⟩ qx
      simp only [List.mem_map, List.mem_range] at hx
      obtain ⟨k, hk, rfl⟩ := hx
      simp only [wipeA, eBin, eBi, eLst, eC, eVar, lCons, lNil, mulA, fdivA, modA, addA, intA, intOfA, List.set_cons_zero, List.set_cons_succ, List.getElem?_cons_zero, List.getElem?_cons_succ, new_f, frz_l, ixFro]
      refine ⟨small_mul (by decide) (by omega), ⟨by decide, by decide⟩, (by show 2 ≤ sizeLine; decide), ?_⟩
      have ix : ∃ v : Int, 0 ≤ v ∧ L2.atI [A.int (3 * (k : Int)), .int ((k : Int) / 8)] far = some (.int v) := by
        rcases (by omega : far = 0 ∨ far = 1) with rfl | rfl
        · exact ⟨_, by omega, at0⟩
        · exact ⟨_, by omega, at1⟩
      obtain ⟨v, v0, ev⟩ := ix
      simp only [atK, ev]
      refine ⟨by decide, ?_⟩
      obtain ⟨c, ec, hcl⟩ := char_at abc_low (i := (turn + v) % 26) (Int.emod_nonneg _ (by decide)) (by rw [abc_len]; exact Int.emod_lt_of_pos _ (by decide))
      refine ⟨by decide, c, ec, by decide, ?_⟩
      have m0 : 0 ≤ (k : Int) % 8 := Int.emod_nonneg _ (by decide)
      have m1 : (k : Int) % 8 < 8 := Int.emod_lt_of_pos _ (by decide)
      have mm : 0 ≤ (k : Int) % 8 * far ∧ (k : Int) % 8 * far ≤ 7 * far := by
        rcases (by omega : far = 0 ∨ far = 1) with rfl | rfl <;> constructor <;> omega
      refine ⟨small_mul (by omega) (by omega), MulOk.small (x := ⟨#[c]⟩) (by show 1 ≤ 1000; decide) (by omega) (by omega), ?_⟩
      refine qx _ _ ⟨ys ++ [Txt.mul ⟨#[c]⟩ (1 + (k : Int) % 8 * far)], by simp, ?_, rfl⟩
      intro y my
      rcases List.mem_append.mp my with my | my
      · exact hy y my
      · simp at my; subst my
        exact ⟨((Cs.one hcl).mul (n := 1 + 7 * far.toNat) (by omega)).more (by omega), mul_len1 (by omega)⟩
    rintro acc G10 hl10 ⟨ys, rfl, hy, rfl⟩
    simp only [List.length_map, List.length_range, List.length_nil, Nat.zero_add] at hl10
    refine hR _ _ ?_
    clear hR R
    refine seq_i fun R hR => ?_
    simp only [sSet, eBin, eBi, eC, eVar, lCons, lNil, gNm, mulA, eqInt, intOfA, Bool.false_eq_true, if_false, List.getElem?_cons_zero, List.getElem?_cons_succ, List.set_cons_zero, List.set_cons_succ]
    refine ⟨MulOk.small (by omega) (by split <;> omega) (by split <;> omega), hR _ _ ?_⟩
    clear hR R
    have hst2 : Cs low (7 - 7 * far.toNat) (Txt.mul stem (if (way == 2) = true then 1 else 0)) := by
      by_cases w2 : (way == 2) = true
      · rw [if_pos w2]
        have : way = 2 := by simpa using w2
        have e : far = 0 := by omega
        subst e
        exact (hstem.mul (n := 1) (by decide)).more (by decide)
      · rw [if_neg w2]
        exact (hstem.mul (n := 0) (by decide)).more (by omega)
    generalize Txt.mul stem (if (way == 2) = true then 1 else 0) = st2 at hst2 ⊢
    refine seq_i fun R _ => ?_
    simp only [sRet, eLc, iR1, eVar, List.getElem?_cons_zero, List.getElem?_cons_succ, new_f, frz_l]
    refine ⟨by omega, by omega, ?_⟩
    refine lc_inv 24 (by decide) (fun acc G' => ∃ zs : List Str, acc = zs.map A.str ∧ (∀ y ∈ zs, Wd y) ∧ G' = G10) (fun _ _ _ => trivial) _ _ _ ?_ ⟨[], rfl, by simp, rfl⟩ (by simp only [List.length_nil, List.length_map, List.length_range]; omega) ?_
    · rintro x hx acc Gx Qx hl ⟨zs, rfl, hzs, rfl⟩ qx
      simp only [List.mem_map, List.mem_range] at hx
      obtain ⟨k, hk, rfl⟩ := hx
      have hk2 : k < (ys.map A.str).length := by simp only [List.length_map]; omega
      simp only [wipeA, eBin, eSl, oNo, oSome, slA, eVar, addA, ixFro, atK, atI_nat hk2, List.getElem_map, List.set_cons_zero, List.set_cons_succ, List.getElem?_cons_zero, List.getElem?_cons_succ]
      have h2l := hst2.1
      obtain ⟨hyk, hy1⟩ := hy (ys[k]'(by simpa using hk2)) (List.getElem_mem _)
      have c1 := hst2.cut (lo := none) (hi := some at_)
      have c2 := hst2.cut (lo := some at_) (hi := none)
      have c3 := (c1.app hyk).app c2
      have d1 := c1.1
      have d2 := c2.1
      have d3 := (c1.app hyk).1
      have d4 := hyk.1
      have d5 := cutS_len (z := st2) a0
      refine ⟨by omega, by omega, by omega, by omega, qx _ _ ⟨zs ++ [cutS st2 none (some at_) ++ ys[k]'(by simpa using hk2) ++ cutS st2 (some at_) none], by simp, ?_, rfl⟩⟩
      intro y my
      rcases List.mem_append.mp my with my | my
      · exact hzs y my
      · simp at my; subst my
        refine ⟨⟨?_, c3.2⟩, ?_⟩ <;> rw [len_app, len_app] <;> omega
    rintro acc G11 hl11 ⟨zs, rfl, hzs, rfl⟩
    simp only [List.length_map, List.length_range, List.length_nil, Nat.zero_add] at hl11
    exact q zs _ (by omega) hzs (B9.more (by omega)) r9
end Q
/-! Y4: the package's kinds: what is an integer, a constant, a word, a fact, a term, an atom. -/
namespace Q
open PySem PySem.Spec PyProof.Rows L2
def tk_is_integer (c : Cal) : SA := (sSeq (sRet (eAnd (eIsi (eVar 0) ["int"]) (eNot (eIsi (eVar 0) ["bool"]))))
  sNx)
def tk_is_constant (c : Cal) : SA := (sSeq (sRet (eAnd (eCall c "is_integer" (lCons (eVar 0) lNil)) (eBin geA (eVar 0) (eC (.int 0)))))
  sNx)
def tk_is_word (c : Cal) : SA := (sSeq (sIf (bOr (bNot (bV (eIsi (eVar 0) ["str"]))) (bNot (bB (eChain leA leA (eC (.int 1)) (eBi lenD (lCons (eVar 0) lNil)) (eC (.int 8)))))) (sSeq (sRet (eC (.bl false)))
  sNx) sNx)
  (sSeq (sRet (eAnd (eM "str" (strB Txt.isascii) (eVar 0) lNil) (eAnd (eM "str" (strB Txt.isalpha) (eVar 0) lNil) (eM "str" (strB Txt.islower) (eVar 0) lNil))))
  sNx))
def tk_is_fact (c : Cal) : SA := (sSeq (sIf (bOr (bNot (bV (eIsi (eVar 0) ["tuple"]))) (bNot (bB (eChain leA leA (eC (.int 1)) (eBi lenD (lCons (eVar 0) lNil)) (eBin (addA false) (eC (.int 1)) (eC (.int 4))))))) (sSeq (sRet (eC (.bl false)))
  sNx) sNx)
  (sSeq (sRet (eAnd (eCall c "is_word" (lCons (eBin ixD (eVar 0) (eC (.int 0))) lNil)) (eBi (allA (·.all id)) (lCons (eLc false (iSeq (eSl false (eVar 0) (oSome (eC (.int 1))) oNo)) (gNm 1) bYes (eCall c "is_constant" (lCons (eVar 1) lNil)) [1]) lNil))))
  sNx))
def tk_is_variable (c : Cal) : SA := (sSeq (sRet (eCall c "is_word" (lCons (eVar 0) lNil)))
  sNx)
def tk_is_term (c : Cal) : SA := (sSeq (sRet (eOr (eCall c "is_constant" (lCons (eVar 0) lNil)) (eCall c "is_word" (lCons (eVar 0) lNil))))
  sNx)
def tk_is_atom (c : Cal) : SA := (sSeq (sIf (bOr (bNot (bV (eIsi (eVar 0) ["tuple"]))) (bNot (bB (eChain leA leA (eC (.int 1)) (eBi lenD (lCons (eVar 0) lNil)) (eBin (addA false) (eC (.int 1)) (eC (.int 4))))))) (sSeq (sRet (eC (.bl false)))
  sNx) sNx)
  (sSeq (sRet (eAnd (eCall c "is_word" (lCons (eBin ixD (eVar 0) (eC (.int 0))) lNil)) (eBi (allA (·.all id)) (lCons (eLc false (iSeq (eSl false (eVar 0) (oSome (eC (.int 1))) oNo)) (gNm 1) bYes (eCall c "is_term" (lCons (eVar 1) lNil)) [1]) lNil))))
  sNx))
def isIntB : A → Bool
  | .int _ => true
  | _ => false
def isConB : A → Bool
  | .int i => decide (0 ≤ i)
  | _ => false
def lowB (z : Str) : Bool := z.cps.toList.all fun c => decide (low c)
def wordB (z : Str) : Bool := decide (1 ≤ z.length) && decide (z.length ≤ 8) && lowB z
def isWordB : A → Bool
  | .str z => wordB z
  | _ => false
def isTermB (a : A) : Bool := isConB a || isWordB a
def isRowB (f : A → Bool) : A → Bool
  | .tup (x :: xs) => decide (xs.length ≤ 4) && (isWordB x && xs.all f)
  | _ => false
def isFactB : A → Bool := isRowB isConB
def isAtomB : A → Bool := isRowB isTermB
theorem word_of {z : Str} (h : Wd z) : wordB z = true := by
  unfold wordB lowB
  simp only [Bool.and_eq_true, decide_eq_true_eq, List.all_eq_true]
  exact ⟨⟨h.2, h.1.1⟩, h.1.2⟩
theorem of_word {z : Str} (h : wordB z = true) : Wd z := by
  unfold wordB lowB at h
  simp only [Bool.and_eq_true, decide_eq_true_eq, List.all_eq_true] at h
  exact ⟨⟨h.1.2, h.2⟩, h.1.1⟩
/-- a value without an address, of a kind that isinstance tells; texts are ascii, not long -/
def ty : A → Option String
  | .non => some "NoneType"
  | .bl _ => some "bool"
  | .int _ => some "int"
  | .str _ => some "str"
  | .tup _ => some "tuple"
  | .fro _ => some "list"
  | .fdc _ _ => some "dict"
  | _ => none
theorem ty_at {a : A} {t : String} (h : ty a = some t) (G : Gp) : tyName G a = some t := by cases a <;> simp only [ty, tyName, reduceCtorEq] at h ⊢ <;> exact h
def Kn (a : A) : Prop := (∃ t, ty a = some t) ∧ ∀ z, a = .str z → Cs asc 300 z
section
variable {FT : FTab} {n : Nat} {G : Gp} {a : A} {Q : KA} {X : KX}
theorem isi_int (h : ∃ t, ty a = some t) (q : Q (.bl (isIntB a)) G) : ∃ t, tyName G a = some t ∧ (if isiB t ["int"] = true then ∃ u, tyName G a = some u ∧ Q (.bl (!isiB u ["bool"])) G else Q (.bl (isiB t ["int"])) G) := by
  obtain ⟨t, e⟩ := h
  refine ⟨t, ty_at e G, ?_⟩
  cases a <;> simp only [ty, Option.some.injEq, reduceCtorEq] at e <;> subst e
  · exact q
  · exact ⟨_, rfl, q⟩
  · exact ⟨_, rfl, q⟩
  all_goals exact q
theorem is_integer_ok (hF : FT (Str.ofString "is_integer") = some ⟨1, 1, tk_is_integer⟩) (h : ∃ t, ty a = some t) (q : Q (.bl (isIntB a)) G) : runF FT (n + 1) "is_integer" [a] G Q X := by
  refine ⟨_, hF, rfl, ?_⟩
  show tk_is_integer (runF FT n) _ [some a] G
  refine seq_i fun R _ => ?_
  simp only [sRet, eAnd, eNot, eIsi, eVar, List.getElem?_cons_zero, truA]
  exact isi_int h q
theorem is_constant_ok (hI : FT (Str.ofString "is_integer") = some ⟨1, 1, tk_is_integer⟩) (hF : FT (Str.ofString "is_constant") = some ⟨1, 1, tk_is_constant⟩) (h : ∃ t, ty a = some t) (q : Q (.bl (isConB a)) G) : runF FT (n + 2) "is_constant" [a] G Q X := by
  refine ⟨_, hF, rfl, ?_⟩
  show tk_is_constant (runF FT (n + 1)) _ [some a] G
  refine seq_i fun R _ => ?_
  simp only [sRet, eAnd, eCall, eBin, eC, lCons, lNil, eVar, List.getElem?_cons_zero]
  refine is_integer_ok hI h ?_
  cases a <;> simp only [isIntB, truA, Bool.false_eq_true, if_false, if_true, geA] <;> exact q
theorem asc_facts : ∀ c : Fin 128, (Unicode.isAlpha c.1 && !(Unicode.isUpper c.1 || Unicode.isTitle c.1)) = decide (low c.1) ∧ (Unicode.isLower c.1 = decide (low c.1)) := by decide +kernel
theorem word_asc {z : Str} (h : Cs asc 300 z) (h1 : 1 ≤ z.length) : (Txt.isascii z && (Txt.isalpha z && Txt.islower z)) = lowB z ∧ Txt.isascii z = true := by
  have f : ∀ c ∈ z.cps.toList, (Unicode.isAlpha c && !(Unicode.isUpper c || Unicode.isTitle c)) = decide (low c) ∧ Unicode.isLower c = decide (low c) := fun c m => asc_facts ⟨c, h.2 c m⟩
  have ha : Txt.isascii z = true := by
    unfold Txt.isascii
    rw [Array.all_eq_true']
    intro c m
    have y : c < 128 := h.2 c (by simpa using m)
    simpa using y
  refine ⟨?_, ha⟩
  rw [ha, Bool.true_and, Bool.eq_iff_iff]
  unfold Txt.isalpha Txt.islower lowB
  simp only [Bool.and_eq_true, decide_eq_true_eq, Array.all_eq_true', Array.any_eq_true', Bool.not_eq_true', List.all_eq_true]
  constructor
  · rintro ⟨⟨_, al⟩, _, an⟩ c m
    have h1 := (f c m).1
    have h2 := al c (by simpa using m)
    have h3 : (Unicode.isUpper c || Unicode.isTitle c) = false := by
      rw [Array.any_eq_false'] at an
      have := an c (by simpa using m)
      simpa using this
    rw [h2, h3] at h1
    simpa using h1
  · intro hl
    have g : ∀ c ∈ z.cps, Unicode.isAlpha c = true ∧ (Unicode.isUpper c || Unicode.isTitle c) = false ∧ Unicode.isLower c = true := by
      intro c m
      have m' : c ∈ z.cps.toList := by simpa using m
      have h1 := f c m'
      have h2 : decide (low c) = true := by simpa using hl c m'
      rw [h2] at h1
      simp only [Bool.and_eq_true, Bool.not_eq_true'] at h1
      exact ⟨h1.1.1, h1.1.2, h1.2⟩
    refine ⟨⟨h1, fun c m => (g c m).1⟩, ?_, ?_⟩
    · have hz : 0 < z.cps.size := h1
      exact ⟨z.cps[0], Array.getElem_mem _, (g _ (Array.getElem_mem _)).2.2⟩
    · rw [Array.any_eq_false']
      intro c m
      have := (g c m).2.1
      simpa using this
theorem not_str {t : String} (e : ty a = some t) (h : ∀ z, a ≠ .str z) : isiB t ["str"] = false := by
  cases a <;> simp only [ty, Option.some.injEq, reduceCtorEq] at e <;> subst e <;> first | decide | exact absurd rfl (h _)
theorem not_tup {t : String} (e : ty a = some t) (h : ∀ z, a ≠ .tup z) : isiB t ["tuple"] = false := by
  cases a <;> simp only [ty, Option.some.injEq, reduceCtorEq] at e <;> subst e <;> first | decide | exact absurd rfl (h _)
theorem is_word_ok (hF : FT (Str.ofString "is_word") = some ⟨1, 1, tk_is_word⟩) (h : Kn a) (q : Q (.bl (isWordB a)) G) : runF FT (n + 1) "is_word" [a] G Q X := by
  refine ⟨_, hF, rfl, ?_⟩
  show tk_is_word (runF FT n) _ [some a] G
  have hz : sizeLine = 16777216 := by decide
  obtain ⟨⟨t, e⟩, hs⟩ := h
  refine seq_i fun R hR => ?_
  simp only [sIf, sNx, bOr, bNot, bV, eIsi, eVar, List.getElem?_cons_zero, truA]
  refine ⟨t, ty_at e G, ?_⟩
  have no : isWordB a = false → sSeq (sRet (eC (.bl false))) sNx { nx := R, rt := Q, ex := fun e _ G' => X e G' } [some a] G := fun w => by
    refine seq_i fun R _ => ?_
    rw [w] at q
    exact q
  by_cases hst : ∃ z, a = .str z
  · obtain ⟨z, rfl⟩ := hst
    cases e
    have hc := hs z rfl
    have hl := hc.1
    have i1 : isiB "str" ["str"] = true := by decide
    simp only [i1, Bool.not_true, Bool.false_eq_true, if_false, bB, eChain, eC, eBi, lCons, lNil, eVar, lenD, dctOf, lenA, leA, List.getElem?_cons_zero]
    refine ⟨by omega, ?_⟩
    by_cases b1 : (1 : Int) ≤ (z.length : Int)
    · rw [decide_eq_true b1]
      simp only [Bool.not_true, Bool.false_eq_true, if_false, if_true]
      by_cases b2 : (z.length : Int) ≤ 8
      · rw [decide_eq_true b2]
        simp only [Bool.not_true, Bool.false_eq_true, if_false]
        refine hR _ _ (seq_i fun R _ => ?_)
        obtain ⟨w1, w2⟩ := word_asc hc (by omega)
        have e1 : isWordB (.str z) = lowB z := by
          simp only [isWordB, wordB]
          rw [decide_eq_true (p := 1 ≤ z.length) (by omega), decide_eq_true (p := z.length ≤ 8) (by omega)]; simp
        rw [e1, ← w1, w2, Bool.true_and] at q
        simp only [sRet, eAnd, eM, eVar, lNil, strB, tyA, List.getElem?_cons_zero]
        refine ⟨trivial, z, rfl, trivial, ?_⟩
        simp only [truA, w2, if_true]
        refine ⟨trivial, z, rfl, trivial, ?_⟩
        cases w3 : Txt.isalpha z
        · rw [w3] at q; simpa only [truA, Bool.false_eq_true, if_false, Bool.false_and] using q
        · rw [w3] at q
          simp only [truA, if_true]
          exact ⟨trivial, z, rfl, trivial, by simpa only [Bool.true_and] using q⟩
      · rw [decide_eq_false b2]
        simp only [Bool.not_false, if_true]
        refine no ?_
        simp only [isWordB, wordB]
        rw [decide_eq_false (p := z.length ≤ 8) (by omega)]; simp
    · rw [decide_eq_false b1]
      simp only [Bool.not_false, if_true]
      refine no ?_
      simp only [isWordB, wordB]
      rw [decide_eq_false (p := 1 ≤ z.length) (by omega)]; simp
  · have i1 := not_str e fun z w => hst ⟨z, w⟩
    simp only [i1, Bool.not_false, if_true]
    exact no (by cases a <;> first | rfl | exact absurd ⟨_, rfl⟩ hst)
theorem is_variable_ok (hW : FT (Str.ofString "is_word") = some ⟨1, 1, tk_is_word⟩) (hF : FT (Str.ofString "is_variable") = some ⟨1, 1, tk_is_variable⟩) (h : Kn a) (q : Q (.bl (isWordB a)) G) : runF FT (n + 2) "is_variable" [a] G Q X := by
  refine ⟨_, hF, rfl, ?_⟩
  show tk_is_variable (runF FT (n + 1)) _ [some a] G
  refine seq_i fun R _ => ?_
  simp only [sRet, eCall, lCons, lNil, eVar, List.getElem?_cons_zero]
  exact is_word_ok hW h q
theorem is_term_ok (hI : FT (Str.ofString "is_integer") = some ⟨1, 1, tk_is_integer⟩) (hC : FT (Str.ofString "is_constant") = some ⟨1, 1, tk_is_constant⟩) (hW : FT (Str.ofString "is_word") = some ⟨1, 1, tk_is_word⟩)
    (hF : FT (Str.ofString "is_term") = some ⟨1, 1, tk_is_term⟩) (h : Kn a) (q : Q (.bl (isTermB a)) G) : runF FT (n + 3) "is_term" [a] G Q X := by
  refine ⟨_, hF, rfl, ?_⟩
  show tk_is_term (runF FT (n + 2)) _ [some a] G
  refine seq_i fun R _ => ?_
  simp only [sRet, eOr, eCall, lCons, lNil, eVar, List.getElem?_cons_zero]
  refine is_constant_ok hI hC h.1 ?_
  unfold isTermB at q
  cases w : isConB a
  · rw [w] at q
    simp only [truA, Bool.false_eq_true, if_false]
    exact is_word_ok hW h (by simpa only [Bool.false_or] using q)
  · rw [w] at q
    simp only [truA, if_true]
    simpa only [Bool.true_or] using q
theorem cut1 {α : Type} (x : α) (r : List α) : cutA (x :: r) (some 1) none = r := by
  unfold cutA
  simp only [HT.sIx, List.length_cons]
  rw [if_neg (by decide)]
  have e : min (Int.toNat 1) (r.length + 1) = 1 := by show min 1 (r.length + 1) = 1; omega
  rw [e]
  simp
/-- what may be asked for a row -/
def KnT (a : A) : Prop := Kn a ∧ ∀ xs, a = .tup xs → xs.length ≤ 1000 ∧ ∀ x ∈ xs, Kn x
/-- a row of a word and parts -/
theorem row_ok {f : A → Bool} {F : String} {name : String} {t : Cal → SA} (ht : ∀ c, t c = (sSeq (sIf (bOr (bNot (bV (eIsi (eVar 0) ["tuple"]))) (bNot (bB (eChain leA leA (eC (.int 1)) (eBi lenD (lCons (eVar 0) lNil)) (eBin (addA false) (eC (.int 1)) (eC (.int 4))))))) (sSeq (sRet (eC (.bl false)))
    sNx) sNx) (sSeq (sRet (eAnd (eCall c "is_word" (lCons (eBin ixD (eVar 0) (eC (.int 0))) lNil)) (eBi (allA (·.all id)) (lCons (eLc false (iSeq (eSl false (eVar 0) (oSome (eC (.int 1))) oNo)) (gNm 1) bYes (eCall c F (lCons (eVar 1) lNil)) [1]) lNil)))) sNx)))
    (hW : FT (Str.ofString "is_word") = some ⟨1, 1, tk_is_word⟩) (hf : ∀ x (G : Gp) (Q : KA) (X : KX), Kn x → Q (.bl (f x)) G → runF FT (n + 1) F [x] G Q X)
    (hF : FT (Str.ofString name) = some ⟨1, 2, t⟩) (h : KnT a) (q : Q (.bl (isRowB f a)) G) : runF FT (n + 2) name [a] G Q X := by
  refine ⟨_, hF, rfl, ?_⟩
  show t (runF FT (n + 1)) _ [some a, none] G
  rw [ht]
  obtain ⟨⟨⟨t, e⟩, hs⟩, hx⟩ := h
  refine seq_i fun R hR => ?_
  simp only [sIf, sNx, bOr, bNot, bV, eIsi, eVar, List.getElem?_cons_zero, truA]
  refine ⟨t, ty_at e G, ?_⟩
  have no : isRowB f a = false → sSeq (sRet (eC (.bl false))) sNx { nx := R, rt := Q, ex := fun e _ G' => X e G' } [some a, none] G := fun w => by
    refine seq_i fun R _ => ?_
    rw [w] at q
    exact q
  by_cases hst : ∃ z, a = .tup z
  · obtain ⟨xs, rfl⟩ := hst
    cases e
    have i1 : isiB "tuple" ["tuple"] = true := by decide
    obtain ⟨hl, hk⟩ := hx xs rfl
    simp only [i1, Bool.not_true, Bool.false_eq_true, if_false, bB, eChain, eBin, eC, eBi, lCons, lNil, eVar, len_tup, leA, addA, List.getElem?_cons_zero]
    cases xs with
    | nil => exact no rfl
    | cons x r =>
      have b1 : (1 : Int) ≤ ((x :: r).length : Int) := by simp only [List.length_cons]; omega
      rw [decide_eq_true b1]
      simp only [Bool.not_true, Bool.false_eq_true, if_false, if_true]
      by_cases b2 : ((x :: r).length : Int) ≤ 1 + 4
      · rw [decide_eq_true b2]
        have b3 : r.length ≤ 4 := by simp only [List.length_cons] at b2; omega
        simp only [Bool.not_true, Bool.false_eq_true, if_false]
        refine hR _ _ (seq_i fun R _ => ?_)
        simp only [sRet, eAnd, eCall, eBin, eC, eBi, lCons, lNil, eVar, ixTup, atK, at0, List.getElem?_cons_zero]
        refine is_word_ok hW (hk x (by simp)) ?_
        have ef : isRowB f (.tup (x :: r)) = (isWordB x && r.all f) := by simp only [isRowB]; simp [b3]
        rw [ef] at q
        cases w : isWordB x
        · rw [w] at q
          simpa only [truA, Bool.false_eq_true, if_false, Bool.false_and] using q
        · rw [w] at q
          simp only [truA, if_true, eLc, iSeq, eSl, oNo, oSome, eC, slA, eVar, itOf, cut1, List.getElem?_cons_zero, new_f, frz_l]
          refine lc_map (f := fun y => .bl (f y)) trivial r [] ?_ (by simp only [List.length_nil]; unfold sizeLine; omega) ?_
          · intro y my Q2 q2
            simp only [wipeA, eCall, lCons, lNil, eVar, List.set_cons_zero, List.set_cons_succ, List.getElem?_cons_zero, List.getElem?_cons_succ]
            exact hf y _ _ _ (hk y (by simp [my])) q2
          · refine ⟨_, r.map f, rfl, ?_, ?_⟩
            · simp only [lstOf, List.nil_append, List.map_map]; rfl
            · have z : (r.map f).all id = r.all f := by rw [List.all_map]; rfl
              show Q (.bl ((r.map f).all id)) _
              rw [z]
              simpa only [Bool.true_and] using q
      · rw [decide_eq_false b2]
        have b3 : ¬ r.length ≤ 4 := by simp only [List.length_cons] at b2; omega
        simp only [Bool.not_false, if_true]
        exact no (by simp only [isRowB]; simp [b3])
  · have i1 := not_tup e fun z w => hst ⟨z, w⟩
    simp only [i1, Bool.not_false, if_true]
    exact no (by cases a <;> first | rfl | exact absurd ⟨_, rfl⟩ hst)
theorem is_fact_ok (hI : FT (Str.ofString "is_integer") = some ⟨1, 1, tk_is_integer⟩) (hC : FT (Str.ofString "is_constant") = some ⟨1, 1, tk_is_constant⟩) (hW : FT (Str.ofString "is_word") = some ⟨1, 1, tk_is_word⟩)
    (hF : FT (Str.ofString "is_fact") = some ⟨1, 2, tk_is_fact⟩) (h : KnT a) (q : Q (.bl (isFactB a)) G) : runF FT (n + 3) "is_fact" [a] G Q X :=
  row_ok (n := n + 1) (fun _ => rfl) hW (fun x G Q X k q => is_constant_ok hI hC k.1 q) hF h q
theorem is_atom_ok (hI : FT (Str.ofString "is_integer") = some ⟨1, 1, tk_is_integer⟩) (hC : FT (Str.ofString "is_constant") = some ⟨1, 1, tk_is_constant⟩) (hW : FT (Str.ofString "is_word") = some ⟨1, 1, tk_is_word⟩)
    (hT : FT (Str.ofString "is_term") = some ⟨1, 1, tk_is_term⟩) (hF : FT (Str.ofString "is_atom") = some ⟨1, 2, tk_is_atom⟩) (h : KnT a) (q : Q (.bl (isAtomB a)) G) : runF FT (n + 4) "is_atom" [a] G Q X :=
  row_ok (n := n + 2) (fun _ => rfl) hW (fun x G Q X k q => is_term_ok hI hC hW hT k q) hF h q
end
end Q
/-! Y5: data that print short; alike. -/
namespace Q
open PySem PySem.Spec PyProof.Rows L2
def tk_alike (c : Cal) : SA := (sSeq (sRet (eAnd (eBin (eqA false) (eVar 0) (eVar 1)) (eBin (eqA false) (eBi reprA (lCons (eVar 0) lNil)) (eBi reprA (lCons (eVar 1) lNil)))))
  sNx)
/-- signs of ascii -/
def As (t : Str) : Prop := ∀ c ∈ t.cps.toList, asc c
theorem As.app {x y : Str} (h : As x) (k : As y) : As (x ++ y) := fun c m => by
  rw [app_list] at m
  exact (List.mem_append.mp m).elim (h c) (k c)
instance (t : Str) : Decidable (As t) := by unfold As; infer_instance
theorem as_from : ∀ (ts : List Str) (k : Nat) (acc : Str), As acc → (∀ t ∈ ts, As t) → As (textFrom k acc ts)
  | [], k, acc, h, _ => h
  | t :: ts, k, acc, h, ht => by
    show As (textFrom (k + 1) (acc ++ (if k > 0 then ", " else "" : String) ++ t) ts)
    refine as_from ts (k + 1) _ ((h.app ?_).app (ht t (by simp))) fun x m => ht x (by simp [m])
    split
    · show As (Str.ofString ", "); decide +kernel
    · show As (Str.ofString ""); decide +kernel
theorem as_list {ts : List Str} (h : ∀ t ∈ ts, As t) : As (listText ts) := by
  have h1 : As (Str.ofString "[") := by decide +kernel
  have h2 : As (Str.ofString "]") := by decide +kernel
  exact (as_from ts 0 _ h1 h).app h2
theorem as_join : ∀ {ts : List Str}, (∀ t ∈ ts, As t) → As (Str.join ", " ts)
  | [], _ => by intro c m; simp [Str.join, Str.empty] at m
  | [x], h => h x (by simp)
  | x :: y :: ts, h => by
    have h1 : As (Str.ofString ", ") := by decide +kernel
    exact ((h x (by simp)).app h1).app (as_join (ts := y :: ts) fun t m => h t (List.mem_cons_of_mem _ m))
theorem as_tup {ts : List Str} (h : ∀ t ∈ ts, As t) : As (tupleText ts) := by
  have h1 : As (Str.ofString "(") := by decide +kernel
  refine (As.app (x := Str.ofString "(") h1 (as_join h)).app ?_
  split
  · show As (Str.ofString ",)"); decide +kernel
  · show As (Str.ofString ")"); decide +kernel
theorem as_dict {ts : List Str} (h : ∀ t ∈ ts, As t) : As (dictText ts) := by
  have h1 : As (Str.ofString "{") := by decide +kernel
  have h2 : As (Str.ofString "}") := by decide +kernel
  exact (As.app (x := Str.ofString "{") h1 (as_join h)).app h2
theorem rc_asc : ∀ c : Fin 128, (∀ d ∈ Builtin.Str.reprChar 39 c.1, asc d) ∧ ∀ d ∈ Builtin.Str.reprChar 34 c.1, asc d := by decide +kernel
theorem as_fold {q : Nat} (hq : q = 39 ∨ q = 34) : ∀ (l : List Nat) (acc : Array Nat), (∀ c ∈ acc.toList, asc c) → (∀ c ∈ l, asc c) → ∀ c ∈ (l.foldl (fun out c => out ++ (Builtin.Str.reprChar q c).toArray) acc).toList, asc c
  | [], acc, h, _ => h
  | c :: l, acc, h, hl => by
    refine as_fold hq l _ (fun d m => ?_) fun d m => hl d (by simp [m])
    rw [Array.toList_append] at m
    rcases List.mem_append.mp m with m | m
    · exact h d m
    · have := rc_asc ⟨c, hl c (by simp)⟩
      rcases hq with rfl | rfl
      · exact this.1 d (by simpa using m)
      · exact this.2 d (by simpa using m)
theorem as_repr {z : Str} (h : As z) : As (reprText z) := by
  have hq : reprQuote z = 39 ∨ reprQuote z = 34 := by
    unfold reprQuote; split <;> simp
  have hq2 : asc (reprQuote z) := by rcases hq with e | e <;> rw [e] <;> decide
  intro c m
  unfold reprText at m
  rw [Array.toList_push, ← Array.foldl_toList] at m
  rcases List.mem_append.mp m with m | m
  · exact as_fold hq z.cps.toList #[reprQuote z] (fun d m => by simp at m; subst m; exact hq2) h c m
  · simp only [List.mem_singleton] at m; subst m; exact hq2
theorem as_int (i : Int) : As (PyData.int i).shown := fun c m => by
  by_cases h : asc c
  · exact h
  · unfold asc at h
    exact absurd m (shown_int_free' ⟨by omega, .inr (by omega)⟩ i)
/-- data that print, not long -/
def Sm (D W : Nat) (d : PyData) : Prop := d.showable = true ∧ d.depth ≤ D ∧ Cs asc W d.shown
def Sms (D W : Nat) (ds : List PyData) : Prop := PyData.showableAll ds = true ∧ PyData.depthAll ds ≤ D ∧ ((PyData.shownAll ds).map (·.length)).sum + 2 * ds.length ≤ W ∧ ∀ t ∈ PyData.shownAll ds, As t
theorem Sm.more {D W D' W' : Nat} {d : PyData} (h : Sm D W d) (l : D ≤ D') (k : W ≤ W') : Sm D' W' d := ⟨h.1, Nat.le_trans h.2.1 l, h.2.2.more k⟩
/-- a value without an address that prints, not long -/
def Ok (D W : Nat) (a : A) : Prop := ∃ d, pyd a = some d ∧ Sm D W d
section
variable {D W D' W' : Nat}
theorem Ok.more {a : A} (h : Ok D W a) (l : D ≤ D') (k : W ≤ W') : Ok D' W' a := let ⟨d, e, s⟩ := h; ⟨d, e, s.more l k⟩
theorem Ok.non : Ok D (W + 5) .non := ⟨_, rfl, rfl, by simp [PyData.depth], by show 4 ≤ _; omega, (by decide +kernel : As (PyData.shown .none))⟩
theorem Ok.bl {b : Bool} : Ok D (W + 5) (.bl b) := ⟨_, rfl, rfl, by simp [PyData.depth], by
  have : (PyData.shown (.bool b)).length ≤ 5 := by cases b <;> decide
  omega, (by cases b <;> decide +kernel : As (PyData.shown (.bool b)))⟩
theorem Ok.int {i : Int} (h : i.natAbs < 10 ^ 62) : Ok D (W + 63) (.int i) := by
  have hl : i.natAbs.log2 < 206 := by
    by_cases z : i.natAbs = 0
    · rw [z]; decide
    · refine (Nat.log2_lt z).mpr (Nat.lt_of_lt_of_le h (by decide))
  have l1 := int_text_length_le10 (a := i) (k := 62) (by decide) h
  refine ⟨_, rfl, ?_, by simp [PyData.depth], ?_, as_int i⟩
  · simp only [PyData.showable, decide_eq_true_eq]; omega
  · have e : (PyData.int i).shown = Str.ofString (toString i) := by simp only [PyData.shown]
    rw [e, PySem.ofString_length]; omega
theorem Ok.str {z : Str} {L : Nat} (h : Cs asc L z) (hL : 10 * L + 2 ≤ W) : Ok D W (.str z) := by
  refine ⟨_, rfl, rfl, by simp [PyData.depth], ?_, ?_⟩
  · have e := StrLaws.reprText_len z fun c m => Nat.lt_of_lt_of_le (h.2 c m : c < 128) (by decide)
    have := h.1
    simp only [PyData.shown]
    omega
  · simp only [PyData.shown]
    exact as_repr h.2
theorem oks : ∀ xs : List A, (∀ x ∈ xs, Ok D W x) → ∃ ds, pyds xs = some ds ∧ ds.length = xs.length ∧ Sms D ((W + 2) * xs.length) ds
  | [], _ => ⟨[], rfl, rfl, rfl, by simp [PyData.depthAll], by simp [PyData.shownAll], by simp [PyData.shownAll]⟩
  | x :: xs, h => by
    obtain ⟨ds, h1, hl, h2, h3, h4, h5⟩ := oks xs fun y m => h y (by simp [m])
    obtain ⟨d, k1, k2, k3, k4, k5⟩ := h x (by simp)
    refine ⟨d :: ds, by simp only [pyds, k1, h1], by simp [hl], ?_, ?_, ?_, ?_⟩
    · simp only [PyData.showableAll, k2, h2, Bool.and_self]
    · simp only [PyData.depthAll]; omega
    · simp only [PyData.shownAll, List.map_cons, List.sum_cons, List.length_cons, Nat.mul_succ]; omega
    · intro t m
      simp only [PyData.shownAll] at m
      rcases List.mem_cons.mp m with rfl | m
      · exact k5
      · exact h5 t m
theorem Ok.tup {xs : List A} {L : Nat} (h : ∀ x ∈ xs, Ok D W x) (hl : xs.length ≤ L) (hW : (W + 2) * L + 3 ≤ W') (hD : D + 1 ≤ D') : Ok D' W' (.tup xs) := by
  obtain ⟨ds, h1, _, h2, h3, h4, h5⟩ := oks xs h
  have hm : (W + 2) * xs.length ≤ (W + 2) * L := Nat.mul_le_mul_left _ hl
  refine ⟨.tuple ds, by simp only [pyd, h1, Option.map_some], ?_, ?_, ?_, ?_⟩
  · simpa only [PyData.showable] using h2
  · simp only [PyData.depth]; omega
  · have a1 := tupleText_len_le (PyData.shownAll ds)
    rw [PyData.shownAll_length] at a1
    simp only [PyData.shown]; omega
  · simp only [PyData.shown]; exact as_tup h5
theorem Ok.fro {xs : List A} {L : Nat} (h : ∀ x ∈ xs, Ok D W x) (hl : xs.length ≤ L) (hW : (W + 2) * L + 3 ≤ W') (hD : D + 1 ≤ D') : Ok D' W' (.fro xs) := by
  obtain ⟨ds, h1, _, h2, h3, h4, h5⟩ := oks xs h
  have hm : (W + 2) * xs.length ≤ (W + 2) * L := Nat.mul_le_mul_left _ hl
  refine ⟨.list ds, by simp only [pyd, h1, Option.map_some], ?_, ?_, ?_, ?_⟩
  · simpa only [PyData.showable] using h2
  · simp only [PyData.depth]; omega
  · have a1 := listText_len_le (PyData.shownAll ds)
    rw [PyData.shownAll_length] at a1
    simp only [PyData.shown]; omega
  · simp only [PyData.shown]; exact as_list h5
theorem Ok.fdc0 (hD : 1 ≤ D) (hW : 2 ≤ W) : Ok D W (.fdc [] []) := ⟨.dict [], rfl, rfl, by show 1 ≤ D; exact hD, by show 2 ≤ W; exact hW, (by decide +kernel : As (PyData.shown (.dict [])))⟩
end
section
variable {G : Gp} {a : A} {Q : KA} {X : KX} {d : PyData} {D W : Nat}
theorem Sm.short (h : Sm D W d) (hW : W ≤ 16000000) : d.shown.length ≤ sizeLine := by
  have hz : sizeLine = 16777216 := by decide
  have := h.2.2.1
  omega
theorem repr_ok (e : pyd a = some d) (s : Sm D W d) (hD : D ≤ 60) (hW : W ≤ 16000000) (q : Q (.str d.shown) G) : reprA [a] G Q :=
  ⟨a, d, rfl, .of e, s.1, s.short hW, Nat.le_trans s.2.1 hD, q⟩
theorem alike_ok {FT : FTab} {n : Nat} (hF : FT (Str.ofString "_law_alike") = some ⟨2, 2, tk_alike⟩) {x y : A} (hx : Dt G x d) (hy : Dt G y d) (s : Sm D W d) (hD : D ≤ 60) (hW : W ≤ 16000000) (hs : SeqAt.shaped d = true) (he : PyData.eqv d d = true)
    (q : Q (.bl true) G) : runF FT (n + 1) "_law_alike" [x, y] G Q X := by
  refine ⟨_, hF, rfl, ?_⟩
  show tk_alike (runF FT n) _ [some x, some y] G
  refine seq_i fun R _ => ?_
  simp only [sRet, eAnd, eBin, eBi, eVar, lCons, lNil, List.getElem?_cons_zero, List.getElem?_cons_succ]
  refine .inl ⟨d, d, hx, hy, hs, hs, ?_⟩
  rw [he]
  simp only [Bool.false_eq_true, if_false, truA, if_true]
  refine ⟨x, d, rfl, hx, s.1, s.short hW, Nat.le_trans s.2.1 hD, y, d, rfl, hy, s.1, s.short hW, Nat.le_trans s.2.1 hD, ?_⟩
  show eqA false (.str d.shown) (.str d.shown) G Q
  rw [eqStr]
  simpa using q
/-- a for, by an invariant of the turn -/
theorem for_ix {g : GA} {tb : SA} {chk : Gp → Prop} {D : Fl} (I : Nat → En → Gp → Prop) (hc : ∀ k ς G, I k ς G → chk G) : ∀ (xs : List A) (k : Nat) (ς : En) (G : Gp),
    (∀ j x, xs[j]? = some x → ∀ ς G, I (k + j) ς G → ∀ D' : Fl, (∀ ς' G', I (k + j + 1) ς' G' → D'.nx ς' G') → (∀ ς' G', I (k + j + 1) ς' G' → D'.ct ς' G') → D'.rt = D.rt → D'.ex = D.ex → D'.bk = D.nx → g x ς G fun ς2 G2 => tb D' ς2 G2) →
    I k ς G → (∀ ς' G', I (k + xs.length) ς' G' → D.nx ς' G') → forR g tb chk xs D ς G
  | [], k, ς, G, _, h, q => ⟨hc _ _ _ h, q _ _ h⟩
  | x :: xs, k, ς, G, st, h, q => by
    refine ⟨hc _ _ _ h, ?_⟩
    have nx : ∀ ς' G', I (k + 1) ς' G' → forR g tb chk xs D ς' G' := fun ς' G' i => for_ix I hc xs (k + 1) ς' G'
      (fun j y m ς G a D' b c => st (j + 1) y (by simpa using m) ς G (by simpa only [Nat.add_assoc, Nat.add_comm 1] using a) D' (fun ς2 G2 z => b ς2 G2 (by simpa only [Nat.add_assoc, Nat.add_comm 1] using z)) (fun ς2 G2 z => c ς2 G2 (by simpa only [Nat.add_assoc, Nat.add_comm 1] using z))) i
      (fun ς2 G2 z => q ς2 G2 (by simpa only [List.length_cons, Nat.add_assoc, Nat.add_comm 1] using z))
    exact st 0 x rfl ς G h _ nx nx rfl rfl rfl
theorem all_take {f : A → Bool} {r : List A} {k : Nat} {y : A} (h : r[k]? = some y) : (r.take (k + 1)).all f = ((r.take k).all f && f y) := by
  rw [List.take_add_one, h]
  simp [List.all_append]
end
end Q
/-! Y6: a row in a drawn order. -/
namespace Q
open PySem PySem.Spec PyProof.Rows
def tk_mixed (c : Cal) : SA := (sSeq (sSet (eLst true lNil) (gNm 2))
  (sSeq (sFor (iSeq (eVar 1)) (gNm 3) (sSeq (sEx (eM "list" insertA (eVar 2) (lCons (eCall c "_law_take" (lCons (eVar 0) (lCons (eBin (addA false) (eBi lenD (lCons (eVar 2) lNil)) (eC (.int 1))) lNil))) (lCons (eVar 3) lNil))))
  sNx))
  (sSeq (sRet (eVar 2))
  sNx)))
theorem rm_comm {p b : Addr} {G : Gp} : rm b (rm p G) = rm p (rm b G) := by
  funext a
  by_cases h1 : a = b
  · subst h1
    by_cases h2 : a = p
    · subst h2; rfl
    · rw [rm_self, rm_ne h2, rm_self]
  · by_cases h2 : a = p
    · subst h2; rw [rm_ne h1, rm_self, rm_self]
    · rw [rm_ne h1, rm_ne h2, rm_ne h2, rm_ne h1]
theorem perm_ins {α : Type} (xs : List α) (i : Nat) (y : α) : (xs.take i ++ [y] ++ xs.drop i).Perm (xs ++ [y]) := by
  have h1 : (xs.take i ++ [y] ++ xs.drop i).Perm (xs.take i ++ (xs.drop i ++ [y])) := by
    rw [List.append_assoc]
    exact List.Perm.append_left _ List.perm_append_comm
  rwa [← List.append_assoc, List.take_append_drop] at h1
/-- what stays: all but the bag and a list of one's own -/
def Own (b p : Addr) (G0 G : Gp) : Prop := rm b (rm p G) = rm b G0
theorem Own.up {b p : Addr} {G0 G : Gp} {o : O} (h : Own b p G0 G) : Own b p G0 (up G p o) := by unfold Own; rw [rm_up]; exact h
theorem Own.take {b p : Addr} {G0 G G' : Gp} (h : Own b p G0 G) (r : rm b G' = rm b G) : Own b p G0 G' := by
  unfold Own at *
  rw [rm_comm, r, ← rm_comm]; exact h
theorem Own.new {b p : Addr} {G0 : Gp} {o : O} (h : G0 p = none) : Own b p G0 (Q.up G0 p o) := by unfold Own; rw [rm_new h]
theorem mixed_ok {FT : FTab} {n : Nat} {b : Addr} {P : Int} {G : Gp} {xs : List A} {Q : KA} {X : KX} (hT : FT (Str.ofString "_law_take") = some ⟨2, 7, tk_take⟩) (hM : FT (Str.ofString "_law_mixed") = some ⟨2, 4, tk_mixed⟩) (B : Bag b P G) (hP : P + 1000 ≤ 2 ^ 60) (hl : xs.length ≤ 1000)
    (q : ∀ ys G', ys.Perm xs → Bag b (P + xs.length) G' → rm b G' = rm b G → Q (.fro ys) G') : runF FT (n + 2) "_law_mixed" [.ref b, .fro xs] G Q X := by
  have hz : sizeLine = 16777216 := by decide
  refine ⟨_, hM, rfl, ?_⟩
  show tk_mixed (runF FT (n + 1)) _ [some (.ref b), some (.fro xs), none, none] G
  refine seq_i fun R hR => ?_
  simp only [sSet, eLst, lNil, gNm, new_t, List.set_cons_zero, List.set_cons_succ]
  refine ⟨by simp, fun p hp => hR _ _ ?_⟩
  have pb : p ≠ b := B.ne hp
  clear hR R
  refine seq_f fun R hR => ?_
  simp only [sFor, iSeq, eVar, itOf, List.getElem?_cons_zero, List.getElem?_cons_succ]
  refine for_ix (fun k ς G' => ∃ acc x, ς = [some (.ref b), some (.fro xs), some (.ref p), x] ∧ G' p = some (.lst acc) ∧ acc.Perm (xs.take k) ∧ Bag b (P + k) G' ∧ Own b p G G') (fun _ _ _ _ => trivial) xs 0 _ _ ?_ ⟨[], none, rfl, up_same, by simp, by simpa using B.new pb, Own.new hp⟩ ?_
  · rintro k y my ς G2 ⟨acc, x, rfl, g2, pm, B2, o2⟩ D' nx _ rt ex _
    simp only [Nat.zero_add] at g2 pm B2 o2 nx ⊢
    have hk : k < xs.length := (List.getElem?_eq_some_iff.mp my).1
    have la : acc.length = k := by rw [pm.length_eq, List.length_take]; omega
    simp only [gNm, List.set_cons_zero, List.set_cons_succ]
    refine seq_i fun R5 h5 => ?_
    simp only [sEx, eM, tyA, g2, eVar, eCall, eBin, eBi, eC, lCons, lNil, List.getElem?_cons_zero, List.getElem?_cons_succ, len_ref g2, addA]
    refine ⟨by simp, take_ok hT B2 (by omega) (by omega) (by omega) fun d G3 d0 d1 B3 r3 => ?_⟩
    have g3 : G3 p = some (.lst acc) := (keep r3 pb).trans g2
    refine ⟨p, acc, d, y, rfl, rfl, g3, by omega, d0, by omega, h5 _ _ (nx _ _ ⟨_, some y, rfl, up_same, ?_, ?_, (o2.take r3).up⟩)⟩
    · rw [List.take_add_one, my]
      exact (perm_ins acc _ y).trans (pm.append_right _)
    · exact (B3.new pb).more (by omega)
  · rintro ς G2 ⟨acc, x, rfl, g2, pm, B2, o2⟩
    simp only [Nat.zero_add, List.take_length] at g2 pm B2 o2
    refine hR _ _ (.frz 2 p (.lst acc) rfl g2 (.done ?_))
    refine seq_i fun R6 _ => ?_
    simp only [sRet, eVar, List.set_cons_zero, List.set_cons_succ, List.getElem?_cons_zero, List.getElem?_cons_succ]
    exact q acc _ pm (B2.same (rm_ne (Ne.symm pb))) o2
end Q
/-! Y7: comprehensions by an invariant of the turn; dicts that print; data without dicts. -/
namespace Q
open PySem PySem.Spec PyProof.Rows
/-- a list comprehension by an invariant of the turn -/
theorem lc_ix {g : GA} {tt : BA} {te : EA} {vs : List Nat} {chk : Gp → Prop} {Qf : List A → Gp → Prop} {ς : En} (I : Nat → List A → Gp → Prop) (hc : ∀ k acc G, I k acc G → chk G) : ∀ (xs : List A) (k : Nat) (acc : List A) (G : Gp),
    (∀ j x, xs[j]? = some x → ∀ acc G, I (k + j) acc G → ∀ N : List A → Gp → Prop, (∀ acc' G', I (k + j + 1) acc' G' → N acc' G') → g x (wipeA ς vs) G fun ς2 G2 => tt ς2 G2 (fun b G3 => if b = true then te ς2 G3 (fun y G4 => acc.length < sizeLine ∧ N (acc ++ [y]) G4) (fun _ _ => False) else N acc G3) (fun _ _ => False)) →
    I k acc G → (∀ acc' G', I (k + xs.length) acc' G' → Qf acc' G') → lcR g tt te vs chk Qf xs acc ς G
  | [], k, acc, G, _, h, q => ⟨hc _ _ _ h, q _ _ h⟩
  | x :: xs, k, acc, G, st, h, q => by
    refine ⟨hc _ _ _ h, ?_⟩
    refine st 0 x rfl acc G h (fun acc' G' => lcR g tt te vs chk Qf xs acc' ς G') fun acc' G' i => lc_ix I hc xs (k + 1) acc' G'
      (fun j y m acc G a N b => st (j + 1) y (by simpa using m) acc G (by simpa only [Nat.add_assoc, Nat.add_comm 1] using a) N (fun acc2 G2 z => b acc2 G2 (by simpa only [Nat.add_assoc, Nat.add_comm 1] using z))) i
      (fun acc2 G2 z => q acc2 G2 (by simpa only [List.length_cons, Nat.add_assoc, Nat.add_comm 1] using z))
/-- a dict comprehension by an invariant of the turn -/
theorem dc_ix {g : GA} {tt : BA} {tk tv : EA} {vs : List Nat} {chk : Gp → Prop} {Qf : List (A × A) → Gp → Prop} {ς : En} (I : Nat → List (A × A) → Gp → Prop) (hc : ∀ k acc G, I k acc G → chk G) : ∀ (xs : List A) (k : Nat) (acc : List (A × A)) (G : Gp),
    (∀ j x, xs[j]? = some x → ∀ acc G, I (k + j) acc G → ∀ N : List (A × A) → Gp → Prop, (∀ acc' G', I (k + j + 1) acc' G' → N acc' G') →
      g x (wipeA ς vs) G fun ς2 G2 => tt ς2 G2 (fun b G3 => if b = true then tk ς2 G3 (fun y G4 => tv ς2 G4 (fun z G5 => keyOk y acc = true ∧ acc.length < sizeLine ∧ N (putA acc y z) G5) (fun _ _ => False)) (fun _ _ => False) else N acc G3) (fun _ _ => False)) →
    I k acc G → (∀ acc' G', I (k + xs.length) acc' G' → Qf acc' G') → dcR g tt tk tv vs chk Qf xs acc ς G
  | [], k, acc, G, _, h, q => ⟨hc _ _ _ h, q _ _ h⟩
  | x :: xs, k, acc, G, st, h, q => by
    refine ⟨hc _ _ _ h, ?_⟩
    refine st 0 x rfl acc G h (fun acc' G' => dcR g tt tk tv vs chk Qf xs acc' ς G') fun acc' G' i => dc_ix I hc xs (k + 1) acc' G'
      (fun j y m acc G a N b => st (j + 1) y (by simpa using m) acc G (by simpa only [Nat.add_assoc, Nat.add_comm 1] using a) N (fun acc2 G2 z => b acc2 G2 (by simpa only [Nat.add_assoc, Nat.add_comm 1] using z))) i
      (fun acc2 G2 z => q acc2 G2 (by simpa only [List.length_cons, Nat.add_assoc, Nat.add_comm 1] using z))
/-- a dict as a tree -/
def dtr (kvs : List (A × A)) : A := .fdc (kvs.map (·.1)) (kvs.map (·.2))
theorem frz_d {kvs : List (A × A)} : frz (.dct kvs) = dtr kvs := rfl
theorem dct_dtr {G : Gp} {kvs : List (A × A)} : dctOf G (dtr kvs) = some kvs := by
  show some _ = some _
  rw [zip_maps]
theorem dct_ref {G : Gp} {p : Addr} {kvs : List (A × A)} (h : G p = some (.dct kvs)) : dctOf G (.ref p) = some kvs := by simp only [dctOf, h]
theorem dct_lst {G : Gp} {p : Addr} {xs : List A} (h : G p = some (.lst xs)) : dctOf G (.ref p) = none := by simp only [dctOf, h]
section
variable {D W D' W' : Nat}
theorem oks_kv : ∀ {ks vs : List A} {cs ds : List PyData}, pyds ks = some cs → pyds vs = some ds → ks.length = vs.length → (∀ x ∈ ks, Ok D W x) → (∀ x ∈ vs, Ok D W x) →
    PyData.showableKv (cs.zip ds) = true ∧ PyData.depthKv (cs.zip ds) ≤ D ∧ ((PyData.shownKv (cs.zip ds)).map (·.length)).sum + 2 * (cs.zip ds).length ≤ (2 * W + 4) * ks.length ∧ ∀ t ∈ PyData.shownKv (cs.zip ds), As t
  | [], [], cs, ds, h1, h2, _, _, _ => by
    simp only [pyds, Option.some.injEq] at h1; subst h1
    exact ⟨rfl, by simp [PyData.depthKv], by simp [PyData.shownKv], by simp [PyData.shownKv]⟩
  | k :: ks, v :: vs, cs, ds, h1, h2, hl, hk, hv => by
    obtain ⟨c, e1, s1⟩ := hk k (by simp)
    obtain ⟨d, e2, s2⟩ := hv v (by simp)
    simp only [pyds, e1] at h1
    simp only [pyds, e2] at h2
    cases q1 : pyds ks with
    | none => rw [q1] at h1; cases h1
    | some cs' =>
      cases q2 : pyds vs with
      | none => rw [q2] at h2; cases h2
      | some ds' =>
        rw [q1] at h1; rw [q2] at h2
        cases h1; cases h2
        obtain ⟨a2, a3, a4, a5⟩ := oks_kv q1 q2 (by simpa using hl) (fun x m => hk x (by simp [m])) (fun x m => hv x (by simp [m]))
        obtain ⟨b2, b3, b4, b5⟩ := s1
        obtain ⟨c2, c3, c4, c5⟩ := s2
        refine ⟨?_, ?_, ?_, ?_⟩
        · simp only [List.zip_cons_cons, PyData.showableKv, b2, c2, a2, Bool.and_self]
        · simp only [List.zip_cons_cons, PyData.depthKv]; omega
        · have e3 : (c.shown ++ ": " ++ d.shown).length = c.shown.length + 2 + d.shown.length := by
            rw [len_app, len_app]; rfl
          simp only [List.zip_cons_cons, PyData.shownKv, List.map_cons, List.sum_cons, List.length_cons, Nat.mul_succ]
          omega
        · intro t m
          simp only [List.zip_cons_cons, PyData.shownKv] at m
          rcases List.mem_cons.mp m with rfl | m
          · have h1 : As (Str.ofString ": ") := by decide +kernel
            exact (As.app b5 h1).app c5
          · exact a5 t m
  | [], _ :: _, _, _, _, _, h, _, _ => by simp at h
  | _ :: _, [], _, _, _, _, h, _, _ => by simp at h
theorem Ok.dtr {kvs : List (A × A)} {L : Nat} (h : ∀ p ∈ kvs, Ok D W p.1 ∧ Ok D W p.2) (hl : kvs.length ≤ L) (hW : (2 * W + 4) * L + 3 ≤ W') (hD : D + 1 ≤ D') : Ok D' W' (dtr kvs) := by
  have hk : ∀ x ∈ kvs.map (·.1), Ok D W x := fun x m => by obtain ⟨p, mp, rfl⟩ := List.mem_map.mp m; exact (h p mp).1
  have hv : ∀ x ∈ kvs.map (·.2), Ok D W x := fun x m => by obtain ⟨p, mp, rfl⟩ := List.mem_map.mp m; exact (h p mp).2
  obtain ⟨cs, h1, _, _⟩ := oks _ hk
  obtain ⟨ds, h2, _, _⟩ := oks _ hv
  obtain ⟨a2, a3, a4, a5⟩ := oks_kv h1 h2 (by simp) hk hv
  have hm : (2 * W + 4) * (kvs.map (·.1)).length ≤ (2 * W + 4) * L := Nat.mul_le_mul_left _ (by simpa using hl)
  refine ⟨.dict (cs.zip ds), by simp only [Q.dtr, pyd, h1, h2, List.length_map, if_true], ?_, ?_, ?_, ?_⟩
  · simpa only [PyData.showable] using a2
  · simp only [PyData.depth]; omega
  · have a1 := dictText_len_le (PyData.shownKv (cs.zip ds))
    rw [PyData.shownKv_length] at a1
    simp only [PyData.shown]; omega
  · simp only [PyData.shown]; exact as_dict a5
end
/-! data without dicts -/
/-- a datum without dicts, of texts that may be -/
def Pl (d : PyData) : Prop := PySem.W.alike d d = true ∧ d.canLay0 = true
def Pls (ds : List PyData) : Prop := PySem.W.alikeAll ds ds = true ∧ PyData.canLayAll0 ds = true
/-- a tree that prints, not long, without dicts -/
def Okp (D W : Nat) (a : A) : Prop := ∃ d, pyd a = some d ∧ Sm D W d ∧ Pl d
section
variable {D W D' W' : Nat}
theorem Okp.ok {a : A} (h : Okp D W a) : Ok D W a := let ⟨d, e, s, _⟩ := h; ⟨d, e, s⟩
theorem Okp.more {a : A} (h : Okp D W a) (l : D ≤ D') (k : W ≤ W') : Okp D' W' a := let ⟨d, e, s, z⟩ := h; ⟨d, e, s.more l k, z⟩
theorem Okp.non : Okp D (W + 5) .non := let ⟨d, e, s⟩ := Ok.non; ⟨d, e, s, by cases e; exact ⟨rfl, rfl⟩⟩
theorem Okp.bl {b : Bool} : Okp D (W + 5) (.bl b) := let ⟨d, e, s⟩ := Ok.bl; ⟨d, e, s, by cases e; exact ⟨rfl, rfl⟩⟩
theorem Okp.int {i : Int} (h : i.natAbs < 10 ^ 62) : Okp D (W + 63) (.int i) := let ⟨d, e, s⟩ := Ok.int h; ⟨d, e, s, by cases e; exact ⟨rfl, rfl⟩⟩
theorem lay_str {z : Str} {L : Nat} (h : Cs asc L z) : (PyData.str z).canLay0 = true := by
  simp only [PyData.canLay0, PyData.strOk, Array.all_eq_true_iff_forall_mem, decide_eq_true_eq]
  intro c m
  have : c < 128 := h.2 c (by simpa using m)
  omega
theorem Okp.str {z : Str} {L : Nat} (h : Cs asc L z) (hL : 10 * L + 2 ≤ W) : Okp D W (.str z) := let ⟨d, e, s⟩ := Ok.str h hL; ⟨d, e, s, by cases e; exact ⟨rfl, lay_str h⟩⟩
theorem okps : ∀ {xs : List A} {ds : List PyData}, pyds xs = some ds → (∀ x ∈ xs, Okp D W x) → Pls ds
  | [], ds, h, _ => by simp only [pyds, Option.some.injEq] at h; subst h; exact ⟨rfl, rfl⟩
  | x :: xs, ds, h, hx => by
    obtain ⟨d, e, _, z⟩ := hx x (by simp)
    simp only [pyds, e] at h
    cases q : pyds xs with
    | none => rw [q] at h; cases h
    | some ds' =>
      rw [q] at h; cases h
      obtain ⟨z1, z2⟩ := okps q fun y m => hx y (by simp [m])
      exact ⟨by simp only [PySem.W.alikeAll, z.1, z1, Bool.and_self], by simp only [PyData.canLayAll0, z.2, z2, Bool.and_self]⟩
theorem Okp.tup {xs : List A} {L : Nat} (h : ∀ x ∈ xs, Okp D W x) (hl : xs.length ≤ L) (hW : (W + 2) * L + 3 ≤ W') (hD : D + 1 ≤ D') : Okp D' W' (.tup xs) := by
  obtain ⟨d, e, s⟩ := Ok.tup (fun x m => (h x m).ok) hl hW hD
  refine ⟨d, e, s, ?_⟩
  simp only [pyd, Option.map_eq_some_iff] at e
  obtain ⟨ds, e1, rfl⟩ := e
  obtain ⟨z1, z2⟩ := okps e1 h
  exact ⟨by simpa only [PySem.W.alike] using z1, by simpa only [PyData.canLay0] using z2⟩
theorem Okp.fro {xs : List A} {L : Nat} (h : ∀ x ∈ xs, Okp D W x) (hl : xs.length ≤ L) (hW : (W + 2) * L + 3 ≤ W') (hD : D + 1 ≤ D') : Okp D' W' (.fro xs) := by
  obtain ⟨d, e, s⟩ := Ok.fro (fun x m => (h x m).ok) hl hW hD
  refine ⟨d, e, s, ?_⟩
  simp only [pyd, Option.map_eq_some_iff] at e
  obtain ⟨ds, e1, rfl⟩ := e
  obtain ⟨z1, z2⟩ := okps e1 h
  exact ⟨by simpa only [PySem.W.alike] using z1, by simpa only [PyData.canLay0] using z2⟩
end
/-- two values of the same data, without dicts -/
theorem alike_ok2 {FT : FTab} {n : Nat} {G : Gp} {Q : KA} {X : KX} {d : PyData} {D W : Nat} (hF : FT (Str.ofString "_law_alike") = some ⟨2, 2, tk_alike⟩) {x y : A} (hx : Dt G x d) (hy : Dt G y d) (s : Sm D W d) (hD : D ≤ 60) (hW : W ≤ 16000000) (al : Pl d)
    (q : Q (.bl true) G) : runF FT (n + 1) "_law_alike" [x, y] G Q X := by
  refine alike_ok hF hx hy s hD hW ?_ (PySem.W.eqv_refl_alike d al.1) q
  unfold SeqAt.shaped
  rw [al.2, decide_eq_true (Nat.le_trans s.2.1 (by omega))]; rfl
/-! what is sorted -/
theorem srt_strs {zs : List Str} (hl : zs.length ≤ sizeLine) : SrtOk (zs.map A.str) := by
  have md : ∀ d ∈ (zs.map A.str).map dOf, ∃ z, d = .str z := fun d m => by
    simp only [List.map_map, List.mem_map] at m
    obtain ⟨z, _, rfl⟩ := m
    exact ⟨z, rfl⟩
  refine ⟨fun x m => ?_, fun d m e n => ?_, .inr fun d m => ?_, fun x m => ?_, by simpa using hl⟩
  · obtain ⟨z, _, rfl⟩ := List.mem_map.mp m; rfl
  · obtain ⟨z, rfl⟩ := md d m
    obtain ⟨z', rfl⟩ := md e n
    rfl
  · obtain ⟨z, rfl⟩ := md d m
    exact ⟨by simp, by simp⟩
  · obtain ⟨z, _, rfl⟩ := List.mem_map.mp m
    exact Nat.zero_le _
theorem srt_mem {xs : List A} {x : A} : x ∈ srt xs ↔ x ∈ xs := (List.mergeSort_perm xs aLe).mem_iff
theorem srt_len {xs : List A} : (srt xs).length = xs.length := List.length_mergeSort ..
end Q
/-! Y8: atoms: their rows, changes, the three functions. -/
namespace Q
open PySem PySem.Spec PyProof.Rows
abbrev Key := L2.Key
/-- a term: a constant, a word -/
def Tm : Key → Prop
  | .inl i => 0 ≤ i ∧ i.natAbs < 10 ^ 62
  | .inr z => Wd z
theorem wd_asc {z : Str} (h : Wd z) : Cs asc 8 z := h.1.imp fun _ => low_asc
theorem tm_ok {k : Key} (h : Tm k) : Okp 0 100 (keyA k) := by
  cases k with
  | inl i => exact (Okp.int (W := 37) h.2)
  | inr z => exact Okp.str (wd_asc h) (by decide)
theorem keyA_int {i : Int} : keyA (.inl i) = .int i := rfl
theorem keyA_str {z : Str} : keyA (.inr z) = .str z := rfl
/-- an atom's row -/
def arow (w : Str) (ks : List Key) : A := .tup (.str w :: ks.map keyA)
theorem arow_ok {w : Str} {ks : List Key} {L : Nat} (hw : Wd w) (hk : ∀ k ∈ ks, Tm k) (hl : ks.length ≤ L) : Okp 1 (102 * (L + 1) + 3) (arow w ks) := by
  refine Okp.tup (D := 0) (W := 100) (L := L + 1) (fun x m => ?_) (by simpa using hl) (by omega) (by decide)
  rcases List.mem_cons.mp m with rfl | m
  · exact Okp.str (wd_asc hw) (by decide)
  · obtain ⟨k, mk, rfl⟩ := List.mem_map.mp m
    exact tm_ok (hk k mk)
/-- changes: words to terms -/
def Chg (kvs : List (A × A)) : Prop := ∀ p ∈ kvs, ∃ z k, p = (.str z, keyA k) ∧ Wd z ∧ Tm k
theorem valA_cons {p : A × A} {kvs : List (A × A)} {k : A} : valA (p :: kvs) k = if p.1 = k then some p.2 else valA kvs k := by
  unfold valA
  by_cases h : p.1 = k <;> simp [List.find?_cons, h]
theorem chg_key {kvs : List (A × A)} (h : Chg kvs) (k : Key) : keyOk (keyA k) kvs = true := by
  have a : (kvs.all fun p => (isK p.1).isSome) = true := by
    rw [List.all_eq_true]
    intro p m
    obtain ⟨z, k, rfl, _⟩ := h p m
    rfl
  cases k <;> simp only [keyA, keyOk, isK, Option.isSome_some, Bool.true_and] <;> exact a
theorem chg_int {kvs : List (A × A)} (h : Chg kvs) (i : Int) : valA kvs (.int i) = none := by
  induction kvs with
  | nil => rfl
  | cons p kvs ih =>
    obtain ⟨z, k, rfl, _⟩ := h p (by simp)
    rw [valA_cons, if_neg (by simp), ih fun q m => h q (by simp [m])]
theorem chg_val {kvs : List (A × A)} (h : Chg kvs) {k x : A} (e : valA kvs k = some x) : ∃ t, x = keyA t ∧ Tm t := by
  induction kvs with
  | nil => cases e
  | cons p kvs ih =>
    obtain ⟨z, t, rfl, _, ht⟩ := h p (by simp)
    rw [valA_cons] at e
    split at e
    · cases e; exact ⟨t, rfl, ht⟩
    · exact ih (fun q m => h q (by simp [m])) e
theorem chg_put {kvs : List (A × A)} (h : Chg kvs) {z : Str} {k : Key} (hz : Wd z) (hk : Tm k) : Chg (putA kvs (.str z) (keyA k)) := by
  unfold putA
  split
  · intro p m
    obtain ⟨q, mq, rfl⟩ := List.mem_map.mp m
    obtain ⟨z', k', rfl, h1, h2⟩ := h q mq
    split
    · exact ⟨z', k, rfl, h1, hk⟩
    · exact ⟨z', k', rfl, h1, h2⟩
  · intro p m
    rcases List.mem_append.mp m with m | m
    · exact h p m
    · simp only [List.mem_singleton] at m
      subst m; exact ⟨z, k, rfl, hz, hk⟩
theorem putA_len (kvs : List (A × A)) (k v : A) : (putA kvs k v).length ≤ kvs.length + 1 := by
  unfold putA
  split <;> simp
theorem chg_puts : ∀ {zs : List Str} {ks : List Key} {acc : List (A × A)}, Chg acc → (∀ z ∈ zs, Wd z) → (∀ k ∈ ks, Tm k) → Chg (putsA acc ((zs.map A.str).zip (ks.map keyA))) ∧ (putsA acc ((zs.map A.str).zip (ks.map keyA))).length ≤ acc.length + zs.length
  | [], ks, acc, h, _, _ => ⟨h, by simp [putsA]⟩
  | z :: zs, [], acc, h, _, _ => ⟨h, by simp [putsA]⟩
  | z :: zs, k :: ks, acc, h, hz, hk => by
    obtain ⟨a, b⟩ := chg_puts (zs := zs) (ks := ks) (chg_put h (hz z (by simp)) (hk k (by simp))) (fun y m => hz y (by simp [m])) (fun y m => hk y (by simp [m]))
    refine ⟨a, ?_⟩
    have := putA_len acc (.str z) (keyA k)
    refine Nat.le_trans b ?_
    simp only [List.length_cons]
    omega
theorem chg_ok {kvs : List (A × A)} {L : Nat} (h : Chg kvs) (hl : kvs.length ≤ L) : Ok 1 (204 * L + 3) (dtr kvs) :=
  Ok.dtr (D := 0) (W := 100) (fun p m => by
    obtain ⟨z, k, rfl, h1, h2⟩ := h p m
    exact ⟨Ok.str (wd_asc h1) (by decide), (tm_ok h2).ok⟩) hl (by omega) (by decide)
/-- a term, changed -/
def subA' (kvs : List (A × A)) (k : Key) : A := (valA kvs (keyA k)).getD (keyA k)
theorem sub_key {kvs : List (A × A)} (h : Chg kvs) {k : Key} (hk : Tm k) : ∃ t, subA' kvs k = keyA t ∧ Tm t := by
  unfold subA'
  cases e : valA kvs (keyA k) with
  | none => exact ⟨k, rfl, hk⟩
  | some x => obtain ⟨t, rfl, ht⟩ := chg_val h e; exact ⟨t, rfl, ht⟩
/-- the variables, one each, as they come -/
def vrF (acc : List Str) : Key → List Str
  | .inl _ => acc
  | .inr z => if z ∈ acc then acc else acc ++ [z]
def vrs (ks : List Key) : List Str := ks.foldl vrF []
theorem vrs_take {ks : List Key} {k : Nat} {t : Key} (h : ks[k]? = some t) : vrs (ks.take (k + 1)) = vrF (vrs (ks.take k)) t := by
  unfold vrs
  rw [List.take_add_one, h, List.foldl_append]; rfl
theorem vrs_len : ∀ (ks : List Key) (acc : List Str), (ks.foldl vrF acc).length ≤ acc.length + ks.length
  | [], acc => by simp
  | k :: ks, acc => by
    have h := vrs_len ks (vrF acc k)
    have : (vrF acc k).length ≤ acc.length + 1 := by
      cases k with
      | inl _ => exact Nat.le_succ _
      | inr z => simp only [vrF]; split <;> simp
    simp only [List.foldl_cons, List.length_cons]
    omega
theorem vrs_mem : ∀ (ks : List Key) (acc : List Str) (z : Str), z ∈ ks.foldl vrF acc → z ∈ acc ∨ Sum.inr z ∈ ks
  | [], acc, z, h => .inl h
  | k :: ks, acc, z, h => by
    rcases vrs_mem ks _ z h with h | h
    · cases k with
      | inl _ => exact .inl h
      | inr y =>
        simp only [vrF] at h
        split at h
        · exact .inl h
        · rcases List.mem_append.mp h with h | h
          · exact .inl h
          · simp only [List.mem_singleton] at h; subst h; exact .inr (by simp)
    · exact .inr (by simp [h])
def vkv (ss : List Str) : List (A × A) := ss.map fun z => (.str z, .bl true)
theorem vkv_put (ss : List Str) (z : Str) : putA (vkv ss) (.str z) (.bl true) = vkv (vrF ss (.inr z)) := by
  have e : ((vkv ss).any fun p => decide (p.1 = A.str z)) = decide (z ∈ ss) := by
    unfold vkv
    induction ss with
    | nil => simp
    | cons y ys ih =>
      rw [List.map_cons, List.any_cons, ih]
      by_cases h : y = z
      · subst h; simp
      · simp [h, Ne.symm h, eq_comm]
  unfold putA
  rw [e]
  simp only [vrF]
  by_cases h : z ∈ ss
  · rw [if_pos (by simpa using h), if_pos h]
    unfold vkv
    rw [List.map_map]
    apply List.map_congr_left
    intro y _
    show (if A.str y = A.str z then (A.str y, A.bl true) else (A.str y, A.bl true)) = (A.str y, A.bl true)
    split <;> rfl
  · rw [if_neg (by simpa using h), if_neg h]
    simp [vkv]
theorem vkv_key (ss : List Str) (z : Str) : keyOk (.str z) (vkv ss) = true := by
  simp only [keyOk, isK, Option.isSome_some, Bool.true_and, List.all_eq_true]
  intro p m
  obtain ⟨y, _, rfl⟩ := List.mem_map.mp m
  rfl
theorem vkv_keys (ss : List Str) : (vkv ss).map (·.1) = ss.map A.str := by
  unfold vkv; rw [List.map_map]; rfl
/-! ### the functions -/
def tk_name_of (c : Cal) : SA := (sSeq (sRet (eTup (lCons (eBin ixD (eVar 0) (eC (.int 0))) (lCons (eBin subA (eBi lenD (lCons (eVar 0) lNil)) (eC (.int 1))) lNil))))
  sNx)
def tk_variables_of (m : Bool) (c : Cal) : SA := (sSeq (sRet (eBi (sortA m) (lCons (eDc false (iSeq (eSl false (eVar 0) (oSome (eC (.int 1))) oNo)) (gNm 1) (bV (eIsi (eVar 1) ["str"])) (eVar 1) (eC (.bl true)) [1]) lNil)))
  sNx)
def tk_replaced (c : Cal) : SA := (sSeq (sRet (eBin (addA false) (eTup (lCons (eBin ixD (eVar 0) (eC (.int 0))) lNil)) (eBi tupleA (lCons (eLc false (iSeq (eSl false (eVar 0) (oSome (eC (.int 1))) oNo)) (gNm 2) bYes (eM "dict" getA (eVar 1) (lCons (eVar 2) (lCons (eVar 2) lNil))) [2]) lNil))))
  sNx)
theorem cut1' {α : Type} {x : α} {r : List α} : cutA (x :: r) (some 1) none = r := by
  unfold cutA
  simp only [HT.sIx, List.length_cons]
  rw [if_neg (by omega)]
  have : min (1 : Int).toNat (r.length + 1) = 1 := by simp
  simp
section
variable {FT : FTab} {n : Nat} {G : Gp} {Q : KA} {X : KX} {w : Str} {ks : List Key}
theorem isi_term (k : Key) {ς : En} {i : Nat} (hi : ς[i]? = some (some (keyA k))) {R : A → Gp → Prop} {X : KX} : eIsi (eVar i) ["str"] ς G R X = R (.bl (match k with | .inl _ => false | .inr _ => true)) G := by
  have i1 : isiB "str" ["str"] = true := by decide
  have i2 : isiB "int" ["str"] = false := by decide
  cases k <;> simp only [eIsi, eVar, hi, keyA, tyName, Option.some.injEq, exists_eq_left', i1, i2]
theorem name_of_ok (hF : FT (Str.ofString "name_of") = some ⟨1, 1, tk_name_of⟩) (q : Q (.tup [.str w, .int ks.length]) G) : runF FT (n + 1) "name_of" [arow w ks] G Q X := by
  refine ⟨_, hF, rfl, ?_⟩
  show tk_name_of (runF FT n) _ [some (arow w ks)] G
  refine seq_i fun R _ => ?_
  have e : (((ks.map keyA).length + 1 : Nat) : Int) - 1 = (ks.length : Int) := by simp
  simp only [arow, sRet, eTup, eBin, eBi, eC, eVar, lCons, lNil, subA, intA, List.getElem?_cons_zero, ixD, dctOf, ixA, seqOf, lenD, lenA]
  refine ⟨_, _, rfl, at0, _, rfl, trivial, by show 2 ≤ sizeLine; decide, ?_⟩
  rw [List.length_cons, e]
  exact q
theorem variables_of_ok {m : Bool} (hF : FT (Str.ofString "variables_of") = some ⟨1, 2, tk_variables_of m⟩) (hl : ks.length ≤ 1000) (q : new m (.lst (srt ((vrs ks).map A.str))) G Q) : runF FT (n + 1) "variables_of" [arow w ks] G Q X := by
  refine ⟨_, hF, rfl, ?_⟩
  show tk_variables_of m (runF FT n) _ [some (arow w ks), none] G
  refine seq_i fun R _ => ?_
  have hz : sizeLine = 16777216 := by decide
  simp only [arow, sRet, eBi, lCons, lNil, eDc, iSeq, eSl, oNo, oSome, eC, eVar, slA, itOf, List.getElem?_cons_zero, cut1', new_f, frz_d]
  refine dc_ix (fun k acc G' => G' = G ∧ acc = vkv (vrs (ks.take k))) (fun _ _ _ _ => trivial) _ 0 _ _ ?_ ⟨rfl, rfl⟩ ?_
  · rintro j x mx acc G' ⟨rfl, rfl⟩ N nx
    rw [List.getElem?_map] at mx
    obtain ⟨k, mk, rfl⟩ := Option.map_eq_some_iff.mp mx
    simp only [Nat.zero_add] at nx ⊢
    have lv := vrs_len (ks.take j) []
    have hj : j < ks.length := (List.getElem?_eq_some_iff.mp mk).1
    have ll : (vkv (vrs (ks.take j))).length < sizeLine := by
      simp only [vkv, List.length_map]
      simp only [List.length_nil, List.length_take] at lv
      show (List.foldl vrF [] (List.take j ks)).length < _
      omega
    simp only [gNm, wipeA, bV, List.set_cons_zero, List.set_cons_succ]
    rw [isi_term k (i := 1) rfl]
    have e := vrs_take mk
    cases k with
    | inl i =>
      simp only [truA, Bool.false_eq_true, if_false]
      exact nx _ _ ⟨rfl, by rw [e]; rfl⟩
    | inr z =>
      simp only [truA, if_true, eVar, eC, keyA, List.getElem?_cons_zero, List.getElem?_cons_succ]
      exact ⟨vkv_key _ _, ll, nx _ _ ⟨rfl, by rw [e, vkv_put]⟩⟩
  · rintro acc G' ⟨rfl, rfl⟩
    simp only [Nat.zero_add, List.length_map, List.take_length]
    refine ⟨_, (vkv (vrs ks)).map (·.1), rfl, by simp only [itmOf, dct_dtr], ?_, by rw [vkv_keys]; exact q⟩
    rw [vkv_keys]
    refine srt_strs ?_
    have := vrs_len ks []
    simp only [List.length_nil] at this
    show (List.foldl vrF [] ks).length ≤ _
    omega
theorem replaced_ok {kvs : List (A × A)} {d : A} (hF : FT (Str.ofString "replaced") = some ⟨2, 3, tk_replaced⟩) (hd : ∃ k v, d = .fdc k v) (e : ∀ G, dctOf G d = some kvs) (hk : ∀ k ∈ ks, keyOk (keyA k) kvs = true) (hl : ks.length ≤ 1000) (q : Q (.tup (.str w :: ks.map (subA' kvs))) G) :
    runF FT (n + 1) "replaced" [arow w ks, d] G Q X := by
  refine ⟨_, hF, rfl, ?_⟩
  show tk_replaced (runF FT n) _ [some (arow w ks), some d, none] G
  refine seq_i fun R _ => ?_
  have hz : sizeLine = 16777216 := by decide
  obtain ⟨dk, dv, rfl⟩ := hd
  simp only [arow, sRet, eBin, eBi, eTup, lCons, lNil, eLc, iSeq, eSl, oNo, oSome, eC, eVar, slA, itOf, List.getElem?_cons_zero, List.getElem?_cons_succ, cut1', new_f, frz_l, ixTup, atK, at0]
  refine ⟨by show 1 ≤ sizeLine; decide, ?_⟩
  refine lc_map (f := fun x => (valA kvs x).getD x) trivial _ [] ?_ (by simp; omega) ?_
  · intro x mx Q' q'
    obtain ⟨k, mk, rfl⟩ := List.mem_map.mp mx
    simp only [wipeA, eM, tyA, eVar, lCons, lNil, getA, e, List.set_cons_zero, List.set_cons_succ, List.getElem?_cons_zero, List.getElem?_cons_succ]
    exact ⟨trivial, hk k mk, q'⟩
  · rw [tupleA_fro]
    simp only [addA, List.nil_append, List.map_map]
    exact ⟨by simp; omega, q⟩
end
end Q
/-! Y9: equations, macros of the steps, rows, keys in dicts, sorted rows. -/
namespace Q
open PySem PySem.Spec PyProof.Rows L2
section
variable {G : Gp} {Q : KA} {m : Bool} {i j : Int} {x y : Str} {xs ys : List A} {a b : A}
theorem addA_i : addA m (.int i) (.int j) G Q = Q (.int (i + j)) G := rfl
theorem addA_s : addA m (.str x) (.str y) G Q = (x.length + y.length ≤ sizeLine ∧ Q (.str (x ++ y)) G) := rfl
theorem addA_t : addA m (.tup xs) (.tup ys) G Q = (xs.length + ys.length ≤ sizeLine ∧ Q (.tup (xs ++ ys)) G) := rfl
theorem subA_i : subA (.int i) (.int j) G Q = Q (.int (i - j)) G := propext ⟨fun h => h.2, fun h => ⟨trivial, h⟩⟩
theorem modA_i : modA (.int i) (.int j) G Q = (0 < j ∧ Q (.int (i % j)) G) := rfl
theorem fdivA_i : fdivA (.int i) (.int j) G Q = (CDivW i j ∧ Q (.int (i / j)) G) := rfl
theorem powA_i : powA (.int i) (.int j) G Q = (CPow i j ∧ Q (.int (i ^ j.toNat)) G) := rfl
theorem mulA_i : mulA m (.int i) (.int j) G Q = (CMulW i j ∧ Q (.int (i * j)) G) := rfl
theorem mulA_s : mulA m (.str x) (.int j) G Q = (MulOk x j ∧ Q (.str (Txt.mul x j)) G) := rfl
theorem ltA_i : ltA (.int i) (.int j) G Q = Q (.bl (decide (i < j))) G := rfl
theorem leA_i : leA (.int i) (.int j) G Q = Q (.bl (decide (i ≤ j))) G := rfl
theorem gtA_i : gtA (.int i) (.int j) G Q = Q (.bl (decide (j < i))) G := rfl
theorem geA_i : geA (.int i) (.int j) G Q = Q (.bl (decide (j ≤ i))) G := rfl
theorem len_str : lenD [.str x] G Q = (x.length ≤ sizeLine ∧ Q (.int x.length) G) := rfl
theorem sl_tup {lo hi : Option Int} : slA m (.tup xs) lo hi G Q = Q (.tup (cutA xs lo hi)) G := rfl
theorem sl_ref {p : Addr} {lo hi : Option Int} (h : G p = some (.lst xs)) : slA m (.ref p) lo hi G Q = new m (.lst (cutA xs lo hi)) G Q := by
  simp only [slA, lstOf, h]
  exact propext ⟨fun ⟨_, e1, q⟩ => by cases e1; exact q, fun q => ⟨xs, rfl, q⟩⟩
theorem ixDct {kvs : List (A × A)} {k z : A} (h : dctOf G a = some kvs) (ok : keyOk k kvs = true) (e : valA kvs k = some z) : ixD a k G Q = Q z G := by
  simp only [ixD, h]
  exact propext ⟨fun ⟨_, _, e1, q⟩ => by rw [e] at e1; cases e1; exact q, fun q => ⟨ok, z, e, q⟩⟩
theorem add_l (ha : lstOf G a = some xs) (hb : lstOf G b = some ys) : addA m a b G Q = (xs.length + ys.length ≤ sizeLine ∧ new m (.lst (xs ++ ys)) G Q) := by
  have h : addA m a b G Q = ∃ xs ys, lstOf G a = some xs ∧ lstOf G b = some ys ∧ xs.length + ys.length ≤ sizeLine ∧ new m (.lst (xs ++ ys)) G Q := by
    cases a <;> first | rfl | cases ha
  rw [h]
  exact propext ⟨fun ⟨_, _, e1, e2, q⟩ => by rw [ha] at e1; rw [hb] at e2; cases e1; cases e2; exact q, fun q => ⟨xs, ys, ha, hb, q⟩⟩
theorem lstOf_fro : lstOf G (.fro xs) = some xs := rfl
theorem lstOf_ref {p : Addr} (h : G p = some (.lst xs)) : lstOf G (.ref p) = some xs := by simp only [lstOf, h]
theorem tupleA_l (h : seqOf G a = some xs) : tupleA [a] G Q = Q (.tup xs) G :=
  propext ⟨fun ⟨_, _, e, e1, q⟩ => by cases e; rw [h] at e1; cases e1; exact q, fun q => ⟨_, xs, rfl, h, q⟩⟩
theorem listA_l (h : seqOf G a = some xs) : listA m [a] G Q = new m (.lst xs) G Q :=
  propext ⟨fun ⟨_, _, e, e1, q⟩ => by cases e; rw [h] at e1; cases e1; exact q, fun q => ⟨_, xs, rfl, h, q⟩⟩
/-- == of data -/
theorem eq_dat {neg : Bool} {d e : PyData} (ha : Dt G a d) (hb : Dt G b e) (s1 : SeqAt.shaped d = true) (s2 : SeqAt.shaped e = true) (q : Q (.bl (if neg then !PyData.eqv d e else PyData.eqv d e)) G) : eqA neg a b G Q :=
  .inl ⟨d, e, ha, hb, s1, s2, q⟩
end
theorem eMk_eq (cl : CT) (c : Cal) (C : Str) (t : LA) (ds : List A) : eMk cl c C t ds = fun ς G Q X => t ς G (fun as G1 => mkA cl c C (as ++ ds) G1 Q X) X := rfl
def meA (cl : CT) (mn : Str) (x : A) (G1 : Gp) (K : String → Prop) : Prop := ∃ C ns F, clsOf G1 x = some (C, ns) ∧ ns.contains mn = false ∧ mthOf cl C mn = some F ∧ K F
theorem eMe_eq (cl : CT) (c : Cal) (mn : Str) (to : EA) (t : LA) : eMe cl c mn to t = fun ς G Q X => to ς G (fun x G1 => meA cl mn x G1 fun F => t ς G1 (fun as G2 => c F (x :: as) G2 Q X) X) X := by
  funext ς G Q X
  simp only [eMe, meA]
def fldA (cl : CT) (f : Str) (x : A) (G1 : Gp) (Q : KA) : Prop := ∃ C ns y, clsOf G1 x = some (C, ns) ∧ isFl cl C f = true ∧ fldOf G1 f x = some y ∧ Q y G1
theorem eFld_eq (cl : CT) (f : Str) (ta : EA) : eFld cl f ta = fun ς G Q X => ta ς G (fun x G1 => fldA cl f x G1 Q) X := rfl
theorem it_tup {xs : List A} {G : Gp} {R : List A → (Gp → Prop) → Gp → Prop} : itOf (.tup xs) G R = R xs yes G := rfl
theorem it_fro {xs : List A} {G : Gp} {R : List A → (Gp → Prop) → Gp → Prop} : itOf (.fro xs) G R = R xs yes G := rfl
/-- a value whose items are xs -/
def SqA (G : Gp) (a : A) (xs : List A) : Prop := a = .fro xs ∨ a = .tup xs ∨ ∃ p, a = .ref p ∧ G p = some (.lst xs)
theorem SqA.it {G : Gp} {a : A} {xs : List A} {R : List A → (Gp → Prop) → Gp → Prop} (h : SqA G a xs) (q : ∀ chk : Gp → Prop, (∀ G', (∀ p, a = .ref p → G' p = G p) → chk G') → R xs chk G) : itOf a G R := by
  rcases h with rfl | rfl | ⟨p, rfl, e⟩
  · exact q _ fun _ _ => trivial
  · exact q _ fun _ _ => trivial
  · simp only [itOf, e]
    exact q _ fun G' h => (h p rfl).trans e
theorem SqA.seq {G : Gp} {a : A} {xs : List A} (h : SqA G a xs) : seqOf G a = some xs := by
  rcases h with rfl | rfl | ⟨p, rfl, e⟩
  · rfl
  · rfl
  · simp only [seqOf, lstOf, e]
theorem SqA.ty {G : Gp} {a : A} {xs : List A} (h : SqA G a xs) : ∃ t, tyName G a = some t ∧ isiB t ["list", "tuple"] = true := by
  rcases h with rfl | rfl | ⟨p, rfl, e⟩
  · exact ⟨"list", rfl, by decide⟩
  · exact ⟨"tuple", rfl, by decide⟩
  · exact ⟨"list", by simp only [tyName, e], by decide⟩
theorem SqA.keep {G G' : Gp} {a : A} {xs : List A} (h : SqA G a xs) (k : ∀ p, a = .ref p → G' p = G p) : SqA G' a xs := by
  rcases h with h | h | ⟨p, rfl, e⟩
  · exact .inl h
  · exact .inr (.inl h)
  · exact .inr (.inr ⟨p, rfl, (k p rfl).trans e⟩)
theorem run_i {FT : FTab} {n : Nat} {f : String} {as : List A} {G : Gp} {Q : KA} {X : KX} {k s : Nat} {t : Cal → SA} (ς : En) (h : FT (Str.ofString f) = some ⟨k, s, t⟩) (hl : as.length = k) (e : as.map some ++ List.replicate (s - k) none = ς)
    (g : t (runF FT n) { nx := fun _ G' => Q .non G', rt := Q, ex := fun e _ G' => X e G' } ς G) : runF FT (n + 1) f as G Q X := by
  subst e
  exact ⟨_, h, hl, g⟩
/-! ### rows -/
def frow (w : Str) (cs : List Int) : A := .tup (.str w :: cs.map .int)
def Cn (c : Int) : Prop := 0 ≤ c ∧ c.natAbs < 10 ^ 62
/-- a fact -/
def Fc (x : A) : Prop := ∃ w cs, x = frow w cs ∧ Wd w ∧ (∀ c ∈ cs, Cn c) ∧ cs.length ≤ 4
/-- a name -/
def Nm (x : A) : Prop := ∃ w n, x = frow w [n] ∧ Wd w ∧ 0 ≤ n ∧ n ≤ 4
theorem Nm.fc {x : A} (h : Nm x) : Fc x := by
  obtain ⟨w, n, rfl, hw, h0, h1⟩ := h
  refine ⟨w, [n], rfl, hw, fun c m => ?_, by simp⟩
  simp only [List.mem_singleton] at m; subst m
  exact ⟨h0, Nat.lt_of_le_of_lt (by omega : c.natAbs ≤ 4) (by decide)⟩
def fdat (w : Str) (cs : List Int) : PyData := .tuple (.str w :: cs.map .int)
theorem pyds_ints : ∀ cs : List Int, pyds (cs.map A.int) = some (cs.map .int)
  | [] => rfl
  | c :: cs => by simp only [List.map_cons, pyds, pyd, pyds_ints cs]
theorem pyd_frow (w : Str) (cs : List Int) : pyd (frow w cs) = some (fdat w cs) := by simp only [frow, pyd, pyds, pyds_ints]; rfl
theorem cn_ok {c : Int} (h : Cn c) : Okp 0 100 (.int c) := Okp.int (W := 37) h.2
theorem Fc.ok {x : A} (h : Fc x) : Okp 1 513 x := by
  obtain ⟨w, cs, rfl, hw, hc, hl⟩ := h
  refine Okp.tup (D := 0) (W := 100) (L := 5) (fun x m => ?_) (by simpa using hl) (by decide) (by decide)
  rcases List.mem_cons.mp m with rfl | m
  · exact Okp.str (wd_asc hw) (by decide)
  · obtain ⟨c, mc, rfl⟩ := List.mem_map.mp m
    exact cn_ok (hc c mc)
theorem Fc.isFact {x : A} (h : Fc x) : isFactB x = true := by
  obtain ⟨w, cs, rfl, hw, hc, hl⟩ := h
  simp only [isFactB, frow, isRowB, Bool.and_eq_true, decide_eq_true_eq, List.length_map, List.all_eq_true]
  refine ⟨hl, word_of hw, fun x m => ?_⟩
  obtain ⟨c, mc, rfl⟩ := List.mem_map.mp m
  simpa only [isConB, decide_eq_true_eq] using (hc c mc).1
theorem Fc.kn {x : A} (h : Fc x) : KnT x := by
  obtain ⟨w, cs, rfl, hw, hc, hl⟩ := h
  refine ⟨⟨⟨_, rfl⟩, fun z e => by cases e⟩, fun xs e => ?_⟩
  cases e
  refine ⟨by simp; omega, fun y m => ?_⟩
  rcases List.mem_cons.mp m with rfl | m
  · exact ⟨⟨_, rfl⟩, fun z e => by cases e; exact (wd_asc hw).more (by decide)⟩
  · obtain ⟨c, mc, rfl⟩ := List.mem_map.mp m
    exact ⟨⟨_, rfl⟩, fun z e => by cases e⟩
/-- the name of a fact -/
def nmA : A → A
  | .tup (.str w :: cs) => frow w [cs.length]
  | x => x
def cnsA : A → List A
  | .tup (_ :: cs) => cs
  | _ => []
theorem nmA_frow (w : Str) (cs : List Int) : nmA (frow w cs) = frow w [cs.length] := by simp [nmA, frow]
theorem cnsA_frow (w : Str) (cs : List Int) : cnsA (frow w cs) = cs.map .int := rfl
theorem Fc.nm {x : A} (h : Fc x) : Nm (nmA x) := by
  obtain ⟨w, cs, rfl, hw, hc, hl⟩ := h
  exact ⟨w, cs.length, nmA_frow w cs, hw, by omega, by omega⟩
/-! ### keys -/
/-- a row that is a key -/
def KR (x : A) : Prop := ∃ w cs, x = frow w cs
theorem Fc.kr {x : A} (h : Fc x) : KR x := let ⟨w, cs, e, _⟩ := h; ⟨w, cs, e⟩
theorem isKs_keys : ∀ ks : List Key, isKs (ks.map keyA) = some ks
  | [] => rfl
  | k :: ks => by
    have : isK (keyA k) = some k := by cases k <;> rfl
    simp only [List.map_cons, isKs, this, isKs_keys ks]
theorem frow_keys (w : Str) (cs : List Int) : frow w cs = .tup (((Sum.inr w : Key) :: cs.map Sum.inl).map keyA) := by
  simp only [frow, List.map_cons, List.map_map]; rfl
theorem KR.kt {x : A} (h : KR x) : (isKT x).isSome = true := by
  obtain ⟨w, cs, rfl⟩ := h
  rw [frow_keys, isKT, isKs_keys]; rfl
def kvT (ks : List A) : List (A × A) := ks.map fun k => (k, .bl true)
theorem kvT_keys (ks : List A) : (kvT ks).map (·.1) = ks := by
  unfold kvT; rw [List.map_map]; exact List.map_id _
theorem kvT_put (ks : List A) (k : A) : putA (kvT ks) k (.bl true) = kvT (ddF ks k) := by
  have e : ((kvT ks).any fun p => decide (p.1 = k)) = decide (k ∈ ks) := by
    unfold kvT
    induction ks with
    | nil => simp
    | cons y ys ih =>
      rw [List.map_cons, List.any_cons, ih]
      by_cases h : y = k
      · subst h; simp
      · simp [h, Ne.symm h, eq_comm]
  unfold putA
  rw [e]
  simp only [ddF]
  by_cases h : k ∈ ks
  · rw [if_pos (by simpa using h), if_pos h]
    unfold kvT
    rw [List.map_map]
    apply List.map_congr_left
    intro y _
    show (if y = k then (y, A.bl true) else (y, A.bl true)) = (y, A.bl true)
    split <;> rfl
  · rw [if_neg (by simpa using h), if_neg h]
    simp [kvT]
theorem kvT_keyR {ks : List A} {k : A} (h : KR k) (hk : ∀ x ∈ ks, KR x) : keyOk k (kvT ks) = true := by
  obtain ⟨w, cs, rfl⟩ := h
  have : (isKs (A.str w :: cs.map .int)).isSome = true := by
    have z := KR.kt ⟨w, cs, rfl⟩
    exact z
  simp only [frow, keyOk, this, Bool.true_and, List.all_eq_true]
  intro p m
  obtain ⟨y, my, rfl⟩ := List.mem_map.mp m
  exact (hk y my).kt
def IsI (x : A) : Prop := ∃ i : Int, x = .int i
theorem kvT_keyI {ks : List A} {k : A} (h : IsI k) (hk : ∀ x ∈ ks, IsI x) : keyOk k (kvT ks) = true := by
  obtain ⟨i, rfl⟩ := h
  simp only [keyOk, isK, Option.isSome_some, Bool.true_and, List.all_eq_true]
  intro p m
  obtain ⟨y, my, rfl⟩ := List.mem_map.mp m
  obtain ⟨j, rfl⟩ := hk y my
  rfl
theorem ddF_mem {acc : List A} {x y : A} : y ∈ ddF acc x ↔ y ∈ acc ∨ y = x := by
  unfold ddF
  split
  · rename_i h
    exact ⟨.inl, fun z => z.elim id fun e => by subst e; exact h⟩
  · simp
theorem ddF_len (acc : List A) (x : A) : (ddF acc x).length ≤ acc.length + 1 := by
  unfold ddF; split <;> simp
/-- {f(x): True for x in xs} of rows -/
theorem dc_keys {i : Nat} {tk : EA} {vs : List Nat} {chk : Gp → Prop} {Qf : List (A × A) → Gp → Prop} {ς : En} {G : Gp} (f : A → A) (hc : chk G) : ∀ (xs acc : List A),
    (∀ x ∈ xs, ∀ Q : KA, Q (f x) G → tk ((wipeA ς vs).set i (some x)) G Q (fun _ _ => False)) → (∀ x ∈ xs, KR (f x)) → (∀ k ∈ acc, KR k) → acc.length + xs.length < sizeLine →
    Qf (kvT ((xs.map f).foldl ddF acc)) G → dcR (gNm i) bYes tk (eC (.bl true)) vs chk Qf xs (kvT acc) ς G
  | [], acc, _, _, _, _, q => ⟨hc, q⟩
  | x :: xs, acc, st, hk, ha, hl, q => by
    refine ⟨hc, ?_⟩
    simp only [gNm, bYes, if_true]
    simp only [List.length_cons] at hl
    refine st x (by simp) _ ?_
    simp only [eC]
    refine ⟨kvT_keyR (hk x (by simp)) ha, by simp only [kvT, List.length_map]; omega, ?_⟩
    rw [kvT_put]
    have dl := ddF_len acc (f x)
    refine dc_keys f hc xs (ddF acc (f x)) (fun y m => st y (by simp [m])) (fun y m => hk y (by simp [m])) (fun k m => ?_) (by omega) q
    rcases ddF_mem.mp m with m | rfl
    · exact ha k m
    · exact hk x (by simp)
/-! ### sorted -/
theorem dOf_frow (w : Str) (cs : List Int) : dOf (frow w cs) = fdat w cs := by simp only [dOf, pyd_frow, Option.getD_some]
theorem alike_ints : ∀ cs ds : List Int, PySem.W.alikeAll (cs.map .int) (ds.map .int) = true
  | [], _ => by simp only [List.map_nil, PySem.W.alikeAll]
  | c :: cs, [] => by simp only [List.map_cons, List.map_nil, PySem.W.alikeAll]
  | c :: cs, d :: ds => by simp only [List.map_cons, PySem.W.alikeAll, PySem.W.alike, alike_ints cs ds, Bool.and_self]
theorem depth_ints : ∀ cs : List Int, PyData.depthAll (cs.map .int) = 0
  | [] => rfl
  | c :: cs => by simp only [List.map_cons, PyData.depthAll, PyData.depth, depth_ints cs]; rfl
theorem srt_rows {xs : List A} (h : ∀ x ∈ xs, KR x) (hl : xs.length ≤ sizeLine) : SrtOk xs := by
  have md : ∀ d ∈ xs.map dOf, ∃ w cs, d = fdat w cs := fun d m => by
    obtain ⟨x, mx, rfl⟩ := List.mem_map.mp m
    obtain ⟨w, cs, rfl⟩ := h x mx
    exact ⟨w, cs, dOf_frow w cs⟩
  refine ⟨fun x m => ?_, fun d m e n => ?_, .inl fun d m => ?_, fun x m => ?_, hl⟩
  · obtain ⟨w, cs, rfl⟩ := h x m; rw [pyd_frow]; rfl
  · obtain ⟨w, cs, rfl⟩ := md d m
    obtain ⟨w', cs', rfl⟩ := md e n
    simp only [fdat, PySem.W.alike, PySem.W.alikeAll, alike_ints, Bool.and_self]
  · obtain ⟨w, cs, rfl⟩ := md d m
    exact ⟨_, _, rfl⟩
  · obtain ⟨w, cs, rfl⟩ := h x m
    rw [dOf_frow]
    simp only [fdat, PyData.depth, PyData.depthAll, depth_ints]
    decide
theorem srt_ints {xs : List A} (h : ∀ x ∈ xs, IsI x) (hl : xs.length ≤ sizeLine) : SrtOk xs := by
  have md : ∀ d ∈ xs.map dOf, ∃ i, d = .int i := fun d m => by
    obtain ⟨x, mx, rfl⟩ := List.mem_map.mp m
    obtain ⟨i, rfl⟩ := h x mx
    exact ⟨i, rfl⟩
  refine ⟨fun x m => ?_, fun d m e n => ?_, .inr fun d m => ?_, fun x m => ?_, hl⟩
  · obtain ⟨i, rfl⟩ := h x m; rfl
  · obtain ⟨w, rfl⟩ := md d m
    obtain ⟨w', rfl⟩ := md e n
    rfl
  · obtain ⟨w, rfl⟩ := md d m
    exact ⟨by simp, by simp⟩
  · obtain ⟨i, rfl⟩ := h x m
    exact Nat.zero_le _
theorem dd_le (xs : List A) : (ddA xs).length ≤ xs.length := by
  have := dd_len xs []
  simp only [List.length_nil, Nat.zero_add] at this
  exact this
theorem set_rows {xs : List A} (h : ∀ x ∈ xs, KR x) (hl : (ddA xs).length < 63) : setOk xs := ⟨hl, .inl fun x m => (h x m).kt⟩
theorem set_ints {xs : List A} (h : ∀ x ∈ xs, IsI x) (hl : (ddA xs).length < 63) : setOk xs := ⟨hl, .inr fun x m => by obtain ⟨i, rfl⟩ := h x m; rfl⟩
theorem dd_srt {xs ys : List A} (ok : SrtOk xs) (h : ∀ x, x ∈ ys ↔ x ∈ xs) (hl : ys.length ≤ sizeLine) : srt (ddA ys) = srt (ddA xs) := by
  have ok2 : SrtOk (ddA xs) := ok.sub (fun y m => dd_mem.mp m) (Nat.le_trans (dd_le xs) ok.sz)
  refine srt_perm ok2 ?_
  exact dd_perm (dd_nodup ys) fun x => dd_mem.trans (h x)
/-- nothing of what was there is changed -/
def Ext (G G' : Gp) : Prop := ∀ a o, G a = some o → G' a = some o
theorem Ext.refl {G : Gp} : Ext G G := fun _ _ h => h
theorem Ext.trans {G G' G2 : Gp} (h : Ext G G') (k : Ext G' G2) : Ext G G2 := fun a o e => k a o (h a o e)
theorem Ext.new {G : Gp} {p : Addr} {o : O} (h : G p = none) : Ext G (up G p o) := fun a o' e => by rw [up_ne (ne_fresh e h)]; exact e
theorem Ext.bag {G G' : Gp} {b : Addr} {P : Int} (h : Ext G G') (B : Bag b P G) : Bag b P G' := by
  refine B.same ?_
  obtain ⟨_, _, _, _, z, _⟩ := B
  rw [z]; exact h _ _ z
mutual
theorem Dt.ext {G G' : Gp} (h : Ext G G') : ∀ {a : A} {d : PyData}, Dt G a d → Dt G' a d
  | _, _, .non => .non
  | _, _, .bl => .bl
  | _, _, .int => .int
  | _, _, .str => .str
  | _, _, .tup r => .tup (Dts.ext h r)
  | _, _, .fro r => .fro (Dts.ext h r)
  | _, _, .fdc r s l => .fdc (Dts.ext h r) (Dts.ext h s) l
  | _, _, .lst e r => .lst (h _ _ e) (Dts.ext h r)
  | _, _, .dct e r s => .dct (h _ _ e) (Dts.ext h r) (Dts.ext h s)
theorem Dts.ext {G G' : Gp} (h : Ext G G') : ∀ {a : List A} {d : List PyData}, Dts G a d → Dts G' a d
  | _, _, .nil => .nil
  | _, _, .cons r s => .cons (Dt.ext h r) (Dts.ext h s)
end
end Q
/-! Z1: the small world: kit, wide, facts; a row in a drawn order, as a list. -/
namespace Q
open PySem PySem.Spec PyProof.Rows
local macro_rules | `(tactic| walk_at "w") => `(tactic| simp only [sSet, sIf, sNx, sRet, sRetN, sEx, sFor, sPar, sFldA, eVar, eC, eBin, eNot, eAnd, eOr, eIf, eTup, eLst, eDct0, eBi, eCall, eM, eSl, oNo, oSome, eLc, eDc, eDis2, prs, eMk_eq, eMe_eq, eFs, fsA, eFmt, eFmtR, iSeq, iR1, it_tup, it_fro, eFld_eq, bV, bVC, bB, bNot, bAnd, bOr, bYes, gNm, gTup, gTs, lNil, lCons, new_f, new_t, frz_l, frz_d, wipeA, truA, tyA, List.getElem?_cons_zero, List.getElem?_cons_succ, List.set_cons_zero, List.set_cons_succ, List.cons_append, List.nil_append, List.append_nil, addA_i, addA_s, addA_t, add_fro, subA_i, modA_i, fdivA_i, powA_i, mulA_i, mulA_s, mul_fro, ltA_i, leA_i, gtA_i, geA_i, eqInt, eqStr, _root_.Q.len_str, len_fro, len_tup, sl_tup, sl_fro, ixFro, ixTup, tupleA_fro, tupleA_tup, listA_tup, listA_fro, intOfA, if_true, if_false, Bool.not_true, Bool.not_false, Bool.false_eq_true, decide_eq_true_eq, beq_self_eq_true, true_and])
theorem hz : sizeLine = 16777216 := by decide
theorem le_sz {m : Nat} (h : m ≤ 1000) : m ≤ sizeLine := by have := hz; omega
theorem h60 : (2 : Int) ^ 60 = 1152921504606846976 := by decide
theorem h59 : (2 : Int) ^ 59 = 576460752303423488 := by decide
theorem e62 : (10 : Nat) ^ 62 = 100000000000000000000000000000000000000000000000000000000000000 := by decide
def tk_kit (m : Bool) (m2 : Bool) (c : Cal) : SA := (sSeq (sSet (eTup (lCons (eCall c "_law_labels" (lCons (eVar 0) (lCons (eC (.int 5)) lNil))) (lCons (eCall c "_law_take" (lCons (eVar 0) (lCons (eC (.int 3)) lNil))) lNil))) (gTup [1, 2]))
  (sSeq (sSet (eLc true (iR1 (eBin (addA false) (eC (.int 2)) (eCall c "_law_take" (lCons (eVar 0) (lCons (eC (.int 3)) lNil))))) (gNm 4) bYes (eTup (lCons (eBin ixD (eVar 1) (eVar 4)) (lCons (eBin ixD (eLst false (lCons (eC (.int 0)) (lCons (eC (.int 1)) (lCons (eC (.int 1)) (lCons (eC (.int 2)) (lCons (eC (.int 2)) (lCons (eC (.int 2)) lNil))))))) (eCall c "_law_take" (lCons (eVar 0) (lCons (eC (.int 6)) lNil)))) lNil))) [4]) (gNm 3))
  (sSeq (sIf (bB (eBin (eqA false) (eCall c "_law_take" (lCons (eVar 0) (lCons (eC (.int 4)) lNil))) (eC (.int 0)))) (sSeq (sEx (eM "list" appendA (eVar 3) (lCons (eTup (lCons (eBin ixD (eBin ixD (eVar 3) (eC (.int 0))) (eC (.int 0))) (lCons (eBin subA (eC (.int 2)) (eBin ixD (eBin ixD (eVar 3) (eC (.int 0))) (eC (.int 1)))) lNil))) lNil)))
  sNx) sNx)
  (sSeq (sSet (eSl false (eBin ixD (eLst false (lCons (eLst false (lCons (eC (.int 0)) (lCons (eC (.int 1)) (lCons (eC (.int 2)) (lCons (eC (.int 3)) lNil))))) (lCons (eLst false (lCons (eC (.int 1)) (lCons (eC (.int 0)) (lCons (eBin powA (eC (.int 10)) (eC (.int 39))) (lCons (eC (.int 2)) lNil))))) (lCons (eLst false (lCons (eC (.int 7)) (lCons (eC (.int 10)) (lCons (eC (.int 9)) (lCons (eC (.int 0)) lNil))))) lNil)))) (eVar 2)) oNo (oSome (eBin (addA false) (eC (.int 2)) (eCall c "_law_take" (lCons (eVar 0) (lCons (eC (.int 2)) lNil)))))) (gNm 5))
  (sSeq (sRet (eDis2 m [((eC (.str (Str.ofString "names"))), (eBi (ssA m2) (lCons (eVar 3) lNil))), ((eC (.str (Str.ofString "constants"))), (eVar 5)), ((eC (.str (Str.ofString "variables"))), (eCall c "_law_labels" (lCons (eVar 0) (lCons (eC (.int 3)) lNil))))]))
  sNx)))))
def s_n : A := .str (Str.ofString "names")
def s_c : A := .str (Str.ofString "constants")
def s_v : A := .str (Str.ofString "variables")
def kitD (nms cs vs : List A) : List (A × A) := [(s_n, .fro nms), (s_c, .fro cs), (s_v, .fro vs)]
/-- what a kit holds -/
structure Kit (nms cs vs : List A) : Prop where
  nm : ∀ x ∈ nms, Nm x
  ne : nms ≠ []
  nl : nms.length ≤ 6
  cn : ∀ x ∈ cs, ∃ c, x = .int c ∧ Cn c
  cm : A.int (10 ^ 39 + 1) ∉ cs
  ce : cs ≠ []
  cl : cs.length ≤ 3
  vn : ∃ ws : List Str, vs = ws.map A.str ∧ (∀ w ∈ ws, Wd w)
  vl : vs.length = 3
/-- what stays: all but the bag -/
def Fr (b : Addr) (G G' : Gp) : Prop := ∀ a o, a ≠ b → G a = some o → G' a = some o
theorem Fr.refl {b : Addr} {G : Gp} : Fr b G G := fun _ _ _ h => h
theorem Fr.trans {b : Addr} {G G' G2 : Gp} (h : Fr b G G') (k : Fr b G' G2) : Fr b G G2 := fun a o n e => k a o n (h a o n e)
theorem Fr.rm {b : Addr} {G G' : Gp} (h : rm b G' = rm b G) : Fr b G G' := fun a o n e => (keep h n).trans e
theorem Fr.ext {b : Addr} {G G' : Gp} (h : Ext G G') : Fr b G G' := fun a o _ e => h a o e
theorem Fr.new {b p : Addr} {G : Gp} {o : O} (h : G p = none) : Fr b G (up G p o) := Fr.ext (Ext.new h)
/-- writing at what was not there -/
theorem Fr.wr {b p : Addr} {G G' : Gp} {o : O} (h : G p = none) (k : Fr b G G') : Fr b G (up G' p o) := fun a o' n e => by
  have : a ≠ p := ne_fresh e h
  rw [up_ne this]; exact k a o' n e
theorem kit_key {nms cs vs : List A} {k : A} (h : (isK k).isSome = true) : keyOk k (kitD nms cs vs) = true := by
  cases k <;> first | rfl | cases h
theorem kit_n {nms cs vs : List A} : valA (kitD nms cs vs) s_n = some (.fro nms) := rfl
theorem kit_c {nms cs vs : List A} : valA (kitD nms cs vs) s_c = some (.fro cs) := by
  unfold kitD
  have h1 : s_n ≠ s_c := by decide +kernel
  rw [valA_cons, if_neg h1, valA_cons, if_pos rfl]
theorem kit_v {nms cs vs : List A} : valA (kitD nms cs vs) s_v = some (.fro vs) := by
  unfold kitD
  have h1 : s_n ≠ s_v := by decide +kernel
  have h2 : s_c ≠ s_v := by decide +kernel
  rw [valA_cons, if_neg h1, valA_cons, if_neg h2, valA_cons, if_pos rfl]
theorem srt_dd_mem {xs : List A} {x : A} : x ∈ srt (ddA xs) ↔ x ∈ xs := srt_mem.trans dd_mem
theorem srt_dd_nodup (xs : List A) : (srt (ddA xs)).Nodup := ((List.mergeSort_perm (ddA xs) aLe).nodup_iff).mpr (dd_nodup xs)
theorem srt_dd_len (xs : List A) : (srt (ddA xs)).length ≤ xs.length := by rw [srt_len]; exact dd_le xs
theorem pl58 {P : Int} (h : P ≤ 2 ^ 58) : P ≤ 288230376151711744 := h
theorem kit_ok {m : Bool} {FT : FTab} {n : Nat} {b : Addr} {P : Int} {G : Gp} {Q : KA} {X : KX} (hT : FT (Str.ofString "_law_take") = some ⟨2, 7, tk_take⟩) (hL : FT (Str.ofString "_law_labels") = some ⟨2, 11, tk_labels⟩) (hF : FT (Str.ofString "_law_kit") = some ⟨1, 6, tk_kit m false⟩)
    (B : Bag b P G) (hP : P ≤ 2 ^ 58) (q : ∀ nms cs vs G', Kit nms cs vs → nms.length ≤ 5 → Bag b (P + 40) G' → Fr b G G' → new m (.dct (kitD nms cs vs)) G' Q) :
    runF FT (n + 3) "_law_kit" [.ref b] G Q X := by
  have := h60
  have := h59
  have hP2 := pl58 hP
  refine run_i [some (.ref b), none, none, none, none, none] hF rfl rfl ?_
  unfold tk_kit
  (refine seq_i fun R hR => ?_; try walk_at "w")
  refine labels_ok hT hL B (by omega) (by decide) (by decide) fun ws G1 hl hws B1 r1 => ?_
  refine take_ok (many := 3) hT B1 (by omega) (by decide) (by decide) fun far G2 f0 f1 B2 r2 => ⟨le_sz (by simp), rfl, ?_⟩
  (refine hR _ _ ?_; clear hR R)
  (refine seq_i fun R hR => ?_; try walk_at "w")
  refine take_ok (many := 3) hT B2 (by omega) (by decide) (by decide) fun d G3 d0 d1 B3 r3 => ⟨by omega, by omega, ?_⟩
  refine lc_inv 5 (by decide) (fun acc G' => (∀ x ∈ acc, ∃ w n, x = frow w [n] ∧ Wd w ∧ 0 ≤ n ∧ n ≤ 2) ∧ Bag b (P + 14 + acc.length) G' ∧ Fr b G G') (fun _ _ _ => trivial) _ _ _ ?_ ⟨by simp, B3.more (by simp; omega), ((Fr.rm r1).trans (Fr.rm r2)).trans (Fr.rm r3)⟩ (by simp; omega) ?_
  · rintro x hx acc Gx Qx hl2 ⟨hi, Bx, rx⟩ qx
    simp only [List.mem_map, List.mem_range] at hx
    obtain ⟨k, hk, rfl⟩ := hx
    walk_at "w"
    refine at_any (by omega) (by simp; omega) fun x mx => ⟨le_sz (by simp), ?_⟩
    obtain ⟨w, mw, rfl⟩ := List.mem_map.mp mx
    refine take_ok (many := 6) hT Bx (by omega) (by decide) (by decide) fun d4 G4 d40 d41 B4 r4 => ix_any d40 (by simpa using d41) fun y my => ?_
    have hy : ∃ n : Int, y = .int n ∧ 0 ≤ n ∧ n ≤ 2 := by
      simp only [List.mem_cons, List.not_mem_nil, or_false] at my
      rcases my with rfl | rfl | rfl | rfl | rfl | rfl <;> exact ⟨_, rfl, by decide, by decide⟩
    obtain ⟨nn, rfl, n0, n1⟩ := hy
    refine ⟨le_sz (by simp), qx _ _ ⟨fun z mz => ?_, B4.more (by simp; omega), rx.trans (Fr.rm r4)⟩⟩
    rcases List.mem_append.mp mz with mz | mz
    · exact hi z mz
    · simp only [List.mem_singleton] at mz; subst mz; exact ⟨w, nn, rfl, hws w mw, n0, n1⟩
  rintro acc G5 hl5 ⟨hacc, B5, r5⟩
  simp only [List.length_map, List.length_range, List.length_nil, Nat.zero_add] at hl5
  have l5 : 2 ≤ acc.length ∧ acc.length ≤ 4 := by omega
  intro p hp
  have pb : p ≠ b := B5.ne hp
  have B6 := B5.new (o := .lst acc) pb
  have r6 := r5.trans (Fr.new (b := b) (o := .lst acc) hp)
  have g6 : up G5 p (.lst acc) p = some (.lst acc) := up_same
  have np : G p = none := by
    cases e : G p with
    | none => rfl
    | some o => have := r5 p o pb e; rw [hp] at this; cases this
  generalize up G5 p (.lst acc) = G6 at B6 r6 g6 ⊢
  (refine hR _ _ ?_; clear hR R)
  (refine seq_i fun R hR => ?_; try walk_at "w")
  refine take_ok (many := 4) hT B6 (by omega) (by decide) (by decide) fun d7 G7 d70 d71 B7 r7 => ?_
  walk_at "w"
  have g7 : G7 p = some (.lst acc) := (keep r7 pb).trans g6
  have r7 := r6.trans (Fr.rm r7)
  have rest : ∀ (acc2 : List A) (G8 : Gp), (∀ x ∈ acc2, ∃ w n, x = frow w [n] ∧ Wd w ∧ 0 ≤ n ∧ n ≤ 2) → 2 ≤ acc2.length → acc2.length ≤ 5 → G8 p = some (.lst acc2) → Bag b (P + 20) G8 → Fr b G G8 →
      R [some (.ref b), some (.fro (ws.map .str)), some (.int far), some (.ref p), none, none] G8 := by
    intro acc2 G8 h2 l2 l2' g8 B8 r8
    (refine hR _ _ ?_; clear hR R)
    (refine seq_i fun R hR => ?_; try walk_at "w")
    refine ⟨le_sz (by simp), by unfold L2.CPow; decide, le_sz (by simp), le_sz (by simp), le_sz (by simp), ?_⟩
    refine at_any f0 (by simpa using f1) fun cs mcs => ?_
    refine take_ok (many := 2) hT B8 (by omega) (by decide) (by decide) fun d9 G9 d90 d91 B9 r9 => ?_
    have g9 : G9 p = some (.lst acc2) := (keep r9 pb).trans g8
    have r9 := r8.trans (Fr.rm r9)
    have hcs : ∃ l : List Int, cs = .fro (l.map .int) ∧ l.length = 4 ∧ (∀ c ∈ l, Cn c) ∧ (10 ^ 39 + 1 : Int) ∉ l := by
      simp only [List.mem_cons, List.not_mem_nil, or_false] at mcs
      rcases mcs with rfl | rfl | rfl
      · exact ⟨[0, 1, 2, 3], rfl, rfl, by unfold Cn; decide, by decide⟩
      · exact ⟨[1, 0, 10 ^ 39, 2], rfl, rfl, by unfold Cn; decide, by decide⟩
      · exact ⟨[7, 10, 9, 0], rfl, rfl, by unfold Cn; decide, by decide⟩
    obtain ⟨l, rfl, ll, hl4, hl5⟩ := hcs
    walk_at "w"
    have lc : (cutA (l.map A.int) none (some (2 + d9))).length = (2 + d9).toNat := cut_pre (by omega) (by simp; omega)
    have mc : ∀ x ∈ cutA (l.map A.int) none (some (2 + d9)), ∃ c, x = .int c ∧ Cn c := fun x mx => by
      obtain ⟨c, mm, rfl⟩ := List.mem_map.mp (cut_mem mx)
      exact ⟨c, rfl, hl4 c mm⟩
    have nc : A.int (10 ^ 39 + 1) ∉ cutA (l.map A.int) none (some (2 + d9)) := fun mx => by
      obtain ⟨c, mm, e⟩ := List.mem_map.mp (cut_mem mx)
      cases e; exact hl5 mm
    generalize cutA (l.map A.int) none (some (2 + d9)) = cs at lc mc nc ⊢
    (refine hR _ _ ?_; clear hR R)
    (refine seq_i fun R hR => ?_; try walk_at "w")
    have kr : ∀ x ∈ acc2, KR x := fun x mx => by obtain ⟨w, n, rfl, _⟩ := h2 x mx; exact ⟨w, [n], rfl⟩
    have dl := dd_le acc2
    refine ⟨_, acc2, rfl, lstOf_ref g9, set_rows kr (by omega), srt_rows kr (le_sz (by omega)), ?_⟩
    walk_at "w"
    refine labels_ok hT hL B9 (by omega) (by decide) (by decide) fun ws2 G10 hl10 hws2 B10 r10 => ⟨by simp, dis_k rfl (by simp [isK]), ?_⟩
    refine q (srt (ddA acc2)) cs (ws2.map .str) G10 ⟨fun x mx => ?_, fun e => ?_, ?_, mc, nc, fun e => ?_, by omega, ⟨ws2, rfl, hws2⟩, by simp; omega⟩ ?_ (B10.more (by omega)) (r9.trans (Fr.rm r10))
    · obtain ⟨w, n, rfl, h1, h2, h3⟩ := h2 x (srt_dd_mem.mp mx)
      exact ⟨w, n, rfl, h1, h2, by omega⟩
    · obtain ⟨x, mx⟩ := List.exists_mem_of_length_pos (l := acc2) (by omega)
      have := srt_dd_mem.mpr mx
      rw [e] at this; cases this
    · have := srt_dd_len acc2; omega
    · rw [e] at lc; simp only [List.length_nil] at lc; omega
    · have := srt_dd_len acc2; omega
  by_cases z : (d7 == 0) = true
  · rw [if_pos z]
    refine seq_i fun R2 h2 => ?_
    obtain ⟨x0, acc', rfl⟩ : ∃ x0 acc', acc = x0 :: acc' := by
      cases acc with
      | nil => simp at l5
      | cons x0 acc' => exact ⟨x0, acc', rfl⟩
    obtain ⟨w0, n0, rfl, hw0, n00, n01⟩ := hacc x0 (by simp)
    simp only [sSet, sIf, sNx, sRet, sRetN, sEx, sFor, sPar, sFldA, eVar, eC, eBin, eNot, eAnd, eOr, eIf, eTup, eLst, eDct0, eBi, eCall, eM, eSl, oNo, oSome, eLc, eDc, eDis2, prs, eMk_eq, eMe_eq, eFs, fsA, eFmt, eFmtR, iSeq, iR1, it_tup, it_fro, eFld_eq, bV, bVC, bB, bNot, bAnd, bOr, bYes, gNm, gTup, gTs, lNil, lCons, new_f, new_t, frz_l, frz_d, wipeA, truA, tyA, List.getElem?_cons_zero, List.getElem?_cons_succ, List.set_cons_zero, List.set_cons_succ, List.cons_append, List.nil_append, List.append_nil, addA_i, addA_s, addA_t, add_fro, subA_i, modA_i, fdivA_i, powA_i, mulA_i, mulA_s, mul_fro, ltA_i, leA_i, gtA_i, geA_i, eqInt, eqStr, _root_.Q.len_str, len_fro, len_tup, sl_tup, sl_fro, ixFro, ixTup, tupleA_fro, tupleA_tup, listA_tup, listA_fro, intOfA, if_true, if_false, Bool.not_true, Bool.not_false, Bool.false_eq_true, decide_eq_true_eq, beq_self_eq_true, true_and, g7, ixRef g7, atK, at0, at1, frow, List.map_cons, List.map_nil]
    refine ⟨by simp, le_sz (by simp), p, _, _, rfl, rfl, g7, by simp only [List.length_cons] at l5 ⊢; have := hz; omega, h2 _ _ ?_⟩
    refine rest _ _ (fun z mz => ?_) ?_ ?_ up_same ((B7.new pb).more (by omega)) (Fr.wr np r7)
    · rcases List.mem_append.mp mz with mz | mz
      · exact hacc z mz
      · simp only [List.mem_singleton] at mz; subst mz; exact ⟨w0, 2 - n0, rfl, hw0, by omega, by omega⟩
    · simp only [List.length_append]; omega
    · simp only [List.length_append, List.length_singleton]; omega
  · rw [if_neg z]
    exact rest acc G7 hacc (by omega) (by omega) g7 (B7.more (by omega)) r7
end Q
/-! Z2: wide, fact, facts; a row in a drawn order, as a list. -/
namespace Q
open PySem PySem.Spec PyProof.Rows
local macro_rules | `(tactic| walk_at "w") => `(tactic| simp only [sSet, sIf, sNx, sRet, sRetN, sEx, sFor, sPar, sFldA, eVar, eC, eBin, eNot, eAnd, eOr, eIf, eTup, eLst, eDct0, eBi, eCall, eM, eSl, oNo, oSome, eLc, eDc, eDis2, prs, eMk_eq, eMe_eq, eFs, fsA, eFmt, eFmtR, iSeq, iR1, it_tup, it_fro, eFld_eq, bV, bVC, bB, bNot, bAnd, bOr, bYes, gNm, gTup, gTs, lNil, lCons, new_f, new_t, frz_l, frz_d, wipeA, truA, tyA, List.getElem?_cons_zero, List.getElem?_cons_succ, List.set_cons_zero, List.set_cons_succ, List.cons_append, List.nil_append, List.append_nil, addA_i, addA_s, addA_t, add_fro, subA_i, modA_i, fdivA_i, powA_i, mulA_i, mulA_s, mul_fro, ltA_i, leA_i, gtA_i, geA_i, eqInt, eqStr, _root_.Q.len_str, len_fro, len_tup, sl_tup, sl_fro, ixFro, ixTup, tupleA_fro, tupleA_tup, listA_tup, listA_fro, intOfA, if_true, if_false, Bool.not_true, Bool.not_false, Bool.false_eq_true, decide_eq_true_eq, beq_self_eq_true, true_and])
def tk_wide (c : Cal) : SA := (sSeq (sSet (eCall c "_law_kit" (lCons (eVar 0) lNil)) (gNm 1))
  (sSeq (sIf (bB (eBin (eqA false) (eCall c "_law_take" (lCons (eVar 0) (lCons (eC (.int 2)) lNil))) (eC (.int 0)))) (sSeq (sSet (eBi (ssA false) (lCons (eBin (addA false) (eBin ixD (eVar 1) (eC (.str (Str.ofString "names")))) (eLst false (lCons (eTup (lCons (eBin ixD (eBin ixD (eBin ixD (eVar 1) (eC (.str (Str.ofString "names")))) (eC (.int 0))) (eC (.int 0))) (lCons (eBin (addA false) (eC (.int 3)) (eCall c "_law_take" (lCons (eVar 0) (lCons (eC (.int 2)) lNil)))) lNil))) lNil))) lNil)) (gSubD (eVar 1) (eC (.str (Str.ofString "names")))))
  sNx) sNx)
  (sSeq (sRet (eVar 1))
  sNx)))
def tk_fact (c : Cal) : SA := (sSeq (sSet (eBin ixD (eBin ixD (eVar 1) (eC (.str (Str.ofString "names")))) (eCall c "_law_take" (lCons (eVar 0) (lCons (eBi lenD (lCons (eBin ixD (eVar 1) (eC (.str (Str.ofString "names")))) lNil)) lNil)))) (gTup [2, 3]))
  (sSeq (sRet (eBin (addA false) (eTup (lCons (eVar 2) lNil)) (eBi tupleA (lCons (eLc false (iR1 (eVar 3)) (gNm 4) bYes (eBin ixD (eBin ixD (eVar 1) (eC (.str (Str.ofString "constants")))) (eCall c "_law_take" (lCons (eVar 0) (lCons (eBi lenD (lCons (eBin ixD (eVar 1) (eC (.str (Str.ofString "constants")))) lNil)) lNil)))) [4]) lNil))))
  sNx))
def tk_facts (c : Cal) : SA := (sSeq (sRet (eLc false (iR1 (eCall c "_law_take" (lCons (eVar 0) (lCons (eBin (addA false) (eVar 2) (eC (.int 1))) lNil)))) (gNm 3) bYes (eCall c "_law_fact" (lCons (eVar 0) (lCons (eVar 1) lNil))) [3]))
  sNx)
/-- the value of a kit: a tree, a dict at an address other than the bag's -/
def KitV (b : Addr) (G : Gp) (v : A) (nms cs vs : List A) : Prop := v = dtr (kitD nms cs vs) ∨ ∃ p, v = .ref p ∧ p ≠ b ∧ G p = some (.dct (kitD nms cs vs))
section
variable {FT : FTab} {n : Nat} {b : Addr} {P : Int} {G G' : Gp} {Q : KA} {X : KX} {v : A} {nms cs vs : List A}
theorem KitV.dct (h : KitV b G v nms cs vs) : dctOf G v = some (kitD nms cs vs) := by
  rcases h with rfl | ⟨p, rfl, _, h⟩
  · exact dct_dtr
  · exact dct_ref h
theorem KitV.fr (h : KitV b G v nms cs vs) (k : Fr b G G') : KitV b G' v nms cs vs := by
  rcases h with h | ⟨p, e, n, h⟩
  · exact .inl h
  · exact .inr ⟨p, e, n, k p _ n h⟩
theorem KitV.gn (h : KitV b G v nms cs vs) : ixD v (.str (Str.ofString "names")) G Q = Q (.fro nms) G := ixDct h.dct rfl kit_n
theorem KitV.gc (h : KitV b G v nms cs vs) : ixD v (.str (Str.ofString "constants")) G Q = Q (.fro cs) G := ixDct h.dct rfl kit_c
theorem KitV.gv (h : KitV b G v nms cs vs) : ixD v (.str (Str.ofString "variables")) G Q = Q (.fro vs) G := ixDct h.dct rfl kit_v
theorem wide_ok (hT : FT (Str.ofString "_law_take") = some ⟨2, 7, tk_take⟩) (hL : FT (Str.ofString "_law_labels") = some ⟨2, 11, tk_labels⟩) (hK : FT (Str.ofString "_law_kit") = some ⟨1, 6, tk_kit true false⟩) (hF : FT (Str.ofString "_law_wide") = some ⟨1, 2, tk_wide⟩)
    (B : Bag b P G) (hP : P ≤ 2 ^ 58) (q : ∀ nms cs vs p G', Kit nms cs vs → Bag b (P + 42) G' → p ≠ b → G p = none → G' p = some (.dct (kitD nms cs vs)) → Fr b G G' → Q (.ref p) G') :
    runF FT (n + 4) "_law_wide" [.ref b] G Q X := by
  have := h60
  have := h59
  have hP2 := pl58 hP
  refine run_i [some (.ref b), none] hF rfl rfl ?_
  unfold tk_wide
  (refine seq_i fun R hR => ?_; try walk_at "w")
  refine kit_ok hT hL hK B hP fun nms cs vs G1 K l5 B1 r1 => ?_
  intro p hp
  have pb : p ≠ b := B1.ne hp
  have np : G p = none := by
    cases e : G p with
    | none => rfl
    | some o => have := r1 p o pb e; rw [hp] at this; cases this
  have B2 := B1.new (o := .dct (kitD nms cs vs)) pb
  have r2 := r1.trans (Fr.new (b := b) (o := .dct (kitD nms cs vs)) hp)
  have g2 : up G1 p (.dct (kitD nms cs vs)) p = some (.dct (kitD nms cs vs)) := up_same
  generalize up G1 p (.dct (kitD nms cs vs)) = G2 at B2 r2 g2 ⊢
  (refine hR _ _ ?_; clear hR R)
  (refine seq_i fun R hR => ?_; try walk_at "w")
  refine take_ok (many := 2) hT B2 (by omega) (by decide) (by decide) fun d G3 d0 d1 B3 r3 => ?_
  walk_at "w"
  have g3 : G3 p = some (.dct (kitD nms cs vs)) := (keep r3 pb).trans g2
  have r3 := r2.trans (Fr.rm r3)
  have kv : KitV b G3 (.ref p) nms cs vs := .inr ⟨p, rfl, pb, g3⟩
  have rest : ∀ nms2 G', Kit nms2 cs vs → G' p = some (.dct (kitD nms2 cs vs)) → Bag b (P + 42) G' → Fr b G G' → R [some (.ref b), some (.ref p)] G' := by
    intro nms2 G' K2 g' B' r'
    (refine hR _ _ ?_; clear hR R)
    (refine seq_i fun R hR => ?_; try walk_at "w")
    exact q nms2 cs vs p G' K2 B' pb np g' r'
  by_cases z : (d == 0) = true
  · rw [if_pos z]
    refine seq_i fun R2 h2 => ?_
    obtain ⟨x0, nms', rfl⟩ : ∃ x0 acc', nms = x0 :: acc' := by
      cases nms with
      | nil => exact absurd rfl K.ne
      | cons x0 acc' => exact ⟨x0, acc', rfl⟩
    obtain ⟨w0, n0, rfl, hw0, n00, n01⟩ := K.nm x0 (by simp)
    simp only [sSet, sIf, sNx, sRet, sRetN, sEx, sFor, sPar, sFldA, eVar, eC, eBin, eNot, eAnd, eOr, eIf, eTup, eLst, eDct0, eBi, eCall, eM, eSl, oNo, oSome, eLc, eDc, eDis2, prs, eMk_eq, eMe_eq, eFs, fsA, eFmt, eFmtR, iSeq, iR1, it_tup, it_fro, eFld_eq, bV, bVC, bB, bNot, bAnd, bOr, bYes, gNm, gTup, gTs, lNil, lCons, new_f, new_t, frz_l, frz_d, wipeA, truA, tyA, List.getElem?_cons_zero, List.getElem?_cons_succ, List.set_cons_zero, List.set_cons_succ, List.cons_append, List.nil_append, List.append_nil, addA_i, addA_s, addA_t, add_fro, subA_i, modA_i, fdivA_i, powA_i, mulA_i, mulA_s, mul_fro, ltA_i, leA_i, gtA_i, geA_i, eqInt, eqStr, _root_.Q.len_str, len_fro, len_tup, sl_tup, sl_fro, ixFro, ixTup, tupleA_fro, tupleA_tup, listA_tup, listA_fro, intOfA, if_true, if_false, Bool.not_true, Bool.not_false, Bool.false_eq_true, decide_eq_true_eq, beq_self_eq_true, true_and, kv.gn, atK, at0, frow, List.map_cons, List.map_nil]
    refine take_ok (many := 2) hT B3 (by omega) (by decide) (by decide) fun d4 G4 d40 d41 B4 r4 => ⟨le_sz (by simp), le_sz (by simp), ?_, ?_⟩
    · simp only [List.length_cons] at l5 ⊢; have := hz; simp; omega
    have g4 := (keep r4 pb).trans g3
    have r4 := r3.trans (Fr.rm r4)
    have nm2 : ∀ x ∈ frow w0 [n0] :: nms' ++ [frow w0 [3 + d4]], Nm x := fun x mx => by
      rcases List.mem_append.mp mx with mx | mx
      · exact K.nm x mx
      · simp only [List.mem_singleton] at mx; subst mx; exact ⟨w0, 3 + d4, rfl, hw0, by omega, by omega⟩
    have l6 : (frow w0 [n0] :: nms' ++ [frow w0 [3 + d4]]).length ≤ 6 := by simp only [List.length_cons, List.length_append, List.length_nil] at l5 ⊢; omega
    have ne2 : frow w0 [n0] :: nms' ++ [frow w0 [3 + d4]] ≠ [] := by simp
    show ssA false [.fro (frow w0 [n0] :: nms' ++ [frow w0 [3 + d4]])] G4 _
    generalize frow w0 [n0] :: nms' ++ [frow w0 [3 + d4]] = acc2 at nm2 l6 ne2 ⊢
    have kr : ∀ x ∈ acc2, KR x := fun x mx => (nm2 x mx).fc.kr
    have dl := dd_le acc2
    refine ⟨_, acc2, rfl, rfl, set_rows kr (by omega), srt_rows kr (le_sz (by omega)), ?_⟩
    simp only [sSet, sIf, sNx, sRet, sRetN, sEx, sFor, sPar, sFldA, eVar, eC, eBin, eNot, eAnd, eOr, eIf, eTup, eLst, eDct0, eBi, eCall, eM, eSl, oNo, oSome, eLc, eDc, eDis2, prs, eMk_eq, eMe_eq, eFs, fsA, eFmt, eFmtR, iSeq, iR1, it_tup, it_fro, eFld_eq, bV, bVC, bB, bNot, bAnd, bOr, bYes, gNm, gTup, gTs, lNil, lCons, new_f, new_t, frz_l, frz_d, wipeA, truA, tyA, List.getElem?_cons_zero, List.getElem?_cons_succ, List.set_cons_zero, List.set_cons_succ, List.cons_append, List.nil_append, List.append_nil, addA_i, addA_s, addA_t, add_fro, subA_i, modA_i, fdivA_i, powA_i, mulA_i, mulA_s, mul_fro, ltA_i, leA_i, gtA_i, geA_i, eqInt, eqStr, _root_.Q.len_str, len_fro, len_tup, sl_tup, sl_fro, ixFro, ixTup, tupleA_fro, tupleA_tup, listA_tup, listA_fro, intOfA, if_true, if_false, Bool.not_true, Bool.not_false, Bool.false_eq_true, decide_eq_true_eq, beq_self_eq_true, true_and, gSubD]
    refine ⟨p, rfl, .inr ⟨_, g4, rfl, by show 3 < sizeLine; decide, h2 _ _ (rest (srt (ddA acc2)) _ ⟨fun x mx => nm2 x (srt_dd_mem.mp mx), fun e => ?_, ?_, K.cn, K.cm, K.ce, K.cl, K.vn, K.vl⟩ ?_ ((B4.new pb).more (by omega)) (Fr.wr np r4))⟩⟩
    · obtain ⟨x, mx⟩ := List.exists_mem_of_length_pos (l := acc2) (List.length_pos_iff.mpr ne2)
      have := srt_dd_mem.mpr mx
      rw [e] at this; cases this
    · have := srt_dd_len acc2; omega
    · rw [up_same]; rfl
  · rw [if_neg z]
    exact rest nms G3 K g3 (B3.more (by omega)) r3
theorem fact_ok (hT : FT (Str.ofString "_law_take") = some ⟨2, 7, tk_take⟩) (hF : FT (Str.ofString "_law_fact") = some ⟨2, 5, tk_fact⟩)
    (K : Kit nms cs vs) (kv : KitV b G v nms cs vs) (B : Bag b P G) (hP : P ≤ 2 ^ 59) (q : ∀ w ms G', Fc (.tup (w :: ms)) → nmA (.tup (w :: ms)) ∈ nms → (∀ x ∈ ms, x ∈ cs) → Bag b (P + 5) G' → rm b G' = rm b G → Q (.tup (w :: ms)) G') :
    runF FT (n + 2) "_law_fact" [.ref b, v] G Q X := by
  have := h60
  have := h59
  refine run_i [some (.ref b), some v, none, none, none] hF rfl rfl ?_
  unfold tk_fact
  (refine seq_i fun R hR => ?_; try walk_at "w")
  rw [kv.gn]
  simp only [sSet, sIf, sNx, sRet, sRetN, sEx, sFor, sPar, sFldA, eVar, eC, eBin, eNot, eAnd, eOr, eIf, eTup, eLst, eDct0, eBi, eCall, eM, eSl, oNo, oSome, eLc, eDc, eDis2, prs, eMk_eq, eMe_eq, eFs, fsA, eFmt, eFmtR, iSeq, iR1, it_tup, it_fro, eFld_eq, bV, bVC, bB, bNot, bAnd, bOr, bYes, gNm, gTup, gTs, lNil, lCons, new_f, new_t, frz_l, frz_d, wipeA, truA, tyA, List.getElem?_cons_zero, List.getElem?_cons_succ, List.set_cons_zero, List.set_cons_succ, List.cons_append, List.nil_append, List.append_nil, addA_i, addA_s, addA_t, add_fro, subA_i, modA_i, fdivA_i, powA_i, mulA_i, mulA_s, mul_fro, ltA_i, leA_i, gtA_i, geA_i, eqInt, eqStr, _root_.Q.len_str, len_fro, len_tup, sl_tup, sl_fro, ixFro, ixTup, tupleA_fro, tupleA_tup, listA_tup, listA_fro, intOfA, if_true, if_false, Bool.not_true, Bool.not_false, Bool.false_eq_true, decide_eq_true_eq, beq_self_eq_true, true_and, kv.gn]
  have l0 : 0 < nms.length := List.length_pos_iff.mpr K.ne
  have l1 := K.nl
  refine take_ok hT B (by omega) (by omega) (by omega) fun d G1 d0 d1 B1 r1 => ix_any d0 (by omega) fun x mx => ?_
  obtain ⟨w, k, rfl, hw, k0, k4⟩ := K.nm x mx
  simp only [sSet, sIf, sNx, sRet, sRetN, sEx, sFor, sPar, sFldA, eVar, eC, eBin, eNot, eAnd, eOr, eIf, eTup, eLst, eDct0, eBi, eCall, eM, eSl, oNo, oSome, eLc, eDc, eDis2, prs, eMk_eq, eMe_eq, eFs, fsA, eFmt, eFmtR, iSeq, iR1, it_tup, it_fro, eFld_eq, bV, bVC, bB, bNot, bAnd, bOr, bYes, gNm, gTup, gTs, lNil, lCons, new_f, new_t, frz_l, frz_d, wipeA, truA, tyA, List.getElem?_cons_zero, List.getElem?_cons_succ, List.set_cons_zero, List.set_cons_succ, List.cons_append, List.nil_append, List.append_nil, addA_i, addA_s, addA_t, add_fro, subA_i, modA_i, fdivA_i, powA_i, mulA_i, mulA_s, mul_fro, ltA_i, leA_i, gtA_i, geA_i, eqInt, eqStr, _root_.Q.len_str, len_fro, len_tup, sl_tup, sl_fro, ixFro, ixTup, tupleA_fro, tupleA_tup, listA_tup, listA_fro, intOfA, if_true, if_false, Bool.not_true, Bool.not_false, Bool.false_eq_true, decide_eq_true_eq, beq_self_eq_true, true_and, frow, List.map_cons, List.map_nil]
  refine ⟨rfl, ?_⟩
  (refine hR _ _ ?_; clear hR R)
  (refine seq_i fun R hR => ?_; try walk_at "w")
  refine ⟨le_sz (by simp), by omega, by omega, ?_⟩
  refine lc_inv 4 (by decide) (fun acc G' => (∀ x ∈ acc, x ∈ cs) ∧ Bag b (P + 1 + acc.length) G' ∧ rm b G' = rm b G) (fun _ _ _ => trivial) _ _ _ ?_ ⟨by simp, B1.more (by simp), r1⟩ (by simp; omega) ?_
  · rintro x hx acc Gx Qx hl2 ⟨hi, Bx, rx⟩ qx
    have kx : KitV b Gx v nms cs vs := kv.fr (Fr.rm rx)
    simp only [sSet, sIf, sNx, sRet, sRetN, sEx, sFor, sPar, sFldA, eVar, eC, eBin, eNot, eAnd, eOr, eIf, eTup, eLst, eDct0, eBi, eCall, eM, eSl, oNo, oSome, eLc, eDc, eDis2, prs, eMk_eq, eMe_eq, eFs, fsA, eFmt, eFmtR, iSeq, iR1, it_tup, it_fro, eFld_eq, bV, bVC, bB, bNot, bAnd, bOr, bYes, gNm, gTup, gTs, lNil, lCons, new_f, new_t, frz_l, frz_d, wipeA, truA, tyA, List.getElem?_cons_zero, List.getElem?_cons_succ, List.set_cons_zero, List.set_cons_succ, List.cons_append, List.nil_append, List.append_nil, addA_i, addA_s, addA_t, add_fro, subA_i, modA_i, fdivA_i, powA_i, mulA_i, mulA_s, mul_fro, ltA_i, leA_i, gtA_i, geA_i, eqInt, eqStr, _root_.Q.len_str, len_fro, len_tup, sl_tup, sl_fro, ixFro, ixTup, tupleA_fro, tupleA_tup, listA_tup, listA_fro, intOfA, if_true, if_false, Bool.not_true, Bool.not_false, Bool.false_eq_true, decide_eq_true_eq, beq_self_eq_true, true_and, kx.gc]
    have l0 : 0 < cs.length := List.length_pos_iff.mpr K.ce
    have l1 := K.cl
    refine take_ok hT Bx (by omega) (by omega) (by omega) fun d4 G4 d40 d41 B4 r4 => ix_any d40 (by omega) fun y my => qx _ _ ⟨fun z mz => ?_, B4.more (by simp; omega), r4.trans rx⟩
    rcases List.mem_append.mp mz with mz | mz
    · exact hi z mz
    · simp only [List.mem_singleton] at mz; subst mz; exact my
  rintro acc G5 hl5 ⟨hacc, B5, r5⟩
  simp only [List.length_map, List.length_range, List.length_nil, Nat.zero_add] at hl5
  refine ⟨le_sz (by simp; omega), ?_⟩
  have hi : ∃ l : List Int, acc = l.map .int ∧ ∀ c ∈ l, Cn c := by
    clear hl5 B5
    induction acc with
    | nil => exact ⟨[], rfl, by simp⟩
    | cons x acc ih =>
      obtain ⟨l, rfl, hl⟩ := ih fun y my => hacc y (by simp [my])
      obtain ⟨c, rfl, hc⟩ := K.cn x (hacc x (by simp))
      exact ⟨c :: l, rfl, fun d md => by
        rcases List.mem_cons.mp md with rfl | md
        · exact hc
        · exact hl d md⟩
  obtain ⟨l, rfl, hl⟩ := hi
  simp only [List.length_map] at hl5
  refine q _ _ _ ⟨w, l, rfl, hw, hl, by omega⟩ ?_ hacc (B5.more (by simp only [List.length_map]; omega)) r5
  have : nmA (.tup (.str w :: l.map .int)) = frow w [k] := by
    rw [show A.tup (.str w :: l.map .int) = frow w l from rfl, nmA_frow]
    have : (l.length : Int) = k := by omega
    rw [this]
  rw [this]; exact mx
theorem facts_ok {many : Int} (hT : FT (Str.ofString "_law_take") = some ⟨2, 7, tk_take⟩) (hC : FT (Str.ofString "_law_fact") = some ⟨2, 5, tk_fact⟩) (hF : FT (Str.ofString "_law_facts") = some ⟨3, 4, tk_facts⟩)
    (K : Kit nms cs vs) (kv : KitV b G v nms cs vs) (B : Bag b P G) (hP : P ≤ 2 ^ 58) (m0 : 0 ≤ many) (m1 : many ≤ 20) (q : ∀ fs G', (∀ x ∈ fs, Fc x ∧ nmA x ∈ nms ∧ ∀ y ∈ cnsA x, y ∈ cs) → fs.length ≤ many → Bag b (P + 101) G' → rm b G' = rm b G → Q (.fro fs) G') :
    runF FT (n + 3) "_law_facts" [.ref b, v, .int many] G Q X := by
  have := h60
  have := h59
  have hP2 := pl58 hP
  refine run_i [some (.ref b), some v, some (.int many), none] hF rfl rfl ?_
  unfold tk_facts
  (refine seq_i fun R hR => ?_; try walk_at "w")
  refine take_ok hT B (by omega) (by omega) (by omega) fun d G1 d0 d1 B1 r1 => ⟨by omega, by omega, ?_⟩
  refine lc_inv 20 (by decide) (fun acc G' => (∀ x ∈ acc, Fc x ∧ nmA x ∈ nms ∧ ∀ y ∈ cnsA x, y ∈ cs) ∧ Bag b (P + 1 + 5 * acc.length) G' ∧ rm b G' = rm b G) (fun _ _ _ => trivial) _ _ _ ?_ ⟨by simp, B1.more (by simp), r1⟩ (by simp; omega) ?_
  · rintro x hx acc Gx Qx hl2 ⟨hi, Bx, rx⟩ qx
    walk_at "w"
    refine fact_ok hT hC K (kv.fr (Fr.rm rx)) Bx (by omega) fun w ms G4 h4 h5 h6 B4 r4 => qx _ _ ⟨fun z mz => ?_, B4.more (by simp; omega), r4.trans rx⟩
    rcases List.mem_append.mp mz with mz | mz
    · exact hi z mz
    · simp only [List.mem_singleton] at mz; subst mz; exact ⟨h4, h5, h6⟩
  rintro acc G5 hl5 ⟨hacc, B5, r5⟩
  simp only [List.length_map, List.length_range, List.length_nil, Nat.zero_add] at hl5
  exact q acc G5 hacc (by omega) (B5.more (by omega)) r5
/-- a row in a drawn order, as a list that may change -/
theorem mixed_ref {xs : List A} (hT : FT (Str.ofString "_law_take") = some ⟨2, 7, tk_take⟩) (hM : FT (Str.ofString "_law_mixed") = some ⟨2, 4, tk_mixed⟩) (B : Bag b P G) (hP : P + 1000 ≤ 2 ^ 60) (hl : xs.length ≤ 1000)
    (q : ∀ p ys G', G p = none → p ≠ b → ys.Perm xs → G' p = some (.lst ys) → Bag b (P + xs.length) G' → Fr b G G' → Q (.ref p) G') : runF FT (n + 2) "_law_mixed" [.ref b, .fro xs] G Q X := by
  have hz : sizeLine = 16777216 := by decide
  refine run_i [some (.ref b), some (.fro xs), none, none] hM rfl rfl ?_
  unfold tk_mixed
  (refine seq_i fun R hR => ?_; try walk_at "w")
  refine ⟨by simp, fun p hp => ?_⟩
  have pb : p ≠ b := B.ne hp
  (refine hR _ _ ?_; clear hR R)
  (refine seq_i fun R hR => ?_; try walk_at "w")
  refine for_ix (fun k ς G' => ∃ acc x, ς = [some (.ref b), some (.fro xs), some (.ref p), x] ∧ G' p = some (.lst acc) ∧ acc.Perm (xs.take k) ∧ Bag b (P + k) G' ∧ Fr b G G') (fun _ _ _ _ => trivial) xs 0 _ _ ?_ ⟨[], none, rfl, up_same, by simp, by simpa using B.new pb, Fr.new hp⟩ ?_
  · rintro k y my ς G2 ⟨acc, x, rfl, g2, pm, B2, o2⟩ D' nx _ rt ex _
    simp only [Nat.zero_add] at g2 pm B2 o2 nx ⊢
    have hk : k < xs.length := (List.getElem?_eq_some_iff.mp my).1
    have la : acc.length = k := by rw [pm.length_eq, List.length_take]; omega
    walk_at "w"
    refine seq_i fun R5 h5 => ?_
    simp only [sSet, sIf, sNx, sRet, sRetN, sEx, sFor, sPar, sFldA, eVar, eC, eBin, eNot, eAnd, eOr, eIf, eTup, eLst, eDct0, eBi, eCall, eM, eSl, oNo, oSome, eLc, eDc, eDis2, prs, eMk_eq, eMe_eq, eFs, fsA, eFmt, eFmtR, iSeq, iR1, it_tup, it_fro, eFld_eq, bV, bVC, bB, bNot, bAnd, bOr, bYes, gNm, gTup, gTs, lNil, lCons, new_f, new_t, frz_l, frz_d, wipeA, truA, tyA, List.getElem?_cons_zero, List.getElem?_cons_succ, List.set_cons_zero, List.set_cons_succ, List.cons_append, List.nil_append, List.append_nil, addA_i, addA_s, addA_t, add_fro, subA_i, modA_i, fdivA_i, powA_i, mulA_i, mulA_s, mul_fro, ltA_i, leA_i, gtA_i, geA_i, eqInt, eqStr, _root_.Q.len_str, len_fro, len_tup, sl_tup, sl_fro, ixFro, ixTup, tupleA_fro, tupleA_tup, listA_tup, listA_fro, intOfA, if_true, if_false, Bool.not_true, Bool.not_false, Bool.false_eq_true, decide_eq_true_eq, beq_self_eq_true, true_and, g2, len_ref g2]
    refine ⟨by simp, take_ok hT B2 (by omega) (by omega) (by omega) fun d G3 d0 d1 B3 r3 => ?_⟩
    have g3 : G3 p = some (.lst acc) := (keep r3 pb).trans g2
    refine ⟨p, acc, d, y, rfl, rfl, g3, by omega, d0, by omega, h5 _ _ (nx _ _ ⟨_, some y, rfl, up_same, ?_, ?_, (Fr.wr hp (o2.trans (Fr.rm r3)))⟩)⟩
    · rw [List.take_add_one, my]
      exact (perm_ins acc _ y).trans (pm.append_right _)
    · exact (B3.new pb).more (by omega)
  · rintro ς G2 ⟨acc, x, rfl, g2, pm, B2, o2⟩
    simp only [Nat.zero_add, List.take_length] at g2 pm B2 o2
    (refine hR _ _ ?_; clear hR R)
    (refine seq_i fun R hR => ?_; try walk_at "w")
    exact q p acc G2 hp pb pm g2 B2 o2
end
end Q
/-! Z3: Store: how one is made, its methods. -/
namespace Q
open PySem PySem.Spec PyProof.Rows
local macro_rules | `(tactic| walk_at "w") => `(tactic| simp only [sSet, sIf, sNx, sRet, sRetN, sEx, sFor, sPar, sFldA, eVar, eC, eBin, eNot, eAnd, eOr, eIf, eTup, eLst, eDct0, eBi, eCall, eM, eSl, oNo, oSome, eLc, eDc, eDis2, prs, eMk_eq, eMe_eq, eFs, fsA, eFmt, eFmtR, iSeq, iR1, it_tup, it_fro, eFld_eq, bV, bVC, bB, bNot, bAnd, bOr, bYes, gNm, gTup, gTs, lNil, lCons, new_f, new_t, frz_l, frz_d, wipeA, truA, tyA, List.getElem?_cons_zero, List.getElem?_cons_succ, List.set_cons_zero, List.set_cons_succ, List.cons_append, List.nil_append, List.append_nil, addA_i, addA_s, addA_t, add_fro, subA_i, modA_i, fdivA_i, powA_i, mulA_i, mulA_s, mul_fro, ltA_i, leA_i, gtA_i, geA_i, eqInt, eqStr, _root_.Q.len_str, len_fro, len_tup, sl_tup, sl_fro, ixFro, ixTup, tupleA_fro, tupleA_tup, listA_tup, listA_fro, intOfA, if_true, if_false, Bool.not_true, Bool.not_false, Bool.false_eq_true, decide_eq_true_eq, beq_self_eq_true, true_and])
def rsF : SA := fun _ _ _ => False
def tk_St_init (rz : SA) (cl : CT) (c : Cal) : SA := (sSeq (sIf (bOr (bNot (bV (eIsi (eVar 1) ["list", "tuple"]))) (bNot (bV (eBi (allA (·.all id)) (lCons (eLc false (iSeq (eVar 1)) (gNm 2) bYes (eCall c "is_fact" (lCons (eVar 2) lNil)) [2]) lNil))))) (sSeq rz
  sNx) sNx)
  (sSeq (sFldA cl (Str.ofString "known") (eVar 0) (eDc false (iSeq (eVar 1)) (gNm 2) bYes (eVar 2) (eC (.bl true)) [2]))
  (sSeq (sFldA cl (Str.ofString "rows") (eVar 0) (eBi tupleA (lCons (eBi (sortA false) (lCons (eFld cl (Str.ofString "known") (eVar 0)) lNil)) lNil)))
  sNx)))
def tk_St_eq (cl : CT) (c : Cal) : SA := (sSeq (sRet (eAnd (eIsC cl (Str.ofString "Store") (eVar 1)) (eBin (eqA false) (eFld cl (Str.ofString "rows") (eVar 0)) (eFld cl (Str.ofString "rows") (eVar 1)))))
  sNx)
def tk_St_len (cl : CT) (c : Cal) : SA := (sSeq (sRet (eBi lenD (lCons (eFld cl (Str.ofString "rows") (eVar 0)) lNil)))
  sNx)
def tk_St_bool (cl : CT) (c : Cal) : SA := (sSeq (sRet (eBi (boolC cl c) (lCons (eFld cl (Str.ofString "rows") (eVar 0)) lNil)))
  sNx)
def tk_St_repr (cl : CT) (c : Cal) : SA := (sSeq (sRet (eFs [(eC (.str (Str.ofString "Store("))), (eFmtR (eBi (listA false) (lCons (eFld cl (Str.ofString "rows") (eVar 0)) lNil))), (eC (.str (Str.ofString ")")))]))
  sNx)
def tk_St_in (cl : CT) (c : Cal) : SA := (sSeq (sRet (eAnd (eCall c "is_fact" (lCons (eVar 1) lNil)) (eBin (inD false) (eVar 1) (eFld cl (Str.ofString "known") (eVar 0)))))
  sNx)
def tk_St_or (cl : CT) (c : Cal) : SA := (sSeq (sRet (eMk cl c (Str.ofString "Store") (lCons (eBin (addA false) (eFld cl (Str.ofString "rows") (eVar 0)) (eFld cl (Str.ofString "rows") (eVar 1))) lNil) []))
  sNx)
def tk_St_and (neg : Bool) (cl : CT) (c : Cal) : SA := (sSeq (sRet (eMk cl c (Str.ofString "Store") (lCons (eLc false (iSeq (eFld cl (Str.ofString "rows") (eVar 0))) (gNm 2) (bB (eBin (inD neg) (eVar 2) (eFld cl (Str.ofString "known") (eVar 1)))) (eVar 2) [2]) lNil) []))
  sNx)
def tk_St_facts (m : Bool) (cl : CT) (c : Cal) : SA := (sSeq (sRet (eBi (listA m) (lCons (eFld cl (Str.ofString "rows") (eVar 0)) lNil)))
  sNx)
def tk_St_names (m : Bool) (cl : CT) (c : Cal) : SA := (sSeq (sRet (eBi (sortA m) (lCons (eDc false (iSeq (eFld cl (Str.ofString "rows") (eVar 0))) (gNm 1) bYes (eTup (lCons (eBin ixD (eVar 1) (eC (.int 0))) (lCons (eBin subA (eBi lenD (lCons (eVar 1) lNil)) (eC (.int 1))) lNil))) (eC (.bl true)) [1]) lNil)))
  sNx)
def tk_St_constants (m : Bool) (cl : CT) (c : Cal) : SA := (sSeq (sSet (eDct0 true) (gNm 1))
  (sSeq (sFor (iSeq (eFld cl (Str.ofString "rows") (eVar 0))) (gNm 2) (sSeq (sFor (iSeq (eSl false (eVar 2) (oSome (eC (.int 1))) oNo)) (gNm 3) (sSeq (sSet (eC (.bl true)) (gSubD (eVar 1) (eVar 3)))
  sNx))
  sNx))
  (sSeq (sRet (eBi (sortA m) (lCons (eVar 1) lNil)))
  sNx)))
def tk_St_of (m : Bool) (cl : CT) (c : Cal) : SA := (sSeq (sRet (eLc m (iSeq (eFld cl (Str.ofString "rows") (eVar 0))) (gNm 2) (bB (eBin (eqA false) (eTup (lCons (eBin ixD (eVar 2) (eC (.int 0))) (lCons (eBin subA (eBi lenD (lCons (eVar 2) lNil)) (eC (.int 1))) lNil))) (eVar 1))) (eVar 2) [2]))
  sNx)
def stN : Str := Str.ofString "Store"
def kN : Str := Str.ofString "known"
def rN : Str := Str.ofString "rows"
def stv (ks rows : List A) : A := .fin stN [kN, rN] [.fdc ks (ks.map fun _ => .bl true), .tup rows]
theorem kN_rN : kN ≠ rN := by decide +kernel
/-- what of the class is asked -/
structure StCl (cl : CT) : Prop where
  lk : ∃ ci, cl.lookup (Str.ofString "Store") = some ci ∧ ci.frz = true ∧ ci.init = "Store.__init__"
  fk : isFl cl (Str.ofString "Store") (Str.ofString "known") = true
  fr : isFl cl (Str.ofString "Store") (Str.ofString "rows") = true
/-- a Store's value: its keys are its facts -/
def StV (xs : List A) (v : A) : Prop := ∃ ks, v = stv ks (srt (ddA xs)) ∧ ks.Nodup ∧ ∀ x, x ∈ ks ↔ x ∈ xs
theorem frz_kv (ks : List A) : frz (.dct (kvT ks)) = .fdc ks (ks.map fun _ => .bl true) := by
  simp only [frz, kvT_keys]
  unfold kvT
  rw [List.map_map]; rfl
section
variable {cl : CT} {FT : FTab} {n : Nat} {G G' : Gp} {Q : KA} {X : KX} {xs ys ks rows : List A} {a : A}
theorem fld_rows (C : StCl cl) : fldA cl (Str.ofString "rows") (stv ks rows) G Q = Q (.tup rows) G := by
  have e : fldOf G (Str.ofString "rows") (stv ks rows) = some (.tup rows) := by
    show ([(kN, A.fdc ks (ks.map fun _ => A.bl true)), (rN, A.tup rows)] : List (Str × A)).lookup rN = _
    have : (rN == kN) = false := by simpa using (Ne.symm kN_rN)
    simp only [List.lookup, this, beq_self_eq_true]
  refine propext ⟨fun ⟨C', ns, y, h1, h2, h3, h4⟩ => ?_, fun q => ⟨_, _, _, rfl, C.fr, e, q⟩⟩
  rw [e] at h3; cases h3; exact h4
theorem fld_known (C : StCl cl) : fldA cl (Str.ofString "known") (stv ks rows) G Q = Q (.fdc ks (ks.map fun _ => .bl true)) G := by
  have e : fldOf G (Str.ofString "known") (stv ks rows) = some (.fdc ks (ks.map fun _ => .bl true)) := by
    show ([(kN, A.fdc ks (ks.map fun _ => A.bl true)), (rN, A.tup rows)] : List (Str × A)).lookup kN = _
    simp only [List.lookup, beq_self_eq_true]
  refine propext ⟨fun ⟨C', ns, y, h1, h2, h3, h4⟩ => ?_, fun q => ⟨_, _, _, rfl, C.fk, e, q⟩⟩
  rw [e] at h3; cases h3; exact h4
theorem isi_ty {t : String} {ts : List String} (h : tyName G a = some t) : (∃ n, tyName G a = some n ∧ Q (.bl (isiB n ts)) G) = Q (.bl (isiB t ts)) G :=
  propext ⟨fun ⟨_, e, q⟩ => by rw [h] at e; cases e; exact q, fun q => ⟨_, h, q⟩⟩
structure StF (cl : CT) (FT : FTab) : Prop where
  c : StCl cl
  int : FT (Str.ofString "is_integer") = some ⟨1, 1, tk_is_integer⟩
  con : FT (Str.ofString "is_constant") = some ⟨1, 1, tk_is_constant⟩
  wrd : FT (Str.ofString "is_word") = some ⟨1, 1, tk_is_word⟩
  fct : FT (Str.ofString "is_fact") = some ⟨1, 2, tk_is_fact⟩
  ini : ∃ rz, FT (Str.ofString "Store.__init__") = some ⟨2, 3, tk_St_init rz cl⟩
theorem init_ok (F : StF cl FT) {p : Addr} (ha : SqA G a xs) (hx : ∀ x ∈ xs, Fc x) (hl : xs.length ≤ 1000) (gp : G p = some (.ins stN [])) (hn : ∀ q, a = .ref q → q ≠ p)
    (q : Q .non (up G p (.ins stN [(kN, .fdc (ddA xs) ((ddA xs).map fun _ => .bl true)), (rN, .tup (srt (ddA xs)))]))) : runF FT (n + 4) "Store.__init__" [.ref p, a] G Q X := by
  have := hz
  obtain ⟨rz, hini⟩ := F.ini
  refine run_i [some (.ref p), some a, none] hini rfl rfl ?_
  unfold tk_St_init
  obtain ⟨t, e1, e2⟩ := ha.ty
  (refine seq_i fun R hR => ?_; try walk_at "w")
  simp only [eIsi, eVar, List.getElem?_cons_zero, List.getElem?_cons_succ]
  refine ⟨t, e1, ?_⟩
  simp only [sSet, sIf, sNx, sRet, sRetN, sEx, sFor, sPar, sFldA, eVar, eC, eBin, eNot, eAnd, eOr, eIf, eTup, eLst, eDct0, eBi, eCall, eM, eSl, oNo, oSome, eLc, eDc, eDis2, prs, eMk_eq, eMe_eq, eFs, fsA, eFmt, eFmtR, iSeq, iR1, it_tup, it_fro, eFld_eq, bV, bVC, bB, bNot, bAnd, bOr, bYes, gNm, gTup, gTs, lNil, lCons, new_f, new_t, frz_l, frz_d, wipeA, truA, tyA, List.getElem?_cons_zero, List.getElem?_cons_succ, List.set_cons_zero, List.set_cons_succ, List.cons_append, List.nil_append, List.append_nil, addA_i, addA_s, addA_t, add_fro, subA_i, modA_i, fdivA_i, powA_i, mulA_i, mulA_s, mul_fro, ltA_i, leA_i, gtA_i, geA_i, eqInt, eqStr, _root_.Q.len_str, len_fro, len_tup, sl_tup, sl_fro, ixFro, ixTup, tupleA_fro, tupleA_tup, listA_tup, listA_fro, intOfA, if_true, if_false, Bool.not_true, Bool.not_false, Bool.false_eq_true, decide_eq_true_eq, beq_self_eq_true, true_and, e2]
  refine ha.it fun chk hc => ?_
  refine lc_map (f := fun _ => .bl true) (hc G fun _ _ => rfl) xs [] ?_ (by simp only [List.length_nil]; omega) ?_
  · intro x mx Q2 q2
    walk_at "w"
    refine is_fact_ok F.int F.con F.wrd F.fct (hx x mx).kn ?_
    rw [(hx x mx).isFact]; exact q2
  refine ⟨_, xs.map fun _ => true, rfl, ?_, ?_⟩
  · simp only [lstOf, List.nil_append, List.map_map]; rfl
  have al : (xs.map fun _ => true).all id = true := by simp
  simp only [sSet, sIf, sNx, sRet, sRetN, sEx, sFor, sPar, sFldA, eVar, eC, eBin, eNot, eAnd, eOr, eIf, eTup, eLst, eDct0, eBi, eCall, eM, eSl, oNo, oSome, eLc, eDc, eDis2, prs, eMk_eq, eMe_eq, eFs, fsA, eFmt, eFmtR, iSeq, iR1, it_tup, it_fro, eFld_eq, bV, bVC, bB, bNot, bAnd, bOr, bYes, gNm, gTup, gTs, lNil, lCons, new_f, new_t, frz_l, frz_d, wipeA, truA, tyA, List.getElem?_cons_zero, List.getElem?_cons_succ, List.set_cons_zero, List.set_cons_succ, List.cons_append, List.nil_append, List.append_nil, addA_i, addA_s, addA_t, add_fro, subA_i, modA_i, fdivA_i, powA_i, mulA_i, mulA_s, mul_fro, ltA_i, leA_i, gtA_i, geA_i, eqInt, eqStr, _root_.Q.len_str, len_fro, len_tup, sl_tup, sl_fro, ixFro, ixTup, tupleA_fro, tupleA_tup, listA_tup, listA_fro, intOfA, if_true, if_false, Bool.not_true, Bool.not_false, Bool.false_eq_true, decide_eq_true_eq, beq_self_eq_true, true_and, al]
  (refine hR _ _ ?_; clear hR R)
  (refine seq_i fun R hR => ?_; try walk_at "w")
  refine ha.it fun chk hc => ?_
  have d := dc_keys (i := 2) (tk := eVar 2) (vs := [2]) (chk := chk) (ς := [some (.ref p), some a, none]) (G := G) id (hc G fun _ _ => rfl) xs [] (Qf := ?_) ?_ ?_ ?_ ?_ ?_
  exact d
  · intro x mx Q2 q2
    walk_at "w"
    exact q2
  · exact fun x mx => (hx x mx).kr
  · simp
  · simp only [List.length_nil]; omega
  rw [List.map_id]
  refine ⟨p, stN, [], rfl, gp, F.c.fk, by decide, ?_⟩
  (refine hR _ _ ?_; clear hR R)
  (refine seq_i fun R hR => ?_; try walk_at "w")
  have dl := dd_le xs
  have g1 : fldA cl (Str.ofString "known") (.ref p) (up G p (.ins stN (putI (Str.ofString "known") (dtr (kvT (xs.foldl ddF []))) []))) = fun Q => Q (.fdc (ddA xs) ((ddA xs).map fun _ => .bl true)) (up G p (.ins stN [(kN, .fdc (ddA xs) ((ddA xs).map fun _ => .bl true))])) := by
    funext Q
    rw [← frz_d, frz_kv]
    have e : up G p (.ins stN (putI (Str.ofString "known") (A.fdc (xs.foldl ddF []) ((xs.foldl ddF []).map fun _ => .bl true)) [])) p = some (.ins stN [(kN, .fdc (ddA xs) ((ddA xs).map fun _ => .bl true))]) := up_same
    have e2 : fldOf (up G p (.ins stN (putI (Str.ofString "known") (A.fdc (xs.foldl ddF []) ((xs.foldl ddF []).map fun _ => .bl true)) []))) (Str.ofString "known") (.ref p) = some (.fdc (ddA xs) ((ddA xs).map fun _ => .bl true)) := by
      simp only [fldOf, e]
      show ([(kN, A.fdc (ddA xs) ((ddA xs).map fun _ => A.bl true))] : List (Str × A)).lookup kN = _
      simp only [List.lookup, beq_self_eq_true]
    refine propext ⟨fun ⟨C', ns, y, h1, h2, h3, h4⟩ => ?_, fun q => ⟨stN, [kN], _, by simp only [clsOf, e, List.map_cons, List.map_nil], F.c.fk, e2, q⟩⟩
    rw [e2] at h3; cases h3; exact h4
  rw [g1]
  have it : ∀ G, itmOf G (.fdc (ddA xs) ((ddA xs).map fun _ => .bl true)) = some (ddA xs) := fun G => by
    simp only [itmOf, dctOf]
    congr 1
    exact List.map_fst_zip (by simp)
  refine ⟨_, ddA xs, rfl, it _, srt_rows (fun x mx => (hx x (dd_mem.mp mx)).kr) (by omega), ?_⟩
  walk_at "w"
  refine ⟨p, stN, _, rfl, up_same, F.c.fr, by show 1 < 1000; decide, ?_⟩
  have ne : kN ≠ rN := kN_rN
  have e : putI (Str.ofString "rows") (.tup (srt (ddA xs))) [(kN, A.fdc (ddA xs) ((ddA xs).map fun _ => A.bl true))] = [(kN, A.fdc (ddA xs) ((ddA xs).map fun _ => A.bl true)), (rN, .tup (srt (ddA xs)))] := by
    simp only [putI]
    rw [if_neg (show ¬ kN = Str.ofString "rows" from ne)]; rfl
  rw [up_up, e]
  (refine hR _ _ ?_; clear hR R)
  walk_at "w"
  exact q
/-- Store(xs) -/
theorem mk_ok (F : StF cl FT) (ha : SqA G a xs) (hx : ∀ x ∈ xs, Fc x) (hl : xs.length ≤ 1000) (q : ∀ v, StV xs v → Q v G) : mkA cl (runF FT (n + 4)) (Str.ofString "Store") [a] G Q X := by
  obtain ⟨ci, e1, e2, e3⟩ := F.c.lk
  unfold mkA
  rw [e1]
  dsimp only
  intro p hp
  rw [e3, e2]
  have ne : ∀ q, a = .ref q → q ≠ p := fun q e z => by
    subst z; subst e
    rcases ha with h | h | ⟨p', e, g⟩
    · cases h
    · cases h
    · cases e; rw [hp] at g; cases g
  refine init_ok F (ha.keep fun q e => up_ne (ne q e)) hx hl up_same ne ⟨rfl, _, up_same, ?_⟩
  rw [up_up, rm_new hp]
  exact q _ ⟨ddA xs, rfl, dd_nodup xs, fun x => dd_mem⟩
end
end Q
/-! Z4: Store's methods. -/
namespace Q
open PySem PySem.Spec PyProof.Rows
local macro_rules | `(tactic| walk_at "w") => `(tactic| simp only [sSet, sIf, sNx, sRet, sRetN, sEx, sFor, sPar, sFldA, eVar, eC, eBin, eNot, eAnd, eOr, eIf, eTup, eLst, eDct0, eBi, eCall, eM, eSl, oNo, oSome, eLc, eDc, eDis2, prs, eMk_eq, eMe_eq, eFs, fsA, eFmt, eFmtR, iSeq, iR1, it_tup, it_fro, eFld_eq, bV, bVC, bB, bNot, bAnd, bOr, bYes, gNm, gTup, gTs, lNil, lCons, new_f, new_t, frz_l, frz_d, wipeA, truA, tyA, List.getElem?_cons_zero, List.getElem?_cons_succ, List.set_cons_zero, List.set_cons_succ, List.cons_append, List.nil_append, List.append_nil, addA_i, addA_s, addA_t, add_fro, subA_i, modA_i, fdivA_i, powA_i, mulA_i, mulA_s, mul_fro, ltA_i, leA_i, gtA_i, geA_i, eqInt, eqStr, _root_.Q.len_str, len_fro, len_tup, sl_tup, sl_fro, ixFro, ixTup, tupleA_fro, tupleA_tup, listA_tup, listA_fro, intOfA, if_true, if_false, Bool.not_true, Bool.not_false, Bool.false_eq_true, decide_eq_true_eq, beq_self_eq_true, true_and])
/-- the fact's name is this one -/
def nmEq (x name : A) : Bool := PyData.eqv (dOf (nmA x)) (dOf name)
theorem shp {D W : Nat} {x : A} {d : PyData} (h : Okp D W x) (e : pyd x = some d) (hD : D ≤ 60) : SeqAt.shaped d = true := by
  obtain ⟨d', e', s, al⟩ := h
  rw [e] at e'; cases e'
  unfold SeqAt.shaped
  rw [al.2, decide_eq_true (Nat.le_trans s.2.1 (by omega))]; rfl
section
variable {cl : CT} {FT : FTab} {n : Nat} {G G' : Gp} {Q : KA} {X : KX} {xs ys ks rows : List A} {a : A} {m : Bool}
theorem st_facts_ok (C : StCl cl) (hF : FT (Str.ofString "Store.facts") = some ⟨1, 1, tk_St_facts m cl⟩) (q : new m (.lst rows) G Q) : runF FT (n + 1) "Store.facts" [stv ks rows] G Q X := by
  refine run_i [some (stv ks rows)] hF rfl rfl ?_
  unfold tk_St_facts
  (refine seq_i fun R hR => ?_; try walk_at "w")
  simp only [sSet, sIf, sNx, sRet, sRetN, sEx, sFor, sPar, sFldA, eVar, eC, eBin, eNot, eAnd, eOr, eIf, eTup, eLst, eDct0, eBi, eCall, eM, eSl, oNo, oSome, eLc, eDc, eDis2, prs, eMk_eq, eMe_eq, eFs, fsA, eFmt, eFmtR, iSeq, iR1, it_tup, it_fro, eFld_eq, bV, bVC, bB, bNot, bAnd, bOr, bYes, gNm, gTup, gTs, lNil, lCons, new_f, new_t, frz_l, frz_d, wipeA, truA, tyA, List.getElem?_cons_zero, List.getElem?_cons_succ, List.set_cons_zero, List.set_cons_succ, List.cons_append, List.nil_append, List.append_nil, addA_i, addA_s, addA_t, add_fro, subA_i, modA_i, fdivA_i, powA_i, mulA_i, mulA_s, mul_fro, ltA_i, leA_i, gtA_i, geA_i, eqInt, eqStr, _root_.Q.len_str, len_fro, len_tup, sl_tup, sl_fro, ixFro, ixTup, tupleA_fro, tupleA_tup, listA_tup, listA_fro, intOfA, if_true, if_false, Bool.not_true, Bool.not_false, Bool.false_eq_true, decide_eq_true_eq, beq_self_eq_true, true_and, fld_rows C]
  exact q
theorem st_names_ok (C : StCl cl) (hF : FT (Str.ofString "Store.names") = some ⟨1, 2, tk_St_names m cl⟩) (hx : ∀ x ∈ rows, Fc x) (hl : rows.length ≤ 1000) (q : new m (.lst (srt (ddA (rows.map nmA)))) G Q) : runF FT (n + 1) "Store.names" [stv ks rows] G Q X := by
  have := hz
  refine run_i [some (stv ks rows), none] hF rfl rfl ?_
  unfold tk_St_names
  (refine seq_i fun R hR => ?_; try walk_at "w")
  simp only [sSet, sIf, sNx, sRet, sRetN, sEx, sFor, sPar, sFldA, eVar, eC, eBin, eNot, eAnd, eOr, eIf, eTup, eLst, eDct0, eBi, eCall, eM, eSl, oNo, oSome, eLc, eDc, eDis2, prs, eMk_eq, eMe_eq, eFs, fsA, eFmt, eFmtR, iSeq, iR1, it_tup, it_fro, eFld_eq, bV, bVC, bB, bNot, bAnd, bOr, bYes, gNm, gTup, gTs, lNil, lCons, new_f, new_t, frz_l, frz_d, wipeA, truA, tyA, List.getElem?_cons_zero, List.getElem?_cons_succ, List.set_cons_zero, List.set_cons_succ, List.cons_append, List.nil_append, List.append_nil, addA_i, addA_s, addA_t, add_fro, subA_i, modA_i, fdivA_i, powA_i, mulA_i, mulA_s, mul_fro, ltA_i, leA_i, gtA_i, geA_i, eqInt, eqStr, _root_.Q.len_str, len_fro, len_tup, sl_tup, sl_fro, ixFro, ixTup, tupleA_fro, tupleA_tup, listA_tup, listA_fro, intOfA, if_true, if_false, Bool.not_true, Bool.not_false, Bool.false_eq_true, decide_eq_true_eq, beq_self_eq_true, true_and, fld_rows C]
  have d := dc_keys (i := 1) (vs := [1]) (chk := yes) (ς := [some (stv ks rows), none]) (G := G) nmA trivial rows [] (tk := ?_) (Qf := ?_) ?_ ?_ ?_ ?_ ?_
  exact d
  · intro x mx Q2 q2
    obtain ⟨w, cs, rfl, hw, hc, hl⟩ := hx x mx
    rw [nmA_frow] at q2
    simp only [sSet, sIf, sNx, sRet, sRetN, sEx, sFor, sPar, sFldA, eVar, eC, eBin, eNot, eAnd, eOr, eIf, eTup, eLst, eDct0, eBi, eCall, eM, eSl, oNo, oSome, eLc, eDc, eDis2, prs, eMk_eq, eMe_eq, eFs, fsA, eFmt, eFmtR, iSeq, iR1, it_tup, it_fro, eFld_eq, bV, bVC, bB, bNot, bAnd, bOr, bYes, gNm, gTup, gTs, lNil, lCons, new_f, new_t, frz_l, frz_d, wipeA, truA, tyA, List.getElem?_cons_zero, List.getElem?_cons_succ, List.set_cons_zero, List.set_cons_succ, List.cons_append, List.nil_append, List.append_nil, addA_i, addA_s, addA_t, add_fro, subA_i, modA_i, fdivA_i, powA_i, mulA_i, mulA_s, mul_fro, ltA_i, leA_i, gtA_i, geA_i, eqInt, eqStr, _root_.Q.len_str, len_fro, len_tup, sl_tup, sl_fro, ixFro, ixTup, tupleA_fro, tupleA_tup, listA_tup, listA_fro, intOfA, if_true, if_false, Bool.not_true, Bool.not_false, Bool.false_eq_true, decide_eq_true_eq, beq_self_eq_true, true_and, frow, atK, at0]
    refine ⟨le_sz (by simp), ?_⟩
    have : ((A.str w :: cs.map A.int).length : Int) - 1 = cs.length := by simp
    rw [this]
    exact q2
  · exact fun x mx => (hx x mx).nm.fc.kr
  · simp
  · simp only [List.length_nil]; omega
  have dl := dd_le (rows.map nmA)
  simp only [List.length_map] at dl
  refine ⟨_, ddA (rows.map nmA), rfl, ?_, srt_rows (fun x mx => ?_) (by omega), q⟩
  · show itmOf G (dtr (kvT (ddA (rows.map nmA)))) = _
    simp only [itmOf, dct_dtr, kvT_keys]
  · obtain ⟨y, my, rfl⟩ := List.mem_map.mp (dd_mem.mp mx)
    exact (hx y my).nm.fc.kr
theorem dd_app (xs : List A) (y : A) : ddA (xs ++ [y]) = ddF (ddA xs) y := by
  unfold ddA; rw [List.foldl_append]; rfl
theorem dd_apps (xs ys : List A) : ddA (xs ++ ys) = ys.foldl ddF (ddA xs) := by
  unfold ddA; rw [List.foldl_append]
theorem cns_int {x : A} (h : Fc x) : ∀ y ∈ cnsA x, IsI y := by
  obtain ⟨w, cs, rfl, hw, hc, hl⟩ := h
  intro y my
  obtain ⟨c, _, rfl⟩ := List.mem_map.mp my
  exact ⟨c, rfl⟩
theorem cns_len {x : A} (h : Fc x) : (cnsA x).length ≤ 4 := by
  obtain ⟨w, cs, rfl, hw, hc, hl⟩ := h
  rw [cnsA_frow, List.length_map]; exact hl
theorem cnss_len : ∀ {rows : List A}, (∀ x ∈ rows, Fc x) → (rows.flatMap cnsA).length ≤ 4 * rows.length
  | [], _ => by simp
  | x :: xs, h => by
    have := cnss_len (rows := xs) fun y m => h y (by simp [m])
    have := cns_len (h x (by simp))
    rw [List.flatMap_cons, List.length_append, List.length_cons]; omega
theorem cnss_int {rows : List A} (h : ∀ x ∈ rows, Fc x) : ∀ y ∈ rows.flatMap cnsA, IsI y := fun y m => by
  obtain ⟨x, mx, my⟩ := List.mem_flatMap.mp m
  exact cns_int (h x mx) y my
theorem fm_take {f : A → List A} {r : List A} {k : Nat} {y : A} (h : r[k]? = some y) : (r.take (k + 1)).flatMap f = (r.take k).flatMap f ++ f y := by
  rw [List.take_add_one, h]
  simp [List.flatMap_append]
theorem st_constants_ok (C : StCl cl) (hF : FT (Str.ofString "Store.constants") = some ⟨1, 4, tk_St_constants m cl⟩) (hx : ∀ x ∈ rows, Fc x) (hl : rows.length ≤ 1000) (q : ∀ G', Ext G G' → new m (.lst (srt (ddA (rows.flatMap cnsA)))) G' Q) : runF FT (n + 1) "Store.constants" [stv ks rows] G Q X := by
  have := hz
  refine run_i [some (stv ks rows), none, none, none] hF rfl rfl ?_
  unfold tk_St_constants
  (refine seq_i fun R hR => ?_; try walk_at "w")
  intro p hp
  (refine hR _ _ ?_; clear hR R)
  (refine seq_i fun R hR => ?_; try walk_at "w")
  simp only [sSet, sIf, sNx, sRet, sRetN, sEx, sFor, sPar, sFldA, eVar, eC, eBin, eNot, eAnd, eOr, eIf, eTup, eLst, eDct0, eBi, eCall, eM, eSl, oNo, oSome, eLc, eDc, eDis2, prs, eMk_eq, eMe_eq, eFs, fsA, eFmt, eFmtR, iSeq, iR1, it_tup, it_fro, eFld_eq, bV, bVC, bB, bNot, bAnd, bOr, bYes, gNm, gTup, gTs, lNil, lCons, new_f, new_t, frz_l, frz_d, wipeA, truA, tyA, List.getElem?_cons_zero, List.getElem?_cons_succ, List.set_cons_zero, List.set_cons_succ, List.cons_append, List.nil_append, List.append_nil, addA_i, addA_s, addA_t, add_fro, subA_i, modA_i, fdivA_i, powA_i, mulA_i, mulA_s, mul_fro, ltA_i, leA_i, gtA_i, geA_i, eqInt, eqStr, _root_.Q.len_str, len_fro, len_tup, sl_tup, sl_fro, ixFro, ixTup, tupleA_fro, tupleA_tup, listA_tup, listA_fro, intOfA, if_true, if_false, Bool.not_true, Bool.not_false, Bool.false_eq_true, decide_eq_true_eq, beq_self_eq_true, true_and, fld_rows C]
  have fc : ∀ k, (ddA ((rows.take k).flatMap cnsA)).length ≤ 4000 := fun k => by
    have h1 := dd_le ((rows.take k).flatMap cnsA)
    have h2 := cnss_len (rows := rows.take k) fun x m => hx x (List.mem_of_mem_take m)
    simp only [List.length_take] at h2
    omega
  have ii : ∀ k, ∀ y ∈ (rows.take k).flatMap cnsA, IsI y := fun k => cnss_int fun x m => hx x (List.mem_of_mem_take m)
  refine for_ix (fun k ς G' => ∃ x2 x3, ς = [some (stv ks rows), some (.ref p), x2, x3] ∧ G' p = some (.dct (kvT (ddA ((rows.take k).flatMap cnsA)))) ∧ Ext G G') (fun _ _ _ _ => trivial) rows 0 _ _ ?_ ⟨none, none, rfl, up_same, Ext.new hp⟩ ?_
  · rintro k y my ς G2 ⟨x2, x3, rfl, g2, e2⟩ D' nx _ rt ex _
    simp only [Nat.zero_add] at g2 nx ⊢
    have fy := hx y (List.mem_of_getElem? my)
    obtain ⟨w, cs, ey, hw, hc, hl4⟩ := fy
    walk_at "w"
    refine seq_i fun R2 h2 => ?_
    walk_at "w"
    subst ey
    simp only [sSet, sIf, sNx, sRet, sRetN, sEx, sFor, sPar, sFldA, eVar, eC, eBin, eNot, eAnd, eOr, eIf, eTup, eLst, eDct0, eBi, eCall, eM, eSl, oNo, oSome, eLc, eDc, eDis2, prs, eMk_eq, eMe_eq, eFs, fsA, eFmt, eFmtR, iSeq, iR1, it_tup, it_fro, eFld_eq, bV, bVC, bB, bNot, bAnd, bOr, bYes, gNm, gTup, gTs, lNil, lCons, new_f, new_t, frz_l, frz_d, wipeA, truA, tyA, List.getElem?_cons_zero, List.getElem?_cons_succ, List.set_cons_zero, List.set_cons_succ, List.cons_append, List.nil_append, List.append_nil, addA_i, addA_s, addA_t, add_fro, subA_i, modA_i, fdivA_i, powA_i, mulA_i, mulA_s, mul_fro, ltA_i, leA_i, gtA_i, geA_i, eqInt, eqStr, _root_.Q.len_str, len_fro, len_tup, sl_tup, sl_fro, ixFro, ixTup, tupleA_fro, tupleA_tup, listA_tup, listA_fro, intOfA, if_true, if_false, Bool.not_true, Bool.not_false, Bool.false_eq_true, decide_eq_true_eq, beq_self_eq_true, true_and, frow]
    rw [cut1']
    refine for_ix (fun j ς G' => ∃ x3, ς = [some (stv ks rows), some (.ref p), some (frow w cs), x3] ∧ G' p = some (.dct (kvT (ddA ((rows.take k).flatMap cnsA ++ (cs.map A.int).take j)))) ∧ Ext G G') (fun _ _ _ _ => trivial) (cs.map A.int) 0 _ _ ?_ ⟨x3, rfl, by simpa using g2, e2⟩ ?_
    · rintro j z mz ς G3 ⟨x3, rfl, g3, e3⟩ D3 nx3 _ rt3 ex3 _
      simp only [Nat.zero_add] at g3 nx3 ⊢
      obtain ⟨c, mc, rfl⟩ := List.mem_map.mp (List.mem_of_getElem? mz)
      walk_at "w"
      refine seq_i fun R4 h4 => ?_
      simp only [sSet, sIf, sNx, sRet, sRetN, sEx, sFor, sPar, sFldA, eVar, eC, eBin, eNot, eAnd, eOr, eIf, eTup, eLst, eDct0, eBi, eCall, eM, eSl, oNo, oSome, eLc, eDc, eDis2, prs, eMk_eq, eMe_eq, eFs, fsA, eFmt, eFmtR, iSeq, iR1, it_tup, it_fro, eFld_eq, bV, bVC, bB, bNot, bAnd, bOr, bYes, gNm, gTup, gTs, lNil, lCons, new_f, new_t, frz_l, frz_d, wipeA, truA, tyA, List.getElem?_cons_zero, List.getElem?_cons_succ, List.set_cons_zero, List.set_cons_succ, List.cons_append, List.nil_append, List.append_nil, addA_i, addA_s, addA_t, add_fro, subA_i, modA_i, fdivA_i, powA_i, mulA_i, mulA_s, mul_fro, ltA_i, leA_i, gtA_i, geA_i, eqInt, eqStr, _root_.Q.len_str, len_fro, len_tup, sl_tup, sl_fro, ixFro, ixTup, tupleA_fro, tupleA_tup, listA_tup, listA_fro, intOfA, if_true, if_false, Bool.not_true, Bool.not_false, Bool.false_eq_true, decide_eq_true_eq, beq_self_eq_true, true_and, gSubD]
      have f1 := fc k
      have f2 := dd_le ((rows.take k).flatMap cnsA ++ (cs.map A.int).take j)
      have f3 : ((rows.take k).flatMap cnsA ++ (cs.map A.int).take j).length ≤ 8000 := by
        have h2 := cnss_len (rows := rows.take k) fun x m => hx x (List.mem_of_mem_take m)
        simp only [List.length_take] at h2
        simp only [List.length_append, List.length_take, List.length_map]
        omega
      refine ⟨p, rfl, .inr ⟨_, g3, kvT_keyI ⟨c, rfl⟩ (fun x mx => ?_), by simp only [kvT, List.length_map]; omega, h4 _ _ (nx3 _ _ ⟨_, rfl, ?_, fun a o e => ?_⟩)⟩⟩
      · rcases List.mem_append.mp (dd_mem.mp mx) with mx | mx
        · exact ii k x mx
        · obtain ⟨d, _, rfl⟩ := List.mem_map.mp (List.mem_of_mem_take mx)
          exact ⟨d, rfl⟩
      · rw [up_same, kvT_put, ← dd_app, List.append_assoc, List.take_add_one, mz]; rfl
      · have : a ≠ p := ne_fresh e hp
        rw [up_ne this]; exact e3 a o e
    · rintro ς G3 ⟨x3, rfl, g3, e3⟩
      simp only [Nat.zero_add, List.take_length] at g3
      refine h2 _ _ (nx _ _ ⟨_, _, rfl, ?_, e3⟩)
      rw [fm_take my, cnsA_frow]; exact g3
  · rintro ς G2 ⟨x2, x3, rfl, g2, e2⟩
    simp only [Nat.zero_add, List.take_length] at g2
    (refine hR _ _ ?_; clear hR R)
    (refine seq_i fun R hR => ?_; try walk_at "w")
    refine ⟨_, ddA (rows.flatMap cnsA), rfl, ?_, srt_ints (fun x mx => ?_) ?_, q G2 e2⟩
    · simp only [itmOf, dct_ref g2, kvT_keys]
    · exact cnss_int hx x (dd_mem.mp mx)
    · have := fc rows.length
      simp only [List.take_length] at this
      omega
theorem eq_nm {Q : KA} {w : Str} {cs : List Int} {name : A} (h : Nm name) (hf : Fc (frow w cs)) (q : Q (.bl (nmEq (frow w cs) name)) G) : eqA false (.tup [.str w, .int ((A.str w :: cs.map A.int).length - 1)]) name G Q := by
  have e : ((A.str w :: cs.map A.int).length : Int) - 1 = cs.length := by simp
  rw [e]
  have h1 := hf.nm.fc.ok
  rw [nmA_frow] at h1
  obtain ⟨w', n', rfl, _⟩ := id h
  unfold nmEq at q
  rw [nmA_frow, dOf_frow, dOf_frow] at q
  exact eq_dat (.of (pyd_frow w [(cs.length : Int)])) (.of (pyd_frow w' [n'])) (shp h1 (pyd_frow _ _) (by decide)) (shp h.fc.ok (pyd_frow _ _) (by decide)) q
theorem st_of_ok {name : A} (C : StCl cl) (hF : FT (Str.ofString "Store.of") = some ⟨2, 3, tk_St_of m cl⟩) (hx : ∀ x ∈ rows, Fc x) (hl : rows.length ≤ 1000) (hn : Nm name) (q : new m (.lst (rows.filter fun x => nmEq x name)) G Q) : runF FT (n + 1) "Store.of" [stv ks rows, name] G Q X := by
  have := hz
  refine run_i [some (stv ks rows), some name, none] hF rfl rfl ?_
  unfold tk_St_of
  (refine seq_i fun R hR => ?_; try walk_at "w")
  simp only [sSet, sIf, sNx, sRet, sRetN, sEx, sFor, sPar, sFldA, eVar, eC, eBin, eNot, eAnd, eOr, eIf, eTup, eLst, eDct0, eBi, eCall, eM, eSl, oNo, oSome, eLc, eDc, eDis2, prs, eMk_eq, eMe_eq, eFs, fsA, eFmt, eFmtR, iSeq, iR1, it_tup, it_fro, eFld_eq, bV, bVC, bB, bNot, bAnd, bOr, bYes, gNm, gTup, gTs, lNil, lCons, new_f, new_t, frz_l, frz_d, wipeA, truA, tyA, List.getElem?_cons_zero, List.getElem?_cons_succ, List.set_cons_zero, List.set_cons_succ, List.cons_append, List.nil_append, List.append_nil, addA_i, addA_s, addA_t, add_fro, subA_i, modA_i, fdivA_i, powA_i, mulA_i, mulA_s, mul_fro, ltA_i, leA_i, gtA_i, geA_i, eqInt, eqStr, _root_.Q.len_str, len_fro, len_tup, sl_tup, sl_fro, ixFro, ixTup, tupleA_fro, tupleA_tup, listA_tup, listA_fro, intOfA, if_true, if_false, Bool.not_true, Bool.not_false, Bool.false_eq_true, decide_eq_true_eq, beq_self_eq_true, true_and, fld_rows C]
  refine lc_filt (p := fun x => nmEq x name) (by simp [wipeA]) trivial rows [] ?_ (by simp only [List.length_nil]; omega) q
  intro x mx Q2 q2
  obtain ⟨w, cs, rfl, hw, hc, hl⟩ := id (hx x mx)
  simp only [sSet, sIf, sNx, sRet, sRetN, sEx, sFor, sPar, sFldA, eVar, eC, eBin, eNot, eAnd, eOr, eIf, eTup, eLst, eDct0, eBi, eCall, eM, eSl, oNo, oSome, eLc, eDc, eDis2, prs, eMk_eq, eMe_eq, eFs, fsA, eFmt, eFmtR, iSeq, iR1, it_tup, it_fro, eFld_eq, bV, bVC, bB, bNot, bAnd, bOr, bYes, gNm, gTup, gTs, lNil, lCons, new_f, new_t, frz_l, frz_d, wipeA, truA, tyA, List.getElem?_cons_zero, List.getElem?_cons_succ, List.set_cons_zero, List.set_cons_succ, List.cons_append, List.nil_append, List.append_nil, addA_i, addA_s, addA_t, add_fro, subA_i, modA_i, fdivA_i, powA_i, mulA_i, mulA_s, mul_fro, ltA_i, leA_i, gtA_i, geA_i, eqInt, eqStr, _root_.Q.len_str, len_fro, len_tup, sl_tup, sl_fro, ixFro, ixTup, tupleA_fro, tupleA_tup, listA_tup, listA_fro, intOfA, if_true, if_false, Bool.not_true, Bool.not_false, Bool.false_eq_true, decide_eq_true_eq, beq_self_eq_true, true_and, frow, atK, at0]
  exact ⟨le_sz (by simp), eq_nm hn (hx _ mx) q2⟩
theorem st_len_ok (C : StCl cl) (hF : FT (Str.ofString "Store.__len__") = some ⟨1, 1, tk_St_len cl⟩) (q : Q (.int rows.length) G) : runF FT (n + 1) "Store.__len__" [stv ks rows] G Q X := by
  refine run_i [some (stv ks rows)] hF rfl rfl ?_
  unfold tk_St_len
  (refine seq_i fun R hR => ?_; try walk_at "w")
  simp only [sSet, sIf, sNx, sRet, sRetN, sEx, sFor, sPar, sFldA, eVar, eC, eBin, eNot, eAnd, eOr, eIf, eTup, eLst, eDct0, eBi, eCall, eM, eSl, oNo, oSome, eLc, eDc, eDis2, prs, eMk_eq, eMe_eq, eFs, fsA, eFmt, eFmtR, iSeq, iR1, it_tup, it_fro, eFld_eq, bV, bVC, bB, bNot, bAnd, bOr, bYes, gNm, gTup, gTs, lNil, lCons, new_f, new_t, frz_l, frz_d, wipeA, truA, tyA, List.getElem?_cons_zero, List.getElem?_cons_succ, List.set_cons_zero, List.set_cons_succ, List.cons_append, List.nil_append, List.append_nil, addA_i, addA_s, addA_t, add_fro, subA_i, modA_i, fdivA_i, powA_i, mulA_i, mulA_s, mul_fro, ltA_i, leA_i, gtA_i, geA_i, eqInt, eqStr, _root_.Q.len_str, len_fro, len_tup, sl_tup, sl_fro, ixFro, ixTup, tupleA_fro, tupleA_tup, listA_tup, listA_fro, intOfA, if_true, if_false, Bool.not_true, Bool.not_false, Bool.false_eq_true, decide_eq_true_eq, beq_self_eq_true, true_and, fld_rows C]
  exact q
theorem st_bool_ok (C : StCl cl) (hF : FT (Str.ofString "Store.__bool__") = some ⟨1, 1, tk_St_bool cl⟩) (q : Q (.bl (!rows.isEmpty)) G) : runF FT (n + 1) "Store.__bool__" [stv ks rows] G Q X := by
  refine run_i [some (stv ks rows)] hF rfl rfl ?_
  unfold tk_St_bool
  (refine seq_i fun R hR => ?_; try walk_at "w")
  simp only [sSet, sIf, sNx, sRet, sRetN, sEx, sFor, sPar, sFldA, eVar, eC, eBin, eNot, eAnd, eOr, eIf, eTup, eLst, eDct0, eBi, eCall, eM, eSl, oNo, oSome, eLc, eDc, eDis2, prs, eMk_eq, eMe_eq, eFs, fsA, eFmt, eFmtR, iSeq, iR1, it_tup, it_fro, eFld_eq, bV, bVC, bB, bNot, bAnd, bOr, bYes, gNm, gTup, gTs, lNil, lCons, new_f, new_t, frz_l, frz_d, wipeA, truA, tyA, List.getElem?_cons_zero, List.getElem?_cons_succ, List.set_cons_zero, List.set_cons_succ, List.cons_append, List.nil_append, List.append_nil, addA_i, addA_s, addA_t, add_fro, subA_i, modA_i, fdivA_i, powA_i, mulA_i, mulA_s, mul_fro, ltA_i, leA_i, gtA_i, geA_i, eqInt, eqStr, _root_.Q.len_str, len_fro, len_tup, sl_tup, sl_fro, ixFro, ixTup, tupleA_fro, tupleA_tup, listA_tup, listA_fro, intOfA, if_true, if_false, Bool.not_true, Bool.not_false, Bool.false_eq_true, decide_eq_true_eq, beq_self_eq_true, true_and, fld_rows C, boolC, truC, clsOf]
  exact q
theorem empty_app (x : Str) : Str.empty ++ x = x := by
  show (⟨#[] ++ x.cps⟩ : Str) = x
  simp
/-- a store's text -/
def stT (d : PyData) : Str := Str.ofString "Store(" ++ d.shown ++ Str.ofString ")"
theorem st_repr_ok {d : PyData} {D W : Nat} (C : StCl cl) (hF : FT (Str.ofString "Store.__repr__") = some ⟨1, 1, tk_St_repr cl⟩) (e : pyd (.fro rows) = some d) (s : Sm D W d) (hD : D ≤ 60) (hW : W ≤ 15000000) (q : Q (.str (stT d)) G) : runF FT (n + 1) "Store.__repr__" [stv ks rows] G Q X := by
  have := hz
  refine run_i [some (stv ks rows)] hF rfl rfl ?_
  unfold tk_St_repr
  have h1 : (Str.ofString "Store(").length = 6 := by decide +kernel
  have h2 : (Str.ofString ")").length = 1 := by decide +kernel
  have h3 := s.2.2.1
  (refine seq_i fun R hR => ?_; try walk_at "w")
  simp only [sSet, sIf, sNx, sRet, sRetN, sEx, sFor, sPar, sFldA, eVar, eC, eBin, eNot, eAnd, eOr, eIf, eTup, eLst, eDct0, eBi, eCall, eM, eSl, oNo, oSome, eLc, eDc, eDis2, prs, eMk_eq, eMe_eq, eFs, fsA, eFmt, eFmtR, iSeq, iR1, it_tup, it_fro, eFld_eq, bV, bVC, bB, bNot, bAnd, bOr, bYes, gNm, gTup, gTs, lNil, lCons, new_f, new_t, frz_l, frz_d, wipeA, truA, tyA, List.getElem?_cons_zero, List.getElem?_cons_succ, List.set_cons_zero, List.set_cons_succ, List.cons_append, List.nil_append, List.append_nil, addA_i, addA_s, addA_t, add_fro, subA_i, modA_i, fdivA_i, powA_i, mulA_i, mulA_s, mul_fro, ltA_i, leA_i, gtA_i, geA_i, eqInt, eqStr, _root_.Q.len_str, len_fro, len_tup, sl_tup, sl_fro, ixFro, ixTup, tupleA_fro, tupleA_tup, listA_tup, listA_fro, intOfA, if_true, if_false, Bool.not_true, Bool.not_false, Bool.false_eq_true, decide_eq_true_eq, beq_self_eq_true, true_and, fld_rows C]
  refine ⟨_, rfl, ?_, repr_ok e s hD (by omega) ⟨_, rfl, ?_, _, rfl, ?_, ?_⟩⟩
  · rw [empty_app]; omega
  · rw [empty_app, len_app]; omega
  · rw [empty_app, len_app, len_app]; omega
  · rw [empty_app]; exact q
end
end Q
/-! Z5: stores made, compared; lists that are spoilt. -/
namespace Q
open PySem PySem.Spec PyProof.Rows
local macro_rules | `(tactic| walk_at "w") => `(tactic| simp only [sSet, sIf, sNx, sRet, sRetN, sEx, sFor, sPar, sFldA, eVar, eC, eBin, eNot, eAnd, eOr, eIf, eTup, eLst, eDct0, eBi, eCall, eM, eSl, oNo, oSome, eLc, eDc, eDis2, prs, eMk_eq, eMe_eq, eFs, fsA, eFmt, eFmtR, iSeq, iR1, it_tup, it_fro, eFld_eq, bV, bVC, bB, bNot, bAnd, bOr, bYes, gNm, gTup, gTs, lNil, lCons, new_f, new_t, frz_l, frz_d, wipeA, truA, tyA, List.getElem?_cons_zero, List.getElem?_cons_succ, List.set_cons_zero, List.set_cons_succ, List.cons_append, List.nil_append, List.append_nil, addA_i, addA_s, addA_t, add_fro, subA_i, modA_i, fdivA_i, powA_i, mulA_i, mulA_s, mul_fro, ltA_i, leA_i, gtA_i, geA_i, eqInt, eqStr, _root_.Q.len_str, len_fro, len_tup, sl_tup, sl_fro, ixFro, ixTup, tupleA_fro, tupleA_tup, listA_tup, listA_fro, intOfA, if_true, if_false, Bool.not_true, Bool.not_false, Bool.false_eq_true, decide_eq_true_eq, beq_self_eq_true, true_and])
def tk_made_store (cl : CT) (c : Cal) : SA := (sSeq (sSet (eCall c "_law_mixed" (lCons (eVar 0) (lCons (eBin (addA false) (eVar 1) (eSl false (eVar 1) oNo (oSome (eCall c "_law_take" (lCons (eVar 0) (lCons (eC (.int 2)) lNil)))))) lNil))) (gNm 2))
  (sSeq (sSet (eMk cl c (Str.ofString "Store") (lCons (eBin ixD (eLst false (lCons (eVar 2) (lCons (eBi tupleA (lCons (eVar 2) lNil)) lNil))) (eCall c "_law_take" (lCons (eVar 0) (lCons (eC (.int 2)) lNil)))) lNil) []) (gNm 3))
  (sSeq (sEx (eM "list" clearA (eVar 2) lNil))
  (sSeq (sRet (eVar 3))
  sNx))))
section
variable {cl : CT} {FT : FTab} {n : Nat} {G G' : Gp} {Q : KA} {X : KX} {xs ys ks rows ks2 rows2 : List A} {a v : A} {m neg : Bool} {b : Addr} {P : Int}
theorem StV.same (h : StV ys v) (hx : ∀ x ∈ xs, Fc x) (l1 : xs.length ≤ 1000) (l2 : ys.length ≤ 1000) (e : ∀ x, x ∈ ys ↔ x ∈ xs) : StV xs v := by
  obtain ⟨ks, rfl, h1, h2⟩ := h
  refine ⟨ks, ?_, h1, fun x => (h2 x).trans (e x)⟩
  rw [dd_srt (srt_rows (fun x m => (hx x m).kr) (le_sz l1)) e (le_sz l2)]
theorem made_ok (F : StF cl FT) (hT : FT (Str.ofString "_law_take") = some ⟨2, 7, tk_take⟩) (hM : FT (Str.ofString "_law_mixed") = some ⟨2, 4, tk_mixed⟩) (hF : FT (Str.ofString "_law_made_store") = some ⟨2, 4, tk_made_store cl⟩)
    (B : Bag b P G) (hP : P ≤ 2 ^ 58) (hx : ∀ x ∈ xs, Fc x) (hl : xs.length ≤ 100) (q : ∀ v G', StV xs v → Bag b (P + 210) G' → Fr b G G' → Q v G') : runF FT (n + 5) "_law_made_store" [.ref b, .fro xs] G Q X := by
  have := hz
  have := h60
  have := h59
  have hP2 := pl58 hP
  refine run_i [some (.ref b), some (.fro xs), none, none] hF rfl rfl ?_
  unfold tk_made_store
  (refine seq_i fun R hR => ?_; try walk_at "w")
  refine take_ok (many := 2) hT B (by omega) (by decide) (by decide) fun d G1 d0 d1 B1 r1 => ?_
  walk_at "w"
  have lc : (cutA xs none (some d)).length ≤ 100 := by
    have : (cutA xs none (some d)).length ≤ xs.length := by
      unfold cutA; simp only [List.length_take, List.length_drop]; omega
    omega
  have mm : ∀ x, x ∈ xs ++ cutA xs none (some d) ↔ x ∈ xs := fun x => by
    rw [List.mem_append]
    exact ⟨fun h => h.elim id cut_mem, .inl⟩
  refine ⟨by omega, ?_⟩
  refine mixed_ref hT hM B1 (by omega) (by simp only [List.length_append]; omega) fun p zs G2 gp pb pm g2 B2 r2 => ?_
  have B2 := B2.more (show P + 1 + (xs ++ cutA xs none (some d)).length ≤ P + 202 by simp only [List.length_append]; omega)
  have r2 := (Fr.rm r1).trans r2
  (refine hR _ _ ?_; clear hR R)
  (refine seq_i fun R hR => ?_; try walk_at "w")
  rw [tupleA_l (show seqOf G2 (.ref p) = some zs from lstOf_ref g2)]
  refine ⟨le_sz (by simp), ?_⟩
  refine take_ok (many := 2) hT B2 (by omega) (by decide) (by decide) fun d3 G3 d30 d31 B3 r3 => ?_
  have g3 : G3 p = some (.lst zs) := (keep r3 pb).trans g2
  have r3 := r2.trans (Fr.rm r3)
  refine ix_any d30 (by simpa using d31) fun x mx => ?_
  have sq : SqA G3 x zs := by
    simp only [List.mem_cons, List.not_mem_nil, or_false] at mx
    rcases mx with rfl | rfl
    · exact .inr (.inr ⟨p, rfl, g3⟩)
    · exact .inr (.inl rfl)
  have lz : zs.length ≤ 1000 := by rw [pm.length_eq, List.length_append]; omega
  have mz : ∀ x, x ∈ zs ↔ x ∈ xs := fun x => pm.mem_iff.trans (mm x)
  refine mk_ok (n := n) F sq (fun x m => hx x ((mz x).mp m)) lz fun v sv => ?_
  have sv := sv.same hx (by omega) lz mz
  (refine hR _ _ ?_; clear hR R)
  (refine seq_i fun R hR => ?_; try walk_at "w")
  simp only [g3]
  refine ⟨by simp, p, zs, rfl, rfl, g3, ?_⟩
  have pG : G p = none := by
    cases e : G p with
    | none => rfl
    | some o => have := Fr.rm r1 p o pb e; rw [gp] at this; cases this
  have B4 := (B3.new (o := .lst []) pb).more (show P + 202 + 1 ≤ P + 210 by omega)
  have r4 := Fr.wr (o := .lst []) pG r3
  (refine hR _ _ ?_; clear hR R)
  (refine seq_i fun R hR => ?_; try walk_at "w")
  exact q v _ sv B4 r4
/-- two stores' rows are equal -/
def rowsEq (xs ys : List A) : Bool := PyData.eqv (.list (xs.map dOf)) (.list (ys.map dOf))
theorem dts_dOf : ∀ {xs : List A}, (∀ x ∈ xs, Fc x) → Dts G xs (xs.map dOf)
  | [], _ => .nil
  | x :: xs, h => by
    obtain ⟨w, cs, rfl, _⟩ := id (h x (by simp))
    refine .cons ?_ (dts_dOf fun y m => h y (by simp [m]))
    rw [dOf_frow]
    exact .of (pyd_frow w cs)
theorem pyds_dOf : ∀ {xs : List A}, (∀ x ∈ xs, (pyd x).isSome = true) → pyds xs = some (xs.map dOf)
  | [], _ => rfl
  | x :: xs, h => by
    obtain ⟨d, e⟩ := Option.isSome_iff_exists.mp (h x (by simp))
    simp only [pyds, e, pyds_dOf (xs := xs) fun y m => h y (by simp [m]), List.map_cons, dOf, Option.getD_some]
theorem Fc.some {x : A} (h : Fc x) : (pyd x).isSome = true := by
  obtain ⟨w, cs, rfl, _⟩ := h
  rw [pyd_frow]; rfl
theorem rows_okp {N : Nat} (h : ∀ x ∈ xs, Fc x) (hl : xs.length ≤ N) : Okp 2 (515 * N + 3) (.fro xs) := Okp.fro (D := 1) (W := 513) (L := N) (fun x m => (h x m).ok) hl (by omega) (by decide)
theorem rows_pyd (h : ∀ x ∈ xs, Fc x) : pyd (.fro xs) = some (.list (xs.map dOf)) := by simp only [pyd, pyds_dOf fun x m => (h x m).some, Option.map_some]
theorem rows_pydT (h : ∀ x ∈ xs, Fc x) : pyd (.tup xs) = some (.tuple (xs.map dOf)) := by simp only [pyd, pyds_dOf fun x m => (h x m).some, Option.map_some]
theorem rows_shp (h : ∀ x ∈ xs, Fc x) : SeqAt.shaped (.list (xs.map dOf)) = true := shp (rows_okp h (Nat.le_refl _)) (rows_pyd h) (by decide)
theorem rows_shpT (h : ∀ x ∈ xs, Fc x) : SeqAt.shaped (.tuple (xs.map dOf)) = true := shp (Okp.tup (D := 1) (W := 513) (L := xs.length) (D' := 2) (W' := 515 * xs.length + 3) (fun x m => (h x m).ok) (Nat.le_refl _) (by omega) (by decide)) (rows_pydT h) (by decide)
theorem alike_rows : ∀ {xs ys : List A}, (∀ x ∈ xs, Fc x) → (∀ x ∈ ys, Fc x) → PySem.W.alikeAll (xs.map dOf) (ys.map dOf) = true
  | [], _, _, _ => by simp only [List.map_nil, PySem.W.alikeAll]
  | x :: xs, [], _, _ => by simp only [List.map_nil, List.map_cons, PySem.W.alikeAll]
  | x :: xs, y :: ys, h1, h2 => by
    obtain ⟨w, cs, rfl, _⟩ := id (h1 x (by simp))
    obtain ⟨w', cs', rfl, _⟩ := id (h2 y (by simp))
    have := alike_rows (xs := xs) (ys := ys) (fun z m => h1 z (by simp [m])) fun z m => h2 z (by simp [m])
    simp only [List.map_cons, dOf_frow, fdat, PySem.W.alikeAll, PySem.W.alike, alike_ints, this, Bool.and_self]
theorem dOf_inj {x y : A} (h1 : Fc x) (h2 : Fc y) (e : dOf x = dOf y) : x = y := by
  obtain ⟨w, cs, rfl, _⟩ := h1
  obtain ⟨w', cs', rfl, _⟩ := h2
  rw [dOf_frow, dOf_frow] at e
  simp only [fdat, PyData.tuple.injEq, List.cons.injEq, PyData.str.injEq] at e
  obtain ⟨rfl, e⟩ := e
  have : cs = cs' := by
    rename_i q1 q2
    clear q1 q2
    induction cs generalizing cs' with
    | nil => cases cs' with
      | nil => rfl
      | cons _ _ => simp at e
    | cons c cs ih => cases cs' with
      | nil => simp at e
      | cons c' cs' =>
        simp only [List.map_cons, List.cons.injEq, PyData.int.injEq] at e
        rw [e.1, ih cs' e.2]
  rw [this]
theorem map_inj : ∀ {xs ys : List A}, (∀ x ∈ xs, Fc x) → (∀ x ∈ ys, Fc x) → xs.map dOf = ys.map dOf → xs = ys
  | [], [], _, _, _ => rfl
  | [], _ :: _, _, _, e => by simp at e
  | _ :: _, [], _, _, e => by simp at e
  | x :: xs, y :: ys, h1, h2, e => by
    simp only [List.map_cons, List.cons.injEq] at e
    rw [dOf_inj (h1 x (by simp)) (h2 y (by simp)) e.1, map_inj (fun z m => h1 z (by simp [m])) (fun z m => h2 z (by simp [m])) e.2]
theorem rowsEq_refl (h : ∀ x ∈ xs, Fc x) : rowsEq xs xs = true := by
  obtain ⟨d, e, _, al⟩ := rows_okp h (Nat.le_refl _)
  rw [rows_pyd h] at e; cases e
  exact PySem.W.eqv_refl_alike _ al.1
theorem rowsEq_iff (h1 : ∀ x ∈ xs, Fc x) (h2 : ∀ x ∈ ys, Fc x) : rowsEq xs ys = true ↔ xs = ys := by
  constructor
  · intro e
    refine map_inj h1 h2 (alikes_eq _ _ (alike_rows h1 h2) ?_)
    simpa only [rowsEq, PyData.eqv] using e
  · rintro rfl; exact rowsEq_refl h1
theorem rowsEq_comm (h1 : ∀ x ∈ xs, Fc x) (h2 : ∀ x ∈ ys, Fc x) : rowsEq ys xs = rowsEq xs ys := by
  rw [Bool.eq_iff_iff, rowsEq_iff h1 h2, rowsEq_iff h2 h1]
  exact eq_comm
theorem eq_bl {b1 b2 : Bool} : eqA neg (.bl b1) (.bl b2) G Q = Q (.bl (if neg then !(b1 == b2) else b1 == b2)) G := by
  refine propext ⟨?_, fun q => eq_dat .bl .bl rfl rfl (by simpa only [PyData.eqv] using q)⟩
  rintro (⟨d, e, h1, h2, _, _, q⟩ | ⟨xs, _, h, _⟩ | ⟨_, h, _⟩ | ⟨_, _, h, _⟩)
  · cases h1; cases h2; simpa only [PyData.eqv] using q
  · cases h
  · cases h
  · cases h
theorem eq_rows (h1 : ∀ x ∈ xs, Fc x) (h2 : ∀ x ∈ ys, Fc x) (q : Q (.bl (if neg then !rowsEq xs ys else rowsEq xs ys)) G) : eqA neg (.fro xs) (.fro ys) G Q :=
  eq_dat (.of (rows_pyd h1)) (.of (rows_pyd h2)) (rows_shp h1) (rows_shp h2) q
theorem eq_rowsT (h1 : ∀ x ∈ xs, Fc x) (h2 : ∀ x ∈ ys, Fc x) (q : Q (.bl (if neg then !rowsEq xs ys else rowsEq xs ys)) G) : eqA neg (.tup xs) (.tup ys) G Q :=
  eq_dat (.of (rows_pydT h1)) (.of (rows_pydT h2)) (rows_shpT h1) (rows_shpT h2) (by simpa only [PyData.eqv, rowsEq] using q)
theorem st_eq_ok (C : StCl cl) (hF : FT (Str.ofString "Store.__eq__") = some ⟨2, 2, tk_St_eq cl⟩) (h1 : ∀ x ∈ rows, Fc x) (h2 : ∀ x ∈ rows2, Fc x) (q : Q (.bl (rowsEq rows rows2)) G) : runF FT (n + 1) "Store.__eq__" [stv ks rows, stv ks2 rows2] G Q X := by
  refine run_i [some (stv ks rows), some (stv ks2 rows2)] hF rfl rfl ?_
  unfold tk_St_eq
  obtain ⟨ci, e1, _, _⟩ := C.lk
  have e : isC cl (Str.ofString "Store") G (stv ks2 rows2) = some true := by
    simp only [isC, clsOf, stv]
    show (if (cl.lookup (Str.ofString "Store")).isSome = true then _ else _) = _
    rw [e1]; rfl
  (refine seq_i fun R hR => ?_; try walk_at "w")
  simp only [eIsC, eVar, List.getElem?_cons_zero, List.getElem?_cons_succ]
  refine ⟨true, e, ?_⟩
  simp only [sSet, sIf, sNx, sRet, sRetN, sEx, sFor, sPar, sFldA, eVar, eC, eBin, eNot, eAnd, eOr, eIf, eTup, eLst, eDct0, eBi, eCall, eM, eSl, oNo, oSome, eLc, eDc, eDis2, prs, eMk_eq, eMe_eq, eFs, fsA, eFmt, eFmtR, iSeq, iR1, it_tup, it_fro, eFld_eq, bV, bVC, bB, bNot, bAnd, bOr, bYes, gNm, gTup, gTs, lNil, lCons, new_f, new_t, frz_l, frz_d, wipeA, truA, tyA, List.getElem?_cons_zero, List.getElem?_cons_succ, List.set_cons_zero, List.set_cons_succ, List.cons_append, List.nil_append, List.append_nil, addA_i, addA_s, addA_t, add_fro, subA_i, modA_i, fdivA_i, powA_i, mulA_i, mulA_s, mul_fro, ltA_i, leA_i, gtA_i, geA_i, eqInt, eqStr, _root_.Q.len_str, len_fro, len_tup, sl_tup, sl_fro, ixFro, ixTup, tupleA_fro, tupleA_tup, listA_tup, listA_fro, intOfA, if_true, if_false, Bool.not_true, Bool.not_false, Bool.false_eq_true, decide_eq_true_eq, beq_self_eq_true, true_and, fld_rows C]
  exact eq_rowsT h1 h2 (by simpa using q)
theorem st_ne_ok {t : String} (C : StCl cl) (hF : FT (Str.ofString "Store.__eq__") = some ⟨2, 2, tk_St_eq cl⟩) (hc : clsOf G a = none) (ht : tyName G a = some t) (q : Q (.bl false) G) : runF FT (n + 1) "Store.__eq__" [stv ks rows, a] G Q X := by
  refine run_i [some (stv ks rows), some a] hF rfl rfl ?_
  unfold tk_St_eq
  have e : isC cl (Str.ofString "Store") G a = some false := by simp only [isC, hc, ht, Option.map_some]
  (refine seq_i fun R hR => ?_; try walk_at "w")
  simp only [eIsC, eVar, List.getElem?_cons_zero, List.getElem?_cons_succ]
  refine ⟨false, e, ?_⟩
  walk_at "w"
  exact q
theorem cls_stv : clsOf G (stv ks rows) = some (stN, [kN, rN]) := rfl
theorem eqC_st (C : StCl cl) (hm : mthOf cl stN (Str.ofString "__eq__") = some "Store.__eq__") (hF : FT (Str.ofString "Store.__eq__") = some ⟨2, 2, tk_St_eq cl⟩) (h1 : ∀ x ∈ rows, Fc x) (h2 : ∀ x ∈ rows2, Fc x) (q : Q (.bl (rowsEq rows rows2 != neg)) G) :
    eqC neg cl (runF FT (n + 1)) (stv ks rows) (stv ks2 rows2) G Q := by
  obtain ⟨ci, e1, _, _⟩ := C.lk
  have hm : mthOf cl stN "__eq__" = some "Store.__eq__" := hm
  unfold eqC
  rw [cls_stv]
  dsimp only
  rw [hm]
  exact ⟨.inr ⟨stN, _, ci, cls_stv, e1⟩, st_eq_ok C hF h1 h2 ⟨_, rfl, q⟩⟩
theorem eqC_ne {t : String} (C : StCl cl) (hm : mthOf cl stN (Str.ofString "__eq__") = some "Store.__eq__") (hF : FT (Str.ofString "Store.__eq__") = some ⟨2, 2, tk_St_eq cl⟩) (hc : clsOf G a = none) (ht : tyName G a = some t) (q : Q (.bl neg) G) :
    eqC neg cl (runF FT (n + 1)) (stv ks rows) a G Q := by
  have hm : mthOf cl stN "__eq__" = some "Store.__eq__" := hm
  unfold eqC
  rw [cls_stv]
  dsimp only
  rw [hm]
  exact ⟨.inl (by rw [ht]; rfl), st_ne_ok C hF hc ht ⟨_, rfl, by simpa using q⟩⟩
theorem me_st {mn : Str} {F : String} {K : String → Prop} (hm : mthOf cl stN mn = some F) (hn : ([kN, rN] : List Str).contains mn = false) : meA cl mn (stv ks rows) G K = K F :=
  propext ⟨fun ⟨C', ns, F', h1, h2, h3, h4⟩ => by rw [cls_stv] at h1; cases h1; rw [hm] at h3; cases h3; exact h4, fun q => ⟨_, _, _, cls_stv, hn, hm, q⟩⟩
theorem lenC_st (hm : mthOf cl stN (Str.ofString "__len__") = some "Store.__len__") (C : StCl cl) (hF : FT (Str.ofString "Store.__len__") = some ⟨1, 1, tk_St_len cl⟩) (hl : rows.length ≤ 1000) (q : Q (.int rows.length) G) : lenC cl (runF FT (n + 1)) [stv ks rows] G Q := by
  have hm : mthOf cl stN "__len__" = some "Store.__len__" := hm
  unfold lenC
  dsimp only
  rw [cls_stv]
  dsimp only
  rw [hm]
  exact st_len_ok C hF ⟨rows.length, rfl, le_sz hl, q⟩
theorem truC_st {R : Bool → Gp → Prop} (hm : mthOf cl stN (Str.ofString "__bool__") = some "Store.__bool__") (C : StCl cl) (hF : FT (Str.ofString "Store.__bool__") = some ⟨1, 1, tk_St_bool cl⟩) (q : R (!rows.isEmpty) G) : truC cl (runF FT (n + 1)) (stv ks rows) G R := by
  have hm : mthOf cl stN "__bool__" = some "Store.__bool__" := hm
  unfold truC
  rw [cls_stv]
  dsimp only
  rw [hm]
  exact st_bool_ok C hF ⟨_, rfl, q⟩
theorem reprC_st {d : PyData} {D W : Nat} (hm : mthOf cl stN (Str.ofString "__repr__") = some "Store.__repr__") (C : StCl cl) (hF : FT (Str.ofString "Store.__repr__") = some ⟨1, 1, tk_St_repr cl⟩) (e : pyd (.fro rows) = some d) (s : Sm D W d) (hD : D ≤ 60) (hW : W ≤ 15000000) (q : Q (.str (stT d)) G) :
    reprC cl (runF FT (n + 1)) [stv ks rows] G Q := by
  have hm : mthOf cl stN "__repr__" = some "Store.__repr__" := hm
  unfold reprC
  dsimp only
  rw [cls_stv]
  dsimp only
  rw [hm]
  exact st_repr_ok C hF e s hD hW ⟨_, rfl, q⟩
end
/-! ### what is spoilt -/
def El (S : Addr → Prop) (x : A) : Prop := (∃ r, x = .ref r ∧ S r) ∨ ∃ t, ty x = some t ∧ isiB t ["list"] = false
/-- lists at addresses of S, whatever they hold -/
def Sp (S : Addr → Prop) (N : Nat) (G : Gp) : Prop := ∀ a, S a → ∃ xs, G a = some (.lst xs) ∧ xs.length ≤ N ∧ ∀ x ∈ xs, El S x
section
variable {S : Addr → Prop} {N : Nat} {G : Gp} {p b : Addr} {P : Int} {xs : List A}
theorem Sp.wr {M : Nat} (h : Sp S N G) (l : N ≤ M) (hl : xs.length ≤ M) (hx : ∀ x ∈ xs, El S x) : Sp S M (up G p (.lst xs)) := fun a sa => by
  by_cases e : a = p
  · subst e; exact ⟨xs, up_same, hl, hx⟩
  · obtain ⟨ys, e1, e2, e3⟩ := h a sa
    exact ⟨ys, by rw [up_ne e]; exact e1, Nat.le_trans e2 l, e3⟩
theorem Fc.el {x : A} (h : Fc x) : El S x := by
  obtain ⟨w, cs, rfl, _⟩ := h
  exact .inr ⟨"tuple", rfl, by decide⟩
end
/-- a list's data, read at its address -/
theorem dt_lst {G : Gp} {p : Addr} {xs : List A} {d : PyData} (g : G p = some (.lst xs)) (h : Dt G (.fro xs) d) : Dt G (.ref p) d := by
  cases h with
  | fro z => exact .lst g z
/-- lists at addresses -/
inductive Lsts (G : Gp) : List Addr → List (List A) → Prop where
  | nil : Lsts G [] []
  | cons {p : Addr} {xs : List A} {ps : List Addr} {xss : List (List A)} : G p = some (.lst xs) → Lsts G ps xss → Lsts G (p :: ps) (xs :: xss)
theorem Lsts.ext {G G' : Gp} (h : Ext G G') : ∀ {ps : List Addr} {xss : List (List A)}, Lsts G ps xss → Lsts G' ps xss
  | _, _, .nil => .nil
  | _, _, .cons e r => .cons (h _ _ e) (Lsts.ext h r)
theorem Lsts.snoc {G : Gp} {p : Addr} {xs : List A} (e : G p = some (.lst xs)) : ∀ {ps : List Addr} {xss : List (List A)}, Lsts G ps xss → Lsts G (ps ++ [p]) (xss ++ [xs])
  | _, _, .nil => .cons e .nil
  | _, _, .cons e' r => .cons e' (Lsts.snoc e r)
theorem Lsts.dts {G : Gp} : ∀ {ps : List Addr} {xss : List (List A)} {ds : List PyData}, Lsts G ps xss → Dts G (xss.map A.fro) ds → Dts G (ps.map A.ref) ds
  | _, _, _, .nil, h => h
  | _, _, _, .cons e r, h => by
    cases h with
    | cons h1 h2 => exact .cons (dt_lst e h1) (Lsts.dts r h2)
end Q
/-! Z6: in a Store; stores by operators; all rows over constants. -/
namespace Q
open PySem PySem.Spec PyProof.Rows
local macro_rules | `(tactic| walk_at "w") => `(tactic| simp only [sSet, sIf, sNx, sRet, sRetN, sEx, sFor, sPar, sFldA, eVar, eC, eBin, eNot, eAnd, eOr, eIf, eTup, eLst, eDct0, eBi, eCall, eM, eSl, oNo, oSome, eLc, eDc, eDis2, prs, eMk_eq, eMe_eq, eFs, fsA, eFmt, eFmtR, iSeq, iR1, it_tup, it_fro, eFld_eq, bV, bVC, bB, bNot, bAnd, bOr, bYes, gNm, gTup, gTs, lNil, lCons, new_f, new_t, frz_l, frz_d, wipeA, truA, tyA, List.getElem?_cons_zero, List.getElem?_cons_succ, List.set_cons_zero, List.set_cons_succ, List.cons_append, List.nil_append, List.append_nil, addA_i, addA_s, addA_t, add_fro, subA_i, modA_i, fdivA_i, powA_i, mulA_i, mulA_s, mul_fro, ltA_i, leA_i, gtA_i, geA_i, eqInt, eqStr, _root_.Q.len_str, len_fro, len_tup, sl_tup, sl_fro, ixFro, ixTup, tupleA_fro, tupleA_tup, listA_tup, listA_fro, intOfA, if_true, if_false, Bool.not_true, Bool.not_false, Bool.false_eq_true, decide_eq_true_eq, beq_self_eq_true, true_and])
section
variable {cl : CT} {FT : FTab} {n : Nat} {G G' : Gp} {Q : KA} {X : KX} {xs ys ks rows ks2 rows2 fs : List A} {a v x : A} {m neg : Bool} {b : Addr} {P : Int}
theorem kvT_zip (ks : List A) : ks.zip (ks.map fun _ => A.bl true) = kvT ks := by
  unfold kvT
  induction ks with
  | nil => rfl
  | cons k ks ih => simp only [List.map_cons, List.zip_cons_cons, ih]
theorem valA_kvT : ∀ (ks : List A) (x : A), (valA (kvT ks) x).isSome = decide (x ∈ ks)
  | [], x => by simp [kvT, valA]
  | k :: ks, x => by
    have := valA_kvT ks x
    show (valA ((k, .bl true) :: kvT ks) x).isSome = _
    rw [valA_cons]
    by_cases h : k = x
    · subst h; simp
    · rw [if_neg h, this]
      simp [Ne.symm h]
/-- x in the dict of the keys ks -/
theorem in_keys (hx : KR x) (hk : ∀ k ∈ ks, KR k) (q : Q (.bl (if neg then !decide (x ∈ ks) else decide (x ∈ ks))) G) : inD neg x (.fdc ks (ks.map fun _ => .bl true)) G Q := by
  have e : dctOf G (.fdc ks (ks.map fun _ => A.bl true)) = some (kvT ks) := by
    show some _ = _
    rw [kvT_zip]
  simp only [inD, e]
  rw [valA_kvT]
  exact ⟨kvT_keyR hx hk, q⟩
theorem st_in_ok (F : StF cl FT) (hF : FT (Str.ofString "Store.__contains__") = some ⟨2, 2, tk_St_in cl⟩) (ha : KnT a) (hr : isFactB a = true → KR a) (hk : ∀ k ∈ ks, KR k) (q : Q (.bl (isFactB a && decide (a ∈ ks))) G) : runF FT (n + 4) "Store.__contains__" [stv ks rows, a] G Q X := by
  refine run_i [some (stv ks rows), some a] hF rfl rfl ?_
  unfold tk_St_in
  (refine seq_i fun R hR => ?_; try walk_at "w")
  refine is_fact_ok (n := n) F.int F.con F.wrd F.fct ha ?_
  cases e : isFactB a
  · rw [e] at q
    simp only [truA, Bool.false_eq_true, if_false]
    simpa only [Bool.false_and] using q
  · rw [e] at q
    simp only [sSet, sIf, sNx, sRet, sRetN, sEx, sFor, sPar, sFldA, eVar, eC, eBin, eNot, eAnd, eOr, eIf, eTup, eLst, eDct0, eBi, eCall, eM, eSl, oNo, oSome, eLc, eDc, eDis2, prs, eMk_eq, eMe_eq, eFs, fsA, eFmt, eFmtR, iSeq, iR1, it_tup, it_fro, eFld_eq, bV, bVC, bB, bNot, bAnd, bOr, bYes, gNm, gTup, gTs, lNil, lCons, new_f, new_t, frz_l, frz_d, wipeA, truA, tyA, List.getElem?_cons_zero, List.getElem?_cons_succ, List.set_cons_zero, List.set_cons_succ, List.cons_append, List.nil_append, List.append_nil, addA_i, addA_s, addA_t, add_fro, subA_i, modA_i, fdivA_i, powA_i, mulA_i, mulA_s, mul_fro, ltA_i, leA_i, gtA_i, geA_i, eqInt, eqStr, _root_.Q.len_str, len_fro, len_tup, sl_tup, sl_fro, ixFro, ixTup, tupleA_fro, tupleA_tup, listA_tup, listA_fro, intOfA, if_true, if_false, Bool.not_true, Bool.not_false, Bool.false_eq_true, decide_eq_true_eq, beq_self_eq_true, true_and, fld_known F.c]
    exact in_keys (hr e) hk (by simpa using q)
theorem inC_st (F : StF cl FT) (hm : mthOf cl stN (Str.ofString "__contains__") = some "Store.__contains__") (hF : FT (Str.ofString "Store.__contains__") = some ⟨2, 2, tk_St_in cl⟩) (ha : KnT a) (hr : isFactB a = true → KR a) (hk : ∀ k ∈ ks, KR k) (q : Q (.bl ((isFactB a && decide (a ∈ ks)) != neg)) G) :
    inC neg cl (runF FT (n + 4)) a (stv ks rows) G Q := by
  have hm : mthOf cl stN "__contains__" = some "Store.__contains__" := hm
  unfold inC
  rw [cls_stv]
  dsimp only
  rw [hm]
  exact st_in_ok F hF ha hr hk ⟨_, rfl, q⟩
/-- x in a list of facts -/
theorem eqv_dOf {y : A} (h1 : Fc x) (h2 : Fc y) : PyData.eqv (dOf y) (dOf x) = decide (x = y) := by
  by_cases e : x = y
  · subst e
    obtain ⟨d, e, _, al⟩ := h1.ok
    have : dOf x = d := by simp only [dOf, e, Option.getD_some]
    rw [this, decide_eq_true rfl]
    exact PySem.W.eqv_refl_alike _ al.1
  · rw [decide_eq_false e]
    have h := rowsEq_iff (xs := [y]) (ys := [x]) (fun z m => by simp only [List.mem_singleton] at m; subst m; exact h2) (fun z m => by simp only [List.mem_singleton] at m; subst m; exact h1)
    cases z : PyData.eqv (dOf y) (dOf x) with
    | false => rfl
    | true =>
      have : rowsEq [y] [x] = true := by simp [rowsEq, PyData.eqv, PyData.eqvAll, z]
      have := h.mp this
      simp only [List.cons.injEq, and_true] at this
      exact absurd this.symm e
theorem any_dOf (h1 : Fc x) : ∀ {xs : List A}, (∀ y ∈ xs, Fc y) → ((xs.map dOf).any fun z => PyData.eqv z (dOf x)) = decide (x ∈ xs)
  | [], _ => by simp
  | y :: ys, h => by
    have ih := any_dOf h1 (xs := ys) fun z m => h z (by simp [m])
    rw [List.map_cons, List.any_cons, ih, eqv_dOf h1 (h y (by simp))]
    by_cases e : x = y <;> simp [e]
theorem Fc.pyd' (h : Fc x) : _root_.Q.pyd x = Option.some (dOf x) := by
  obtain ⟨w, cs, rfl, _⟩ := h
  rw [pyd_frow, dOf_frow]
theorem rows_lay (h : ∀ x ∈ xs, Fc x) : PyData.canLayAll0 (xs.map dOf) = true := (okps (pyds_dOf fun x m => (h x m).some) fun x m => (h x m).ok).2
theorem in_rows (h1 : Fc x) (h2 : ∀ y ∈ xs, Fc y) (q : Q (.bl (if neg then !decide (x ∈ xs) else decide (x ∈ xs))) G) : inD neg x (.fro xs) G Q := by
  have e : inD neg x (.fro xs) G Q = inA neg x (.fro xs) G Q := rfl
  rw [e]
  refine .inr ⟨dOf x, xs.map dOf, .of h1.pyd', .inl (.of (rows_pyd h2)), shp h1.ok h1.pyd' (by decide), rows_lay h2, ?_⟩
  rw [any_dOf h1 h2]; exact q
/-- one store without another -/
theorem st_and_ok (F : StF cl FT) {K : String} (hF : FT (Str.ofString K) = some ⟨2, 3, tk_St_and neg cl⟩) (h1 : ∀ x ∈ rows, Fc x) (l1 : rows.length ≤ 1000) (h2 : ∀ x ∈ ks2, KR x) (q : ∀ v, StV (rows.filter fun x => if neg then !decide (x ∈ ks2) else decide (x ∈ ks2)) v → Q v G) :
    runF FT (n + 5) K [stv ks rows, stv ks2 rows2] G Q X := by
  have := hz
  refine run_i [some (stv ks rows), some (stv ks2 rows2), none] hF rfl rfl ?_
  unfold tk_St_and
  (refine seq_i fun R hR => ?_; try walk_at "w")
  simp only [sSet, sIf, sNx, sRet, sRetN, sEx, sFor, sPar, sFldA, eVar, eC, eBin, eNot, eAnd, eOr, eIf, eTup, eLst, eDct0, eBi, eCall, eM, eSl, oNo, oSome, eLc, eDc, eDis2, prs, eMk_eq, eMe_eq, eFs, fsA, eFmt, eFmtR, iSeq, iR1, it_tup, it_fro, eFld_eq, bV, bVC, bB, bNot, bAnd, bOr, bYes, gNm, gTup, gTs, lNil, lCons, new_f, new_t, frz_l, frz_d, wipeA, truA, tyA, List.getElem?_cons_zero, List.getElem?_cons_succ, List.set_cons_zero, List.set_cons_succ, List.cons_append, List.nil_append, List.append_nil, addA_i, addA_s, addA_t, add_fro, subA_i, modA_i, fdivA_i, powA_i, mulA_i, mulA_s, mul_fro, ltA_i, leA_i, gtA_i, geA_i, eqInt, eqStr, _root_.Q.len_str, len_fro, len_tup, sl_tup, sl_fro, ixFro, ixTup, tupleA_fro, tupleA_tup, listA_tup, listA_fro, intOfA, if_true, if_false, Bool.not_true, Bool.not_false, Bool.false_eq_true, decide_eq_true_eq, beq_self_eq_true, true_and, fld_rows F.c]
  refine lc_filt (p := fun x => if neg then !decide (x ∈ ks2) else decide (x ∈ ks2)) (by simp [wipeA]) trivial rows [] ?_ (by simp only [List.length_nil]; omega) ?_
  · intro x mx Q2 q2
    simp only [sSet, sIf, sNx, sRet, sRetN, sEx, sFor, sPar, sFldA, eVar, eC, eBin, eNot, eAnd, eOr, eIf, eTup, eLst, eDct0, eBi, eCall, eM, eSl, oNo, oSome, eLc, eDc, eDis2, prs, eMk_eq, eMe_eq, eFs, fsA, eFmt, eFmtR, iSeq, iR1, it_tup, it_fro, eFld_eq, bV, bVC, bB, bNot, bAnd, bOr, bYes, gNm, gTup, gTs, lNil, lCons, new_f, new_t, frz_l, frz_d, wipeA, truA, tyA, List.getElem?_cons_zero, List.getElem?_cons_succ, List.set_cons_zero, List.set_cons_succ, List.cons_append, List.nil_append, List.append_nil, addA_i, addA_s, addA_t, add_fro, subA_i, modA_i, fdivA_i, powA_i, mulA_i, mulA_s, mul_fro, ltA_i, leA_i, gtA_i, geA_i, eqInt, eqStr, _root_.Q.len_str, len_fro, len_tup, sl_tup, sl_fro, ixFro, ixTup, tupleA_fro, tupleA_tup, listA_tup, listA_fro, intOfA, if_true, if_false, Bool.not_true, Bool.not_false, Bool.false_eq_true, decide_eq_true_eq, beq_self_eq_true, true_and, fld_known F.c]
    exact in_keys (h1 x mx).kr h2 q2
  have lf := List.length_filter_le (fun x => if neg then !decide (x ∈ ks2) else decide (x ∈ ks2)) rows
  rw [List.nil_append]
  exact mk_ok (n := n) F (.inl rfl) (fun x m => h1 x (List.mem_filter.mp m).1) (by omega) q
theorem opC_st {d : Str} {f : P2} {K : String} (hm : mthOf cl stN d = some K) (q : runF FT n K [stv ks rows, stv ks2 rows2] G Q noX) : opC d f cl (runF FT n) (stv ks rows) (stv ks2 rows2) G Q := by
  unfold opC
  rw [cls_stv]
  dsimp only
  rw [hm]
  exact ⟨⟨_, rfl⟩, q⟩
end
def tk_tuples (c : Cal) : SA := (sSeq (sSet (eLst false (lCons (eTup lNil) lNil)) (gNm 2))
  (sSeq (sFor (iR1 (eVar 1)) (gNm 3) (sSeq (sSet (eLst true lNil) (gNm 4))
  (sSeq (sFor (iSeq (eVar 2)) (gNm 5) (sSeq (sEx (eM "list" extendA2 (eVar 4) (lCons (eLc false (iSeq (eVar 0)) (gNm 6) bYes (eBin (addA false) (eVar 5) (eTup (lCons (eVar 6) lNil))) [6]) lNil)))
  sNx))
  (sSeq (sSet (eVar 4) (gNm 2))
  sNx))))
  (sSeq (sRet (eVar 2))
  sNx)))
/-- rows of k of the constants -/
def RowsK (cs : List A) (k : Nat) (rows : List A) : Prop := (∀ r ∈ rows, ∃ l, r = A.tup l ∧ l.length = k ∧ ∀ x ∈ l, x ∈ cs) ∧ rows ≠ [] ∧ rows.length ≤ 3 ^ k
theorem tuples_ok {FT : FTab} {n : Nat} {G : Gp} {Q : KA} {X : KX} {cs : List A} {many : Int} (hF : FT (Str.ofString "_law_tuples") = some ⟨2, 7, tk_tuples⟩) (ce : cs ≠ []) (cl : cs.length ≤ 3) (m0 : 0 ≤ many) (m4 : many ≤ 4)
    (q : ∀ rows G', RowsK cs many.toNat rows → Ext G G' → Q (.fro rows) G') : runF FT (n + 1) "_law_tuples" [.fro cs, .int many] G Q X := by
  have := hz
  refine run_i [some (.fro cs), some (.int many), none, none, none, none, none] hF rfl rfl ?_
  unfold tk_tuples
  (refine seq_i fun R hR => ?_; try walk_at "w")
  refine ⟨le_sz (by simp), le_sz (by simp), ?_⟩
  (refine hR _ _ ?_; clear hR R)
  (refine seq_i fun R hR => ?_; try walk_at "w")
  refine ⟨by omega, by omega, ?_⟩
  refine for_ix (fun k ς G' => ∃ rows x3 x4 x5 x6, ς = [some (.fro cs), some (.int many), some (.fro rows), x3, x4, x5, x6] ∧ RowsK cs k rows ∧ Ext G G') (fun _ _ _ _ => trivial) _ 0 _ _ ?_ ⟨_, _, _, _, _, rfl, ⟨fun r m => by
    simp only [List.mem_singleton] at m; subst m; exact ⟨[], rfl, rfl, by simp⟩, by simp, by simp⟩, Ext.refl⟩ ?_
  · rintro k y my ς G2 ⟨rows, x3, x4, x5, x6, rfl, ⟨R1, R2, R3⟩, e2⟩ D' nx _ rt ex _
    simp only [Nat.zero_add] at nx R1 R2 R3
    have hk : k < 4 := by
      have := (List.getElem?_eq_some_iff.mp my).1
      simp only [List.length_map, List.length_range] at this
      omega
    have p3 : 3 ^ k ≤ 27 := by
      have := Nat.pow_le_pow_right (n := 3) (by decide) (show k ≤ 3 by omega)
      omega
    walk_at "w"
    refine seq_i fun R3' h3 => ?_
    walk_at "w"
    refine ⟨le_sz (by simp), fun p hp => h3 _ _ ?_⟩
    clear h3 R3'
    have np : G p = none := by
      cases z : G p with
      | none => rfl
      | some o => have := e2 p o z; rw [hp] at this; cases this
    refine seq_f fun R3' h3 => ?_
    walk_at "w"
    refine for_ix (fun j ς G' => ∃ acc x5 x6, ς = [some (.fro cs), some (.int many), some (.fro rows), some y, some (.ref p), x5, x6] ∧ G' p = some (.lst acc) ∧ (∀ r ∈ acc, ∃ l, r = A.tup l ∧ l.length = k + 1 ∧ ∀ x ∈ l, x ∈ cs) ∧ acc.length = j * cs.length ∧ Ext G G') (fun _ _ _ _ => trivial) rows 0 _ _ ?_ ⟨[], _, _, rfl, up_same, by simp, by simp, fun a o e => by rw [up_ne (ne_fresh e np)]; exact e2 a o e⟩ ?_
    · rintro j r mr ς G3 ⟨acc, x5, x6, rfl, g3, a3, l3, e3⟩ D3 nx3 _ rt3 ex3 _
      simp only [Nat.zero_add] at nx3 l3
      obtain ⟨l, rfl, ll, hl⟩ := R1 r (List.mem_of_getElem? mr)
      have hj : j < rows.length := (List.getElem?_eq_some_iff.mp mr).1
      walk_at "w"
      refine seq_i fun R4 h4 => ?_
      simp only [sSet, sIf, sNx, sRet, sRetN, sEx, sFor, sPar, sFldA, eVar, eC, eBin, eNot, eAnd, eOr, eIf, eTup, eLst, eDct0, eBi, eCall, eM, eSl, oNo, oSome, eLc, eDc, eDis2, prs, eMk_eq, eMe_eq, eFs, fsA, eFmt, eFmtR, iSeq, iR1, it_tup, it_fro, eFld_eq, bV, bVC, bB, bNot, bAnd, bOr, bYes, gNm, gTup, gTs, lNil, lCons, new_f, new_t, frz_l, frz_d, wipeA, truA, tyA, List.getElem?_cons_zero, List.getElem?_cons_succ, List.set_cons_zero, List.set_cons_succ, List.cons_append, List.nil_append, List.append_nil, addA_i, addA_s, addA_t, add_fro, subA_i, modA_i, fdivA_i, powA_i, mulA_i, mulA_s, mul_fro, ltA_i, leA_i, gtA_i, geA_i, eqInt, eqStr, _root_.Q.len_str, len_fro, len_tup, sl_tup, sl_fro, ixFro, ixTup, tupleA_fro, tupleA_tup, listA_tup, listA_fro, intOfA, if_true, if_false, Bool.not_true, Bool.not_false, Bool.false_eq_true, decide_eq_true_eq, beq_self_eq_true, true_and, g3]
      refine ⟨by simp, ?_⟩
      refine lc_map (f := fun x => .tup (l ++ [x])) trivial cs [] ?_ (by simp only [List.length_nil]; omega) ?_
      · intro x mx Q2 q2
        walk_at "w"
        exact ⟨le_sz (by simp), le_sz (by simp; omega), q2⟩
      have lj : acc.length ≤ 100 := by
        have h1 : j * cs.length ≤ 27 * 3 := Nat.mul_le_mul (by omega) cl
        omega
      refine ⟨p, _, acc, _, rfl, rfl, g3, rfl, by simp; omega, h4 _ _ (nx3 _ _ ⟨_, _, _, rfl, up_same, fun r m => ?_, ?_, fun a o e => ?_⟩)⟩
      · rcases List.mem_append.mp m with m | m
        · exact a3 r m
        · simp only [List.nil_append, List.mem_map] at m
          obtain ⟨x, mx, rfl⟩ := m
          refine ⟨l ++ [x], rfl, by simp [ll], fun z mz => ?_⟩
          rcases List.mem_append.mp mz with mz | mz
          · exact hl z mz
          · simp only [List.mem_singleton] at mz; subst mz; exact mx
      · simp only [List.nil_append, List.length_append, List.length_map, l3, Nat.succ_mul]
      · rw [up_ne (ne_fresh e np)]; exact e3 a o e
    rintro ς G3 ⟨acc, x5, x6, rfl, g3, a3, l3, e3⟩
    simp only [Nat.zero_add] at l3
    refine h3 _ _ (.frz 4 p _ rfl g3 (.done ?_))
    clear h3 R3'
    simp only [List.set_cons_zero, List.set_cons_succ, frz_l]
    refine seq_i fun R3' h3 => ?_
    walk_at "w"
    refine h3 _ _ (nx _ _ ⟨acc, _, _, _, _, rfl, ⟨a3, fun z => ?_, ?_⟩, fun a o e => ?_⟩)
    · subst z
      simp only [List.length_nil] at l3
      have h1 : 0 < rows.length := List.length_pos_iff.mpr R2
      have h2 : 0 < cs.length := List.length_pos_iff.mpr ce
      have := Nat.mul_pos h1 h2
      omega
    · rw [l3, Nat.pow_succ]
      exact Nat.mul_le_mul R3 cl
    · have : a ≠ p := ne_fresh e np
      rw [rm_ne this]; exact e3 a o e
  rintro ς G2 ⟨rows, x3, x4, x5, x6, rfl, Rk, e2⟩
  simp only [Nat.zero_add, List.length_map, List.length_range] at Rk
  (refine hR _ _ ?_; clear hR R)
  (refine seq_i fun R hR => ?_; try walk_at "w")
  exact q rows G2 Rk e2
end Q
/-! Z7: stores put together, one within another; comprehensions that hold nothing; items of mapped lists. -/
namespace Q
open PySem PySem.Spec PyProof.Rows
local macro_rules | `(tactic| walk_at "w") => `(tactic| simp only [sSet, sIf, sNx, sRet, sRetN, sEx, sFor, sPar, sFldA, eVar, eC, eBin, eNot, eAnd, eOr, eIf, eTup, eLst, eDct0, eBi, eCall, eM, eSl, oNo, oSome, eLc, eDc, eDis2, prs, eMk_eq, eMe_eq, eFs, fsA, eFmt, eFmtR, iSeq, iR1, it_tup, it_fro, eFld_eq, bV, bVC, bB, bNot, bAnd, bOr, bYes, gNm, gTup, gTs, lNil, lCons, new_f, new_t, frz_l, frz_d, wipeA, truA, tyA, List.getElem?_cons_zero, List.getElem?_cons_succ, List.set_cons_zero, List.set_cons_succ, List.cons_append, List.nil_append, List.append_nil, addA_i, addA_s, addA_t, add_fro, subA_i, modA_i, fdivA_i, powA_i, mulA_i, mulA_s, mul_fro, ltA_i, leA_i, gtA_i, geA_i, eqInt, eqStr, _root_.Q.len_str, len_fro, len_tup, sl_tup, sl_fro, ixFro, ixTup, tupleA_fro, tupleA_tup, listA_tup, listA_fro, intOfA, if_true, if_false, Bool.not_true, Bool.not_false, Bool.false_eq_true, decide_eq_true_eq, beq_self_eq_true, true_and])
def tk_St_within (cl : CT) (c : Cal) : SA := (sSeq (sRet (eBi (allA (·.all id)) (lCons (eLc false (iSeq (eFld cl (Str.ofString "rows") (eVar 0))) (gNm 2) bYes (eBin (inD false) (eVar 2) (eFld cl (Str.ofString "known") (eVar 1))) [2]) lNil)))
  sNx)
section
variable {cl : CT} {FT : FTab} {n : Nat} {G G' : Gp} {Q : KA} {X : KX} {xs ys ks rows ks2 rows2 fs : List A} {a v x : A} {m neg : Bool} {b : Addr} {P : Int}
theorem st_or_ok (F : StF cl FT) {K : String} (hF : FT (Str.ofString K) = some ⟨2, 2, tk_St_or cl⟩) (h1 : ∀ x ∈ rows, Fc x) (h2 : ∀ x ∈ rows2, Fc x) (l1 : rows.length + rows2.length ≤ 1000) (q : ∀ v, StV (rows ++ rows2) v → Q v G) :
    runF FT (n + 5) K [stv ks rows, stv ks2 rows2] G Q X := by
  refine run_i [some (stv ks rows), some (stv ks2 rows2)] hF rfl rfl ?_
  unfold tk_St_or
  (refine seq_i fun R hR => ?_; try walk_at "w")
  simp only [sSet, sIf, sNx, sRet, sRetN, sEx, sFor, sPar, sFldA, eVar, eC, eBin, eNot, eAnd, eOr, eIf, eTup, eLst, eDct0, eBi, eCall, eM, eSl, oNo, oSome, eLc, eDc, eDis2, prs, eMk_eq, eMe_eq, eFs, fsA, eFmt, eFmtR, iSeq, iR1, it_tup, it_fro, eFld_eq, bV, bVC, bB, bNot, bAnd, bOr, bYes, gNm, gTup, gTs, lNil, lCons, new_f, new_t, frz_l, frz_d, wipeA, truA, tyA, List.getElem?_cons_zero, List.getElem?_cons_succ, List.set_cons_zero, List.set_cons_succ, List.cons_append, List.nil_append, List.append_nil, addA_i, addA_s, addA_t, add_fro, subA_i, modA_i, fdivA_i, powA_i, mulA_i, mulA_s, mul_fro, ltA_i, leA_i, gtA_i, geA_i, eqInt, eqStr, _root_.Q.len_str, len_fro, len_tup, sl_tup, sl_fro, ixFro, ixTup, tupleA_fro, tupleA_tup, listA_tup, listA_fro, intOfA, if_true, if_false, Bool.not_true, Bool.not_false, Bool.false_eq_true, decide_eq_true_eq, beq_self_eq_true, true_and, fld_rows F.c]
  refine ⟨le_sz (by omega), ?_⟩
  exact mk_ok (n := n) F (.inr (.inl rfl)) (fun x m => (List.mem_append.mp m).elim (h1 x) (h2 x)) (by rw [List.length_append]; omega) q
theorem st_within_ok (F : StF cl FT) (hF : FT (Str.ofString "Store.within") = some ⟨2, 3, tk_St_within cl⟩) (h1 : ∀ x ∈ rows, Fc x) (l1 : rows.length ≤ 1000) (h2 : ∀ x ∈ ks2, KR x) (q : Q (.bl (rows.all fun x => decide (x ∈ ks2))) G) :
    runF FT (n + 1) "Store.within" [stv ks rows, stv ks2 rows2] G Q X := by
  have := hz
  refine run_i [some (stv ks rows), some (stv ks2 rows2), none] hF rfl rfl ?_
  unfold tk_St_within
  (refine seq_i fun R hR => ?_; try walk_at "w")
  simp only [sSet, sIf, sNx, sRet, sRetN, sEx, sFor, sPar, sFldA, eVar, eC, eBin, eNot, eAnd, eOr, eIf, eTup, eLst, eDct0, eBi, eCall, eM, eSl, oNo, oSome, eLc, eDc, eDis2, prs, eMk_eq, eMe_eq, eFs, fsA, eFmt, eFmtR, iSeq, iR1, it_tup, it_fro, eFld_eq, bV, bVC, bB, bNot, bAnd, bOr, bYes, gNm, gTup, gTs, lNil, lCons, new_f, new_t, frz_l, frz_d, wipeA, truA, tyA, List.getElem?_cons_zero, List.getElem?_cons_succ, List.set_cons_zero, List.set_cons_succ, List.cons_append, List.nil_append, List.append_nil, addA_i, addA_s, addA_t, add_fro, subA_i, modA_i, fdivA_i, powA_i, mulA_i, mulA_s, mul_fro, ltA_i, leA_i, gtA_i, geA_i, eqInt, eqStr, _root_.Q.len_str, len_fro, len_tup, sl_tup, sl_fro, ixFro, ixTup, tupleA_fro, tupleA_tup, listA_tup, listA_fro, intOfA, if_true, if_false, Bool.not_true, Bool.not_false, Bool.false_eq_true, decide_eq_true_eq, beq_self_eq_true, true_and, fld_rows F.c]
  refine lc_map (f := fun x => .bl (decide (x ∈ ks2))) trivial rows [] ?_ (by simp only [List.length_nil]; omega) ?_
  · intro x mx Q2 q2
    simp only [sSet, sIf, sNx, sRet, sRetN, sEx, sFor, sPar, sFldA, eVar, eC, eBin, eNot, eAnd, eOr, eIf, eTup, eLst, eDct0, eBi, eCall, eM, eSl, oNo, oSome, eLc, eDc, eDis2, prs, eMk_eq, eMe_eq, eFs, fsA, eFmt, eFmtR, iSeq, iR1, it_tup, it_fro, eFld_eq, bV, bVC, bB, bNot, bAnd, bOr, bYes, gNm, gTup, gTs, lNil, lCons, new_f, new_t, frz_l, frz_d, wipeA, truA, tyA, List.getElem?_cons_zero, List.getElem?_cons_succ, List.set_cons_zero, List.set_cons_succ, List.cons_append, List.nil_append, List.append_nil, addA_i, addA_s, addA_t, add_fro, subA_i, modA_i, fdivA_i, powA_i, mulA_i, mulA_s, mul_fro, ltA_i, leA_i, gtA_i, geA_i, eqInt, eqStr, _root_.Q.len_str, len_fro, len_tup, sl_tup, sl_fro, ixFro, ixTup, tupleA_fro, tupleA_tup, listA_tup, listA_fro, intOfA, if_true, if_false, Bool.not_true, Bool.not_false, Bool.false_eq_true, decide_eq_true_eq, beq_self_eq_true, true_and, fld_known F.c]
    exact in_keys (h1 x mx).kr h2 q2
  refine ⟨_, rows.map fun x => decide (x ∈ ks2), rfl, ?_, ?_⟩
  · simp only [lstOf, List.nil_append, List.map_map]; rfl
  · have e : (rows.map fun x => decide (x ∈ ks2)).all id = rows.all fun x => decide (x ∈ ks2) := by rw [List.all_map]; rfl
    show Q (.bl ((rows.map fun x => decide (x ∈ ks2)).all id)) _
    rw [e]; exact q
end
/-- a comprehension of which no turn holds anything -/
theorem lc_none {i : Nat} {tt : BA} {te : EA} {vs : List Nat} {chk : Gp → Prop} {Qf : List A → Gp → Prop} {ς : En} (I : Gp → Prop) (hc : ∀ G, I G → chk G) : ∀ (xs : List A) (G : Gp), I G →
    (∀ x ∈ xs, ∀ G, I G → ∀ Qb : Bool → Gp → Prop, (∀ G', I G' → Qb false G') → tt ((wipeA ς vs).set i (some x)) G Qb (fun _ _ => False)) → (∀ G, I G → Qf [] G) → lcR (gNm i) tt te vs chk Qf xs [] ς G
  | [], G, h, _, q => ⟨hc G h, q G h⟩
  | x :: xs, G, h, st, q => by
    refine ⟨hc G h, ?_⟩
    simp only [gNm]
    refine st x (by simp) G h _ fun G' h' => ?_
    simp only [Bool.false_eq_true, if_false]
    exact lc_none I hc xs G' h' (fun y m => st y (by simp [m])) q
theorem at_map {α : Type} {xs : List α} {f : α → A} {i : Int} {p : α} (h : L2.atI xs i = some p) {G : Gp} {Q : KA} : atK (xs.map f) i G Q = Q (f p) G := by
  have e : L2.atI (xs.map f) i = some (f p) := by
    unfold L2.atI at h ⊢
    rw [List.length_map]
    cases e : L2.ixN xs.length i with
    | none => rw [e] at h; cases h
    | some j =>
      rw [e] at h
      simp only [Option.bind_some] at h ⊢
      rw [List.getElem?_map, h]; rfl
  unfold atK; rw [e]
end Q
namespace G
open PySem PySem.Spec PyProof.Rows L2 Q
def top (i : Nat) : Stmt := PySem.Challenge.pw_frozenbodies_k15_whole_stores_joined.main.body.getD i (.Pass ⟨0, 0, 0, 0⟩)
def sub (i j : Nat) : Stmt := match top i with
  | .ClassDef _ _ _ body _ _ _ _ _ _ _ => body.getD j (.Pass ⟨0, 0, 0, 0⟩)
  | _ => .Pass ⟨0, 0, 0, 0⟩
def ci_Store : CI := { frz := true, init := "Store.__init__", ms := [(Str.ofString "__eq__", "Store.__eq__"), (Str.ofString "__len__", "Store.__len__"), (Str.ofString "__bool__", "Store.__bool__"), (Str.ofString "__repr__", "Store.__repr__"), (Str.ofString "__contains__", "Store.__contains__"), (Str.ofString "__or__", "Store.__or__"), (Str.ofString "__and__", "Store.__and__"), (Str.ofString "__sub__", "Store.__sub__"), (Str.ofString "facts", "Store.facts"), (Str.ofString "names", "Store.names"), (Str.ofString "constants", "Store.constants"), (Str.ofString "of", "Store.of"), (Str.ofString "within", "Store.within")], fs := [Str.ofString "known", Str.ofString "rows"], ps := [], kws := [], ko := false }
def pgcl : CT := [(Str.ofString "Store", ci_Store)]
def t_is_integer (c : Cal) : SA := (sSeq (sRet (eAnd (eIsi (eVar 0) ["int"]) (eNot (eIsi (eVar 0) ["bool"]))))
  sNx)
def i_is_integer : DI := ⟨"is_integer", Str.ofString "is_integer", Str.ofString "is_integer", top 7, [Str.ofString "thing"], [Str.ofString "thing"]⟩
def t_is_constant (c : Cal) : SA := (sSeq (sRet (eAnd (eCall c "is_integer" (lCons (eVar 0) lNil)) (eBin geA (eVar 0) (eC (.int 0)))))
  sNx)
def i_is_constant : DI := ⟨"is_constant", Str.ofString "is_constant", Str.ofString "is_constant", top 8, [Str.ofString "thing"], [Str.ofString "thing"]⟩
def t_is_word (c : Cal) : SA := (sSeq (sIf (bOr (bNot (bV (eIsi (eVar 0) ["str"]))) (bNot (bB (eChain leA leA (eC (.int 1)) (eBi lenD (lCons (eVar 0) lNil)) (eC (.int 8)))))) (sSeq (sRet (eC (.bl false)))
  sNx) sNx)
  (sSeq (sRet (eAnd (eM "str" (strB Txt.isascii) (eVar 0) lNil) (eAnd (eM "str" (strB Txt.isalpha) (eVar 0) lNil) (eM "str" (strB Txt.islower) (eVar 0) lNil))))
  sNx))
def i_is_word : DI := ⟨"is_word", Str.ofString "is_word", Str.ofString "is_word", top 9, [Str.ofString "thing"], [Str.ofString "thing"]⟩
def t_is_fact (c : Cal) : SA := (sSeq (sIf (bOr (bNot (bV (eIsi (eVar 0) ["tuple"]))) (bNot (bB (eChain leA leA (eC (.int 1)) (eBi lenD (lCons (eVar 0) lNil)) (eBin (addA false) (eC (.int 1)) (eC (.int 4))))))) (sSeq (sRet (eC (.bl false)))
  sNx) sNx)
  (sSeq (sRet (eAnd (eCall c "is_word" (lCons (eBin ixD (eVar 0) (eC (.int 0))) lNil)) (eBi (allA (·.all id)) (lCons (eLc false (iSeq (eSl false (eVar 0) (oSome (eC (.int 1))) oNo)) (gNm 1) bYes (eCall c "is_constant" (lCons (eVar 1) lNil)) [1]) lNil))))
  sNx))
def i_is_fact : DI := ⟨"is_fact", Str.ofString "is_fact", Str.ofString "is_fact", top 10, [Str.ofString "thing", Str.ofString "part"], [Str.ofString "thing"]⟩
def t_bag (c : Cal) : SA := (sSeq (sRet (eLst true (lCons (eC (.int 0)) (lCons (eC (.int 1234567891)) (lCons (eC (.int 0)) (lCons (eLc false (iSeq (eSl false (eVar 0) oNo (oSome (eC (.int 63))))) (gNm 1) bYes (eBi absA (lCons (eVar 1) lNil)) [1]) lNil))))))
  sNx)
def i_bag : DI := ⟨"_law_bag", Str.ofString "_law_bag", Str.ofString "_law_bag", top 14, [Str.ofString "_law_script", Str.ofString "_law_cell"], [Str.ofString "_law_script"]⟩
def t_take (c : Cal) : SA := (sSeq (sIf (bB (eBin (eqA false) (eBin ixD (eVar 0) (eC (.int 0))) (eC (.int 0)))) (sSeq (sSet (eC (.int 0)) (gNm 2))
  (sSeq (sIf (bB (eBin ltA (eBin ixD (eVar 0) (eC (.int 2))) (eBi lenD (lCons (eBin ixD (eVar 0) (eC (.int 3))) lNil)))) (sSeq (sSet (eBin ixD (eBin ixD (eVar 0) (eC (.int 3))) (eBin ixD (eVar 0) (eC (.int 2)))) (gNm 2))
  sNx) sNx)
  (sSeq (sAug (eVar 0) (eC (.int 2)) (eC (.int 1)))
  (sSeq (sIf (bB (eBin geA (eVar 2) (eC (.int 1000000000000000000)))) (sSeq (sSet (eVar 2) (gSubD (eVar 0) (eC (.int 0))))
  sNx) sNx)
  (sSeq (sSet (eBin (addA false) (eBin modA (eBi intOfA (lCons (eVar 2) lNil)) (eC (.int 2147483647))) (eBin (mulA false) (eC (.int 7919)) (eBin ixD (eVar 0) (eC (.int 2))))) (gNm 3))
  (sSeq (sSet (eBin modA (eBi intOfA (lCons (eBin (addA false) (eBin (mulA false) (eBin ixD (eVar 0) (eC (.int 1))) (eC (.int 48271))) (eVar 3)) lNil)) (eC (.int 2147483647))) (gSubD (eVar 0) (eC (.int 1))))
  sNx)))))) sNx)
  (sSeq (sIf (bB (eBin gtA (eBin ixD (eVar 0) (eC (.int 0))) (eC (.int 0)))) (sSeq (sSet (eBin modA (eBi intOfA (lCons (eBin ixD (eVar 0) (eC (.int 0))) lNil)) (eVar 1)) (gNm 4))
  (sSeq (sSet (eBin fdivA (eBin ixD (eVar 0) (eC (.int 0))) (eVar 1)) (gSubD (eVar 0) (eC (.int 0))))
  (sSeq (sRet (eVar 4))
  sNx))) sNx)
  (sSeq (sSet (eBin modA (eBi intOfA (lCons (eBin (mulA false) (eBin (addA false) (eBin ixD (eVar 0) (eC (.int 1))) (eC (.int 1))) (eC (.int 39373))) lNil)) (eC (.int 1000000007))) (gNm 5))
  (sSeq (sSet (eBin modA (eBi intOfA (lCons (eBin (mulA false) (eBin modA (eBi intOfA (lCons (eBin (mulA false) (eVar 5) (eVar 5)) lNil)) (eC (.int 998244353))) (eC (.int 30011))) lNil)) (eC (.int 998244353))) (gNm 6))
  (sSeq (sIf (bB (eBin gtA (eVar 1) (eC (.int 1000000)))) (sSeq (sRet (eBin modA (eBi intOfA (lCons (eBin (addA false) (eBin (mulA false) (eVar 6) (eC (.int 1000000007))) (eVar 5)) lNil)) (eVar 1)))
  sNx) sNx)
  (sSeq (sRet (eBin modA (eBi intOfA (lCons (eBin fdivA (eVar 6) (eC (.int 7))) lNil)) (eVar 1)))
  sNx))))))
def i_take : DI := ⟨"_law_take", Str.ofString "_law_take", Str.ofString "_law_take", top 15, [Str.ofString "_law_bag_here", Str.ofString "_law_many", Str.ofString "_law_cell", Str.ofString "_law_more", Str.ofString "_law_drawn", Str.ofString "_law_first", Str.ofString "_law_second"], [Str.ofString "_law_bag_here", Str.ofString "_law_many"]⟩
def t_alike (c : Cal) : SA := (sSeq (sRet (eAnd (eBin (eqA false) (eVar 0) (eVar 1)) (eBin (eqA false) (eBi reprA (lCons (eVar 0) lNil)) (eBi reprA (lCons (eVar 1) lNil)))))
  sNx)
def i_alike : DI := ⟨"_law_alike", Str.ofString "_law_alike", Str.ofString "_law_alike", top 16, [Str.ofString "_law_found", Str.ofString "_law_due_here"], [Str.ofString "_law_found", Str.ofString "_law_due_here"]⟩
def t_mixed (c : Cal) : SA := (sSeq (sSet (eLst true lNil) (gNm 2))
  (sSeq (sFor (iSeq (eVar 1)) (gNm 3) (sSeq (sEx (eM "list" insertA (eVar 2) (lCons (eCall c "_law_take" (lCons (eVar 0) (lCons (eBin (addA false) (eBi lenD (lCons (eVar 2) lNil)) (eC (.int 1))) lNil))) (lCons (eVar 3) lNil))))
  sNx))
  (sSeq (sRet (eVar 2))
  sNx)))
def i_mixed : DI := ⟨"_law_mixed", Str.ofString "_law_mixed", Str.ofString "_law_mixed", top 17, [Str.ofString "_law_bag_here", Str.ofString "_law_some", Str.ofString "_law_found", Str.ofString "_law_one"], [Str.ofString "_law_bag_here", Str.ofString "_law_some"]⟩
def t_labels (c : Cal) : SA := (sSeq (sSet (eC (.str (Str.ofString "abcdefghijklmnopqrstuvwxyz"))) (gNm 2))
  (sSeq (sSet (eM "str" (splitA false) (eC (.str (Str.ofString "a b edge path go put take rule drop back again result facts rules ask why idle bare rounds"))) (lCons (eC (.str (Str.ofString " "))) lNil)) (gNm 3))
  (sSeq (sSet (eBin (addA false) (eVar 3) (eLst false (lCons (eC (.str (Str.ofString "x"))) (lCons (eC (.str (Str.ofString "y"))) (lCons (eC (.str (Str.ofString "va"))) (lCons (eC (.str (Str.ofString "vb"))) (lCons (eC (.str (Str.ofString "wall"))) lNil))))))) (gNm 3))
  (sSeq (sSet (eTup (lCons (eCall c "_law_take" (lCons (eVar 0) (lCons (eC (.int 4)) lNil))) (lCons (eCall c "_law_take" (lCons (eVar 0) (lCons (eC (.int 24)) lNil))) lNil))) (gTup [4, 5]))
  (sSeq (sSet (eM "str" joinA (eC (.str (Str.ofString ""))) (lCons (eLc false (iR1 (eBin (addA false) (eC (.int 1)) (eCall c "_law_take" (lCons (eVar 0) (lCons (eC (.int 7)) lNil))))) (gNm 7) bYes (eBin ixD (eVar 2) (eCall c "_law_take" (lCons (eVar 0) (lCons (eC (.int 26)) lNil)))) [7]) lNil)) (gNm 6))
  (sSeq (sSet (eTup (lCons (eCall c "_law_take" (lCons (eVar 0) (lCons (eBin (addA false) (eBi lenD (lCons (eVar 6) lNil)) (eC (.int 1))) lNil))) (lCons (eBin fdivA (eVar 4) (eC (.int 3))) lNil))) (gTup [8, 9]))
  (sSeq (sIf (bB (eBin (eqA false) (eVar 4) (eC (.int 0)))) (sSeq (sRet (eSl false (eBin (addA false) (eSl false (eVar 3) (oSome (eVar 5)) oNo) (eSl false (eVar 3) oNo (oSome (eVar 5)))) oNo (oSome (eVar 1))))
  sNx) sNx)
  (sSeq (sSet (eLc false (iR1 (eVar 1)) (gNm 7) bYes (eBin (mulA false) (eBin ixD (eVar 2) (eBin modA (eBi intOfA (lCons (eBin (addA false) (eVar 5) (eBin ixD (eLst false (lCons (eBin (mulA false) (eC (.int 3)) (eVar 7)) (lCons (eBin fdivA (eVar 7) (eC (.int 8))) lNil))) (eVar 9))) lNil)) (eC (.int 26)))) (eBin (addA false) (eC (.int 1)) (eBin (mulA false) (eBin modA (eBi intOfA (lCons (eVar 7) lNil)) (eC (.int 8))) (eVar 9)))) [7]) (gNm 10))
  (sSeq (sSet (eBin (mulA false) (eVar 6) (eBi intOfA (lCons (eBin (eqA false) (eVar 4) (eC (.int 2))) lNil))) (gNm 6))
  (sSeq (sRet (eLc false (iR1 (eVar 1)) (gNm 7) bYes (eBin (addA false) (eBin (addA false) (eSl false (eVar 6) oNo (oSome (eVar 8))) (eBin ixD (eVar 10) (eVar 7))) (eSl false (eVar 6) (oSome (eVar 8)) oNo)) [7]))
  sNx))))))))))
def i_labels : DI := ⟨"_law_labels", Str.ofString "_law_labels", Str.ofString "_law_labels", top 18, [Str.ofString "_law_bag_here", Str.ofString "_law_many", Str.ofString "_law_letters", Str.ofString "_law_menu", Str.ofString "_law_way", Str.ofString "_law_turn", Str.ofString "_law_stem", Str.ofString "_law_k", Str.ofString "_law_at", Str.ofString "_law_far", Str.ofString "_law_some"], [Str.ofString "_law_bag_here", Str.ofString "_law_many"]⟩
def t_kit (c : Cal) : SA := (sSeq (sSet (eTup (lCons (eCall c "_law_labels" (lCons (eVar 0) (lCons (eC (.int 5)) lNil))) (lCons (eCall c "_law_take" (lCons (eVar 0) (lCons (eC (.int 3)) lNil))) lNil))) (gTup [1, 2]))
  (sSeq (sSet (eLc true (iR1 (eBin (addA false) (eC (.int 2)) (eCall c "_law_take" (lCons (eVar 0) (lCons (eC (.int 3)) lNil))))) (gNm 4) bYes (eTup (lCons (eBin ixD (eVar 1) (eVar 4)) (lCons (eBin ixD (eLst false (lCons (eC (.int 0)) (lCons (eC (.int 1)) (lCons (eC (.int 1)) (lCons (eC (.int 2)) (lCons (eC (.int 2)) (lCons (eC (.int 2)) lNil))))))) (eCall c "_law_take" (lCons (eVar 0) (lCons (eC (.int 6)) lNil)))) lNil))) [4]) (gNm 3))
  (sSeq (sIf (bB (eBin (eqA false) (eCall c "_law_take" (lCons (eVar 0) (lCons (eC (.int 4)) lNil))) (eC (.int 0)))) (sSeq (sEx (eM "list" appendA (eVar 3) (lCons (eTup (lCons (eBin ixD (eBin ixD (eVar 3) (eC (.int 0))) (eC (.int 0))) (lCons (eBin subA (eC (.int 2)) (eBin ixD (eBin ixD (eVar 3) (eC (.int 0))) (eC (.int 1)))) lNil))) lNil)))
  sNx) sNx)
  (sSeq (sSet (eSl false (eBin ixD (eLst false (lCons (eLst false (lCons (eC (.int 0)) (lCons (eC (.int 1)) (lCons (eC (.int 2)) (lCons (eC (.int 3)) lNil))))) (lCons (eLst false (lCons (eC (.int 1)) (lCons (eC (.int 0)) (lCons (eBin powA (eC (.int 10)) (eC (.int 39))) (lCons (eC (.int 2)) lNil))))) (lCons (eLst false (lCons (eC (.int 7)) (lCons (eC (.int 10)) (lCons (eC (.int 9)) (lCons (eC (.int 0)) lNil))))) lNil)))) (eVar 2)) oNo (oSome (eBin (addA false) (eC (.int 2)) (eCall c "_law_take" (lCons (eVar 0) (lCons (eC (.int 2)) lNil)))))) (gNm 5))
  (sSeq (sRet (eDis2 true [((eC (.str (Str.ofString "names"))), (eBi (ssA false) (lCons (eVar 3) lNil))), ((eC (.str (Str.ofString "constants"))), (eVar 5)), ((eC (.str (Str.ofString "variables"))), (eCall c "_law_labels" (lCons (eVar 0) (lCons (eC (.int 3)) lNil))))]))
  sNx)))))
def i_kit : DI := ⟨"_law_kit", Str.ofString "_law_kit", Str.ofString "_law_kit", top 19, [Str.ofString "_law_bag_here", Str.ofString "_law_labels_here", Str.ofString "_law_far", Str.ofString "_law_names", Str.ofString "_law_k", Str.ofString "_law_constants"], [Str.ofString "_law_bag_here"]⟩
def t_wide (c : Cal) : SA := (sSeq (sSet (eCall c "_law_kit" (lCons (eVar 0) lNil)) (gNm 1))
  (sSeq (sIf (bB (eBin (eqA false) (eCall c "_law_take" (lCons (eVar 0) (lCons (eC (.int 2)) lNil))) (eC (.int 0)))) (sSeq (sSet (eBi (ssA false) (lCons (eBin (addA false) (eBin ixD (eVar 1) (eC (.str (Str.ofString "names")))) (eLst false (lCons (eTup (lCons (eBin ixD (eBin ixD (eBin ixD (eVar 1) (eC (.str (Str.ofString "names")))) (eC (.int 0))) (eC (.int 0))) (lCons (eBin (addA false) (eC (.int 3)) (eCall c "_law_take" (lCons (eVar 0) (lCons (eC (.int 2)) lNil)))) lNil))) lNil))) lNil)) (gSubD (eVar 1) (eC (.str (Str.ofString "names")))))
  sNx) sNx)
  (sSeq (sRet (eVar 1))
  sNx)))
def i_wide : DI := ⟨"_law_wide", Str.ofString "_law_wide", Str.ofString "_law_wide", top 20, [Str.ofString "_law_bag_here", Str.ofString "_law_kit_here"], [Str.ofString "_law_bag_here"]⟩
def t_fact (c : Cal) : SA := (sSeq (sSet (eBin ixD (eBin ixD (eVar 1) (eC (.str (Str.ofString "names")))) (eCall c "_law_take" (lCons (eVar 0) (lCons (eBi lenD (lCons (eBin ixD (eVar 1) (eC (.str (Str.ofString "names")))) lNil)) lNil)))) (gTup [2, 3]))
  (sSeq (sRet (eBin (addA false) (eTup (lCons (eVar 2) lNil)) (eBi tupleA (lCons (eLc false (iR1 (eVar 3)) (gNm 4) bYes (eBin ixD (eBin ixD (eVar 1) (eC (.str (Str.ofString "constants")))) (eCall c "_law_take" (lCons (eVar 0) (lCons (eBi lenD (lCons (eBin ixD (eVar 1) (eC (.str (Str.ofString "constants")))) lNil)) lNil)))) [4]) lNil))))
  sNx))
def i_fact : DI := ⟨"_law_fact", Str.ofString "_law_fact", Str.ofString "_law_fact", top 21, [Str.ofString "_law_bag_here", Str.ofString "_law_kit_here", Str.ofString "_law_label", Str.ofString "_law_many", Str.ofString "_law_k"], [Str.ofString "_law_bag_here", Str.ofString "_law_kit_here"]⟩
def t_facts (c : Cal) : SA := (sSeq (sRet (eLc false (iR1 (eCall c "_law_take" (lCons (eVar 0) (lCons (eBin (addA false) (eVar 2) (eC (.int 1))) lNil)))) (gNm 3) bYes (eCall c "_law_fact" (lCons (eVar 0) (lCons (eVar 1) lNil))) [3]))
  sNx)
def i_facts : DI := ⟨"_law_facts", Str.ofString "_law_facts", Str.ofString "_law_facts", top 22, [Str.ofString "_law_bag_here", Str.ofString "_law_kit_here", Str.ofString "_law_many", Str.ofString "_law_k"], [Str.ofString "_law_bag_here", Str.ofString "_law_kit_here", Str.ofString "_law_many"]⟩
def t_made_store (c : Cal) : SA := (sSeq (sSet (eCall c "_law_mixed" (lCons (eVar 0) (lCons (eBin (addA false) (eVar 1) (eSl false (eVar 1) oNo (oSome (eCall c "_law_take" (lCons (eVar 0) (lCons (eC (.int 2)) lNil)))))) lNil))) (gNm 2))
  (sSeq (sSet (eMk pgcl c (Str.ofString "Store") (lCons (eBin ixD (eLst false (lCons (eVar 2) (lCons (eBi tupleA (lCons (eVar 2) lNil)) lNil))) (eCall c "_law_take" (lCons (eVar 0) (lCons (eC (.int 2)) lNil)))) lNil) []) (gNm 3))
  (sSeq (sEx (eM "list" clearA (eVar 2) lNil))
  (sSeq (sRet (eVar 3))
  sNx))))
def i_made_store : DI := ⟨"_law_made_store", Str.ofString "_law_made_store", Str.ofString "_law_made_store", top 23, [Str.ofString "_law_bag_here", Str.ofString "_law_facts_here", Str.ofString "_law_handed", Str.ofString "_law_found"], [Str.ofString "_law_bag_here", Str.ofString "_law_facts_here"]⟩
def t_done (c : Cal) : SA := (sSeq (sIf (bB (eBin (eqA false) (eVar 0) (eC (.int 0)))) (sSeq (sRet (eBin (opC (PySem.dunder Operator.BitOr.info.2) noOp pgcl c) (eVar 1) (eVar 2)))
  sNx) sNx)
  (sSeq (sIf (bB (eBin (eqA false) (eVar 0) (eC (.int 1)))) (sSeq (sRet (eBin (opC (PySem.dunder Operator.BitAnd.info.2) noOp pgcl c) (eVar 1) (eVar 2)))
  sNx) sNx)
  (sSeq (sIf (bB (eBin (eqA false) (eVar 0) (eC (.int 2)))) (sSeq (sRet (eBin (opC (PySem.dunder Operator.Sub.info.2) (subA) pgcl c) (eVar 1) (eVar 2)))
  sNx) sNx)
  (sSeq (sRet (eIf (bB (eBin (eqA false) (eVar 0) (eC (.int 3)))) (eMk pgcl c (Str.ofString "Store") lNil [.tup []]) (eMk pgcl c (Str.ofString "Store") (lCons (eVar 3) lNil) [])))
  sNx))))
def i_done : DI := ⟨"_law_done", Str.ofString "_law_done", Str.ofString "_law_done", top 24, [Str.ofString "_law_way", Str.ofString "_law_one", Str.ofString "_law_other", Str.ofString "_law_facts_here"], [Str.ofString "_law_way", Str.ofString "_law_one", Str.ofString "_law_other", Str.ofString "_law_facts_here"]⟩
def t_due (c : Cal) : SA := (sSeq (sIf (bB (eBin (eqA false) (eVar 0) (eC (.int 0)))) (sSeq (sRet (eBi (ssA false) (lCons (eBin (opC (PySem.dunder Operator.Add.info.2) ((addA false)) pgcl c) (eVar 1) (eVar 2)) lNil)))
  sNx) sNx)
  (sSeq (sIf (bB (eBin (eqA false) (eVar 0) (eC (.int 1)))) (sSeq (sRet (eLc false (iSeq (eVar 1)) (gNm 4) (bB (eBin (inC false pgcl c) (eVar 4) (eVar 2))) (eVar 4) [4]))
  sNx) sNx)
  (sSeq (sIf (bB (eBin (eqA false) (eVar 0) (eC (.int 2)))) (sSeq (sRet (eLc false (iSeq (eVar 1)) (gNm 4) (bB (eBin (inC true pgcl c) (eVar 4) (eVar 2))) (eVar 4) [4]))
  sNx) sNx)
  (sSeq (sRet (eIf (bB (eBin (eqA false) (eVar 0) (eC (.int 3)))) (eLst false lNil) (eBi (ssA false) (lCons (eVar 3) lNil))))
  sNx))))
def i_due : DI := ⟨"_law_due", Str.ofString "_law_due", Str.ofString "_law_due", top 25, [Str.ofString "_law_way", Str.ofString "_law_one", Str.ofString "_law_other", Str.ofString "_law_facts_here", Str.ofString "_law_fact_here"], [Str.ofString "_law_way", Str.ofString "_law_one", Str.ofString "_law_other", Str.ofString "_law_facts_here"]⟩
def t_rest (c : Cal) : SA := (sSeq (sSet (eBi (ssA false) (lCons (eLc false (iSeq (eVar 0)) (gNm 2) bYes (eTup (lCons (eBin ixD (eVar 2) (eC (.int 0))) (lCons (eBin subA (eBi lenD (lCons (eVar 2) lNil)) (eC (.int 1))) lNil))) [2]) lNil)) (gNm 1))
  (sSeq (sSet (eBi (ssA false) (lCons (eBi sumLA (lCons (eLc false (iSeq (eVar 0)) (gNm 2) bYes (eBi (listA false) (lCons (eSl false (eVar 2) (oSome (eC (.int 1))) oNo) lNil)) [2]) (lCons (eLst false lNil) lNil))) lNil)) (gNm 3))
  (sSeq (sRet (eLst false (lCons (eVar 1) (lCons (eVar 3) (lCons (eBi lenD (lCons (eVar 0) lNil)) (lCons (eBin (addA false) (eBin (addA false) (eC (.str (Str.ofString "Store("))) (eBi reprA (lCons (eVar 0) lNil))) (eC (.str (Str.ofString ")")))) lNil))))))
  sNx)))
def i_rest : DI := ⟨"_law_rest", Str.ofString "_law_rest", Str.ofString "_law_rest", top 26, [Str.ofString "_law_rows", Str.ofString "_law_names", Str.ofString "_law_fact_here", Str.ofString "_law_terms"], [Str.ofString "_law_rows"]⟩
def t_right (c : Cal) : SA := (sSeq (sFor (iR1 (eBi (lenC pgcl c) (lCons (eVar 0) lNil))) (gNm 2) (sSeq (sSet (eMe pgcl c (Str.ofString "facts") (eBin ixD (eVar 0) (eVar 2)) lNil) (gNm 3))
  (sSeq (sIf (bOr (bNot (bV (eCall c "_law_alike" (lCons (eVar 3) (lCons (eBin ixD (eVar 1) (eVar 2)) lNil))))) (bB (eBin (eqA true) (eBi (boolC pgcl c) (lCons (eBin ixD (eVar 0) (eVar 2)) lNil)) (eBin (eqA true) (eBin ixD (eVar 1) (eVar 2)) (eLst false lNil))))) (sSeq (sRet (eC (.bl false)))
  sNx) sNx)
  (sSeq (sSet (eLst false (lCons (eMe pgcl c (Str.ofString "names") (eBin ixD (eVar 0) (eVar 2)) lNil) (lCons (eMe pgcl c (Str.ofString "constants") (eBin ixD (eVar 0) (eVar 2)) lNil) (lCons (eBi (lenC pgcl c) (lCons (eBin ixD (eVar 0) (eVar 2)) lNil)) (lCons (eBi (reprC pgcl c) (lCons (eBin ixD (eVar 0) (eVar 2)) lNil)) lNil))))) (gNm 4))
  (sSeq (sIf (bNot (bV (eCall c "_law_alike" (lCons (eVar 4) (lCons (eCall c "_law_rest" (lCons (eBin ixD (eVar 1) (eVar 2)) lNil)) lNil))))) (sSeq (sRet (eC (.bl false)))
  sNx) sNx)
  (sSeq (sIf (bB (eBin (eqA true) (eLc false (iSeq (eBin ixD (eVar 4) (eC (.int 0)))) (gNm 5) (bB (eBin (eqA true) (eMe pgcl c (Str.ofString "of") (eBin ixD (eVar 0) (eVar 2)) (lCons (eVar 5) lNil)) (eLc false (iSeq (eBin ixD (eVar 1) (eVar 2))) (gNm 6) (bB (eBin (eqA false) (eTup (lCons (eBin ixD (eVar 6) (eC (.int 0))) (lCons (eBin subA (eBi lenD (lCons (eVar 6) lNil)) (eC (.int 1))) lNil))) (eVar 5))) (eVar 6) [6]))) (eC (.int 1)) [5]) (eLst false lNil))) (sSeq (sRet (eC (.bl false)))
  sNx) sNx)
  (sSeq (sEx (eM "list" appendA (eVar 3) (lCons (eTup (lCons (eC (.str (Str.ofString "x"))) lNil)) lNil)))
  (sSeq (sEx (eM "list" reverseA (eBin ixD (eVar 4) (eC (.int 0))) lNil))
  (sSeq (sFor (iR1 (eBi (lenC pgcl c) (lCons (eVar 0) lNil))) (gNm 7) (sSeq (sSet (eLc false (iSeq (eBin ixD (eVar 1) (eVar 2))) (gNm 9) (bB (eBin (inD true) (eVar 9) (eBin ixD (eVar 1) (eVar 7)))) (eVar 9) [9]) (gNm 8))
  (sSeq (sSet (eLst false (lCons (eMe pgcl c (Str.ofString "within") (eBin ixD (eVar 0) (eVar 2)) (lCons (eBin ixD (eVar 0) (eVar 7)) lNil)) (lCons (eBin (eqC false pgcl c) (eBin ixD (eVar 0) (eVar 2)) (eBin ixD (eVar 0) (eVar 7))) (lCons (eBi (boolC pgcl c) (lCons (eBin (opC (PySem.dunder Operator.Sub.info.2) (subA) pgcl c) (eBin ixD (eVar 0) (eVar 2)) (eBin ixD (eVar 0) (eVar 7))) lNil)) lNil)))) (gNm 10))
  (sSeq (sIf (bNot (bV (eCall c "_law_alike" (lCons (eVar 10) (lCons (eLst false (lCons (eBin (eqA false) (eVar 8) (eLst false lNil)) (lCons (eBin (eqA false) (eBin ixD (eVar 1) (eVar 2)) (eBin ixD (eVar 1) (eVar 7))) (lCons (eBin (eqA true) (eVar 8) (eLst false lNil)) lNil)))) lNil))))) (sSeq (sRet (eC (.bl false)))
  sNx) sNx)
  sNx))))
  sNx)))))))))
  (sSeq (sRet (eC (.bl true)))
  sNx))
def i_right : DI := ⟨"_law_right", Str.ofString "_law_right", Str.ofString "_law_right", top 27, [Str.ofString "_law_stores", Str.ofString "_law_lots", Str.ofString "_law_k", Str.ofString "_law_found", Str.ofString "_law_rest_here", Str.ofString "_law_name", Str.ofString "_law_f", Str.ofString "_law_j", Str.ofString "_law_lacking", Str.ofString "_law_fact_here", Str.ofString "_law_pair"], [Str.ofString "_law_stores", Str.ofString "_law_lots"]⟩
def t_law (c : Cal) : SA := (sSeq (sSet (eCall c "_law_bag" (lCons (eVar 0) lNil)) (gNm 1))
  (sSeq (sFor (iR1 (eC (.int 2))) (gNm 2) (sSeq (sSet (eCall c "_law_wide" (lCons (eVar 1) lNil)) (gNm 3))
  (sSeq (sSet (eLc false (iR1 (eC (.int 2))) (gNm 5) bYes (eCall c "_law_facts" (lCons (eVar 1) (lCons (eVar 3) (lCons (eC (.int 8)) lNil)))) [5]) (gNm 4))
  (sSeq (sSet (eLc false (iSeq (eVar 4)) (gNm 7) bYes (eCall c "_law_made_store" (lCons (eVar 1) (lCons (eVar 7) lNil))) [7]) (gNm 6))
  (sSeq (sSet (eLc false (iSeq (eVar 4)) (gNm 7) bYes (eBi (ssA false) (lCons (eVar 7) lNil)) [7]) (gNm 4))
  (sSeq (sFor (iR1 (eCall c "_law_take" (lCons (eVar 1) (lCons (eC (.int 13)) lNil)))) (gNm 8) (sSeq (sPar3 9 5 10 (lCons (eCall c "_law_take" (lCons (eVar 1) (lCons (eC (.int 5)) lNil))) (lCons (eCall c "_law_take" (lCons (eVar 1) (lCons (eBi (lenC pgcl c) (lCons (eVar 6) lNil)) lNil))) (lCons (eCall c "_law_take" (lCons (eVar 1) (lCons (eBi (lenC pgcl c) (lCons (eVar 6) lNil)) lNil))) lNil))))
  (sSeq (sSet (eCall c "_law_facts" (lCons (eVar 1) (lCons (eVar 3) (lCons (eC (.int 6)) lNil)))) (gNm 7))
  (sSeq (sPar 11 12 (lCons (eCall c "_law_done" (lCons (eVar 9) (lCons (eBin ixD (eVar 6) (eVar 5)) (lCons (eBin ixD (eVar 6) (eVar 10)) (lCons (eVar 7) lNil))))) (lCons (eCall c "_law_due" (lCons (eVar 9) (lCons (eBin ixD (eVar 4) (eVar 5)) (lCons (eBin ixD (eVar 4) (eVar 10)) (lCons (eVar 7) lNil))))) lNil)))
  (sSeq (sSet (eIf (bB (eBin ltA (eBi (lenC pgcl c) (lCons (eVar 6) lNil)) (eC (.int 4)))) (eBi (lenC pgcl c) (lCons (eVar 6) lNil)) (eCall c "_law_take" (lCons (eVar 1) (lCons (eC (.int 4)) lNil)))) (gNm 13))
  (sSeq (sSet (eBin (addA false) (eBin (addA false) (eSl false (eVar 6) oNo (oSome (eVar 13))) (eLst false (lCons (eVar 11) lNil))) (eSl false (eVar 6) (oSome (eBin (addA false) (eVar 13) (eC (.int 1)))) oNo)) (gNm 6))
  (sSeq (sSet (eBin (addA false) (eBin (addA false) (eSl false (eVar 4) oNo (oSome (eVar 13))) (eLst false (lCons (eVar 12) lNil))) (eSl false (eVar 4) (oSome (eBin (addA false) (eVar 13) (eC (.int 1)))) oNo)) (gNm 4))
  (sSeq (sIf (bNot (bV (eCall c "_law_right" (lCons (eVar 6) (lCons (eVar 4) lNil))))) (sSeq (sRet (eC (.bl false)))
  sNx) sNx)
  sNx))))))))
  (sSeq (sIf (bNot (bV (eCall c "_law_right" (lCons (eVar 6) (lCons (eVar 4) lNil))))) (sSeq (sRet (eC (.bl false)))
  sNx) sNx)
  sNx)))))))
  (sSeq (sRet (eC (.bl true)))
  sNx)))
def i_law : DI := ⟨"law", Str.ofString "law", Str.ofString "law", top 28, [Str.ofString "_law_script", Str.ofString "_law_bag_here", Str.ofString "_law_turn", Str.ofString "_law_kit_here", Str.ofString "_law_lots", Str.ofString "_law_k", Str.ofString "_law_stores", Str.ofString "_law_facts_here", Str.ofString "_law_step", Str.ofString "_law_way", Str.ofString "_law_j", Str.ofString "_law_made", Str.ofString "_law_later", Str.ofString "_law_at"], [Str.ofString "_law_script"]⟩
def t_Store___init__ (c : Cal) : SA := (sSeq (sIf (bOr (bNot (bV (eIsi (eVar 1) ["list", "tuple"]))) (bNot (bV (eBi (allA (·.all id)) (lCons (eLc false (iSeq (eVar 1)) (gNm 2) bYes (eCall c "is_fact" (lCons (eVar 2) lNil)) [2]) lNil))))) (sSeq (fun _ _ _ => False)
  sNx) sNx)
  (sSeq (sFldA pgcl (Str.ofString "known") (eVar 0) (eDc false (iSeq (eVar 1)) (gNm 2) bYes (eVar 2) (eC (.bl true)) [2]))
  (sSeq (sFldA pgcl (Str.ofString "rows") (eVar 0) (eBi tupleA (lCons (eBi (sortA false) (lCons (eFld pgcl (Str.ofString "known") (eVar 0)) lNil)) lNil)))
  sNx)))
def i_Store___init__ : DI := ⟨"Store.__init__", Str.ofString "__init__", Str.ofString "Store.__init__", sub 12 0, [Str.ofString "self", Str.ofString "facts", Str.ofString "fact"], [Str.ofString "self", Str.ofString "facts"]⟩
def t_Store___eq__ (c : Cal) : SA := (sSeq (sRet (eAnd (eIsC pgcl (Str.ofString "Store") (eVar 1)) (eBin (eqA false) (eFld pgcl (Str.ofString "rows") (eVar 0)) (eFld pgcl (Str.ofString "rows") (eVar 1)))))
  sNx)
def i_Store___eq__ : DI := ⟨"Store.__eq__", Str.ofString "__eq__", Str.ofString "Store.__eq__", sub 12 1, [Str.ofString "self", Str.ofString "other"], [Str.ofString "self", Str.ofString "other"]⟩
def t_Store___len__ (c : Cal) : SA := (sSeq (sRet (eBi lenD (lCons (eFld pgcl (Str.ofString "rows") (eVar 0)) lNil)))
  sNx)
def i_Store___len__ : DI := ⟨"Store.__len__", Str.ofString "__len__", Str.ofString "Store.__len__", sub 12 2, [Str.ofString "self"], [Str.ofString "self"]⟩
def t_Store___bool__ (c : Cal) : SA := (sSeq (sRet (eBi (boolC pgcl c) (lCons (eFld pgcl (Str.ofString "rows") (eVar 0)) lNil)))
  sNx)
def i_Store___bool__ : DI := ⟨"Store.__bool__", Str.ofString "__bool__", Str.ofString "Store.__bool__", sub 12 3, [Str.ofString "self"], [Str.ofString "self"]⟩
def t_Store___repr__ (c : Cal) : SA := (sSeq (sRet (eFs [(eC (.str (Str.ofString "Store("))), (eFmtR (eBi (listA false) (lCons (eFld pgcl (Str.ofString "rows") (eVar 0)) lNil))), (eC (.str (Str.ofString ")")))]))
  sNx)
def i_Store___repr__ : DI := ⟨"Store.__repr__", Str.ofString "__repr__", Str.ofString "Store.__repr__", sub 12 4, [Str.ofString "self"], [Str.ofString "self"]⟩
def t_Store___contains__ (c : Cal) : SA := (sSeq (sRet (eAnd (eCall c "is_fact" (lCons (eVar 1) lNil)) (eBin (inD false) (eVar 1) (eFld pgcl (Str.ofString "known") (eVar 0)))))
  sNx)
def i_Store___contains__ : DI := ⟨"Store.__contains__", Str.ofString "__contains__", Str.ofString "Store.__contains__", sub 12 5, [Str.ofString "self", Str.ofString "thing"], [Str.ofString "self", Str.ofString "thing"]⟩
def t_Store___or__ (c : Cal) : SA := (sSeq (sRet (eMk pgcl c (Str.ofString "Store") (lCons (eBin (addA false) (eFld pgcl (Str.ofString "rows") (eVar 0)) (eFld pgcl (Str.ofString "rows") (eVar 1))) lNil) []))
  sNx)
def i_Store___or__ : DI := ⟨"Store.__or__", Str.ofString "__or__", Str.ofString "Store.__or__", sub 12 6, [Str.ofString "self", Str.ofString "other"], [Str.ofString "self", Str.ofString "other"]⟩
def t_Store___and__ (c : Cal) : SA := (sSeq (sRet (eMk pgcl c (Str.ofString "Store") (lCons (eLc false (iSeq (eFld pgcl (Str.ofString "rows") (eVar 0))) (gNm 2) (bB (eBin (inD false) (eVar 2) (eFld pgcl (Str.ofString "known") (eVar 1)))) (eVar 2) [2]) lNil) []))
  sNx)
def i_Store___and__ : DI := ⟨"Store.__and__", Str.ofString "__and__", Str.ofString "Store.__and__", sub 12 7, [Str.ofString "self", Str.ofString "other", Str.ofString "fact"], [Str.ofString "self", Str.ofString "other"]⟩
def t_Store___sub__ (c : Cal) : SA := (sSeq (sRet (eMk pgcl c (Str.ofString "Store") (lCons (eLc false (iSeq (eFld pgcl (Str.ofString "rows") (eVar 0))) (gNm 2) (bB (eBin (inD true) (eVar 2) (eFld pgcl (Str.ofString "known") (eVar 1)))) (eVar 2) [2]) lNil) []))
  sNx)
def i_Store___sub__ : DI := ⟨"Store.__sub__", Str.ofString "__sub__", Str.ofString "Store.__sub__", sub 12 8, [Str.ofString "self", Str.ofString "other", Str.ofString "fact"], [Str.ofString "self", Str.ofString "other"]⟩
def t_Store_facts (c : Cal) : SA := (sSeq (sRet (eBi (listA true) (lCons (eFld pgcl (Str.ofString "rows") (eVar 0)) lNil)))
  sNx)
def i_Store_facts : DI := ⟨"Store.facts", Str.ofString "facts", Str.ofString "Store.facts", sub 12 9, [Str.ofString "self"], [Str.ofString "self"]⟩
def t_Store_names (c : Cal) : SA := (sSeq (sRet (eBi (sortA true) (lCons (eDc false (iSeq (eFld pgcl (Str.ofString "rows") (eVar 0))) (gNm 1) bYes (eTup (lCons (eBin ixD (eVar 1) (eC (.int 0))) (lCons (eBin subA (eBi lenD (lCons (eVar 1) lNil)) (eC (.int 1))) lNil))) (eC (.bl true)) [1]) lNil)))
  sNx)
def i_Store_names : DI := ⟨"Store.names", Str.ofString "names", Str.ofString "Store.names", sub 12 10, [Str.ofString "self", Str.ofString "fact"], [Str.ofString "self"]⟩
def t_Store_constants (c : Cal) : SA := (sSeq (sSet (eDct0 true) (gNm 1))
  (sSeq (sFor (iSeq (eFld pgcl (Str.ofString "rows") (eVar 0))) (gNm 2) (sSeq (sFor (iSeq (eSl false (eVar 2) (oSome (eC (.int 1))) oNo)) (gNm 3) (sSeq (sSet (eC (.bl true)) (gSubD (eVar 1) (eVar 3)))
  sNx))
  sNx))
  (sSeq (sRet (eBi (sortA false) (lCons (eVar 1) lNil)))
  sNx)))
def i_Store_constants : DI := ⟨"Store.constants", Str.ofString "constants", Str.ofString "Store.constants", sub 12 11, [Str.ofString "self", Str.ofString "found", Str.ofString "fact", Str.ofString "constant"], [Str.ofString "self"]⟩
def t_Store_of (c : Cal) : SA := (sSeq (sRet (eLc false (iSeq (eFld pgcl (Str.ofString "rows") (eVar 0))) (gNm 2) (bB (eBin (eqA false) (eTup (lCons (eBin ixD (eVar 2) (eC (.int 0))) (lCons (eBin subA (eBi lenD (lCons (eVar 2) lNil)) (eC (.int 1))) lNil))) (eVar 1))) (eVar 2) [2]))
  sNx)
def i_Store_of : DI := ⟨"Store.of", Str.ofString "of", Str.ofString "Store.of", sub 12 12, [Str.ofString "self", Str.ofString "name", Str.ofString "fact"], [Str.ofString "self", Str.ofString "name"]⟩
def t_Store_within (c : Cal) : SA := (sSeq (sRet (eBi (allA (·.all id)) (lCons (eLc false (iSeq (eFld pgcl (Str.ofString "rows") (eVar 0))) (gNm 2) bYes (eBin (inD false) (eVar 2) (eFld pgcl (Str.ofString "known") (eVar 1))) [2]) lNil)))
  sNx)
def i_Store_within : DI := ⟨"Store.within", Str.ofString "within", Str.ofString "Store.within", sub 12 13, [Str.ofString "self", Str.ofString "other", Str.ofString "fact"], [Str.ofString "self", Str.ofString "other"]⟩
def fns : List DI := [i_is_integer, i_is_constant, i_is_word, i_is_fact, i_bag, i_take, i_alike, i_mixed, i_labels, i_kit, i_wide, i_fact, i_facts, i_made_store, i_done, i_due, i_rest, i_right, i_law]
def all : List DI := [i_is_integer, i_is_constant, i_is_word, i_is_fact, i_bag, i_take, i_alike, i_mixed, i_labels, i_kit, i_wide, i_fact, i_facts, i_made_store, i_done, i_due, i_rest, i_right, i_law, i_Store___init__, i_Store___eq__, i_Store___len__, i_Store___bool__, i_Store___repr__, i_Store___contains__, i_Store___or__, i_Store___and__, i_Store___sub__, i_Store_facts, i_Store_names, i_Store_constants, i_Store_of, i_Store_within]
def ft : List (Str × FD) := [(Str.ofString "is_integer", ⟨1, 1, t_is_integer⟩), (Str.ofString "is_constant", ⟨1, 1, t_is_constant⟩), (Str.ofString "is_word", ⟨1, 1, t_is_word⟩), (Str.ofString "is_fact", ⟨1, 2, t_is_fact⟩), (Str.ofString "_law_bag", ⟨1, 2, t_bag⟩), (Str.ofString "_law_take", ⟨2, 7, t_take⟩), (Str.ofString "_law_alike", ⟨2, 2, t_alike⟩), (Str.ofString "_law_mixed", ⟨2, 4, t_mixed⟩), (Str.ofString "_law_labels", ⟨2, 11, t_labels⟩), (Str.ofString "_law_kit", ⟨1, 6, t_kit⟩), (Str.ofString "_law_wide", ⟨1, 2, t_wide⟩), (Str.ofString "_law_fact", ⟨2, 5, t_fact⟩), (Str.ofString "_law_facts", ⟨3, 4, t_facts⟩), (Str.ofString "_law_made_store", ⟨2, 4, t_made_store⟩), (Str.ofString "_law_done", ⟨4, 4, t_done⟩), (Str.ofString "_law_due", ⟨4, 5, t_due⟩), (Str.ofString "_law_rest", ⟨1, 4, t_rest⟩), (Str.ofString "_law_right", ⟨2, 11, t_right⟩), (Str.ofString "law", ⟨1, 14, t_law⟩), (Str.ofString "Store.__init__", ⟨2, 3, t_Store___init__⟩), (Str.ofString "Store.__eq__", ⟨2, 2, t_Store___eq__⟩), (Str.ofString "Store.__len__", ⟨1, 1, t_Store___len__⟩), (Str.ofString "Store.__bool__", ⟨1, 1, t_Store___bool__⟩), (Str.ofString "Store.__repr__", ⟨1, 1, t_Store___repr__⟩), (Str.ofString "Store.__contains__", ⟨2, 2, t_Store___contains__⟩), (Str.ofString "Store.__or__", ⟨2, 2, t_Store___or__⟩), (Str.ofString "Store.__and__", ⟨2, 3, t_Store___and__⟩), (Str.ofString "Store.__sub__", ⟨2, 3, t_Store___sub__⟩), (Str.ofString "Store.facts", ⟨1, 1, t_Store_facts⟩), (Str.ofString "Store.names", ⟨1, 2, t_Store_names⟩), (Str.ofString "Store.constants", ⟨1, 4, t_Store_constants⟩), (Str.ofString "Store.of", ⟨2, 3, t_Store_of⟩), (Str.ofString "Store.within", ⟨2, 3, t_Store_within⟩)]
def FT : FTab := fun x => ft.lookup x
def pg : Pg := { fn := ownL fns, kc := [(Str.ofString "LONGEST_WORD", 8), (Str.ofString "MOST_PLACES", 4)], mu := [⟨61, 15, 61, 30⟩, ⟨64, 15, 64, 77⟩, ⟨67, 16, 67, 18⟩, ⟨83, 11, 83, 81⟩, ⟨106, 17, 106, 19⟩, ⟨124, 17, 124, 147⟩, ⟨128, 11, 128, 118⟩, ⟨130, 20, 130, 43⟩, ⟨140, 18, 140, 108⟩, ⟨166, 21, 166, 48⟩], cl := pgcl, cp := [⟨146, 15, 146, 36⟩, ⟨148, 15, 148, 36⟩, ⟨150, 15, 150, 36⟩, ⟨154, 26, 154, 47⟩, ⟨156, 65, 156, 93⟩, ⟨158, 65, 158, 97⟩, ⟨165, 24, 165, 40⟩, ⟨166, 21, 166, 48⟩, ⟨169, 26, 169, 53⟩, ⟨169, 55, 169, 86⟩, ⟨169, 88, 169, 112⟩, ⟨169, 114, 169, 139⟩, ⟨172, 52, 172, 85⟩, ⟨176, 28, 176, 44⟩, ⟨178, 25, 178, 72⟩, ⟨178, 74, 178, 116⟩, ⟨178, 123, 178, 164⟩, ⟨190, 94, 190, 110⟩, ⟨190, 138, 190, 154⟩, ⟨193, 22, 193, 38⟩, ⟨193, 42, 193, 58⟩], df := [("Store.__init__", 1, [.tup []])] }
theorem s_is_integer : FnScope i_is_integer.N i_is_integer.ps (defScope i_is_integer.st) := ⟨rfl, rfl, rfl, by decide +kernel, rfl, by decide +kernel, by decide +kernel⟩
theorem k_is_integer (c : Cal) : cSs i_is_integer.N pg c 100 (defScope i_is_integer.st) (defBody i_is_integer.st) = some (t_is_integer c) := by kernel_rfl
theorem s_is_constant : FnScope i_is_constant.N i_is_constant.ps (defScope i_is_constant.st) := ⟨rfl, rfl, rfl, by decide +kernel, rfl, by decide +kernel, by decide +kernel⟩
theorem k_is_constant (c : Cal) : cSs i_is_constant.N pg c 100 (defScope i_is_constant.st) (defBody i_is_constant.st) = some (t_is_constant c) := by kernel_rfl
theorem s_is_word : FnScope i_is_word.N i_is_word.ps (defScope i_is_word.st) := ⟨rfl, rfl, rfl, by decide +kernel, rfl, by decide +kernel, by decide +kernel⟩
theorem k_is_word (c : Cal) : cSs i_is_word.N pg c 100 (defScope i_is_word.st) (defBody i_is_word.st) = some (t_is_word c) := by kernel_rfl
theorem s_is_fact : FnScope i_is_fact.N i_is_fact.ps (defScope i_is_fact.st) := ⟨rfl, rfl, rfl, by decide +kernel, rfl, by decide +kernel, by decide +kernel⟩
theorem k_is_fact (c : Cal) : cSs i_is_fact.N pg c 100 (defScope i_is_fact.st) (defBody i_is_fact.st) = some (t_is_fact c) := by kernel_rfl
theorem s_bag : FnScope i_bag.N i_bag.ps (defScope i_bag.st) := ⟨rfl, rfl, rfl, by decide +kernel, rfl, by decide +kernel, by decide +kernel⟩
theorem k_bag (c : Cal) : cSs i_bag.N pg c 100 (defScope i_bag.st) (defBody i_bag.st) = some (t_bag c) := by kernel_rfl
theorem s_take : FnScope i_take.N i_take.ps (defScope i_take.st) := ⟨rfl, rfl, rfl, by decide +kernel, rfl, by decide +kernel, by decide +kernel⟩
theorem k_take (c : Cal) : cSs i_take.N pg c 100 (defScope i_take.st) (defBody i_take.st) = some (t_take c) := by kernel_rfl
theorem s_alike : FnScope i_alike.N i_alike.ps (defScope i_alike.st) := ⟨rfl, rfl, rfl, by decide +kernel, rfl, by decide +kernel, by decide +kernel⟩
theorem k_alike (c : Cal) : cSs i_alike.N pg c 100 (defScope i_alike.st) (defBody i_alike.st) = some (t_alike c) := by kernel_rfl
theorem s_mixed : FnScope i_mixed.N i_mixed.ps (defScope i_mixed.st) := ⟨rfl, rfl, rfl, by decide +kernel, rfl, by decide +kernel, by decide +kernel⟩
theorem k_mixed (c : Cal) : cSs i_mixed.N pg c 100 (defScope i_mixed.st) (defBody i_mixed.st) = some (t_mixed c) := by kernel_rfl
theorem s_labels : FnScope i_labels.N i_labels.ps (defScope i_labels.st) := ⟨rfl, rfl, rfl, by decide +kernel, rfl, by decide +kernel, by decide +kernel⟩
theorem k_labels (c : Cal) : cSs i_labels.N pg c 100 (defScope i_labels.st) (defBody i_labels.st) = some (t_labels c) := by kernel_rfl
theorem s_kit : FnScope i_kit.N i_kit.ps (defScope i_kit.st) := ⟨rfl, rfl, rfl, by decide +kernel, rfl, by decide +kernel, by decide +kernel⟩
theorem k_kit (c : Cal) : cSs i_kit.N pg c 100 (defScope i_kit.st) (defBody i_kit.st) = some (t_kit c) := by kernel_rfl
theorem s_wide : FnScope i_wide.N i_wide.ps (defScope i_wide.st) := ⟨rfl, rfl, rfl, by decide +kernel, rfl, by decide +kernel, by decide +kernel⟩
theorem k_wide (c : Cal) : cSs i_wide.N pg c 100 (defScope i_wide.st) (defBody i_wide.st) = some (t_wide c) := by kernel_rfl
theorem s_fact : FnScope i_fact.N i_fact.ps (defScope i_fact.st) := ⟨rfl, rfl, rfl, by decide +kernel, rfl, by decide +kernel, by decide +kernel⟩
theorem k_fact (c : Cal) : cSs i_fact.N pg c 100 (defScope i_fact.st) (defBody i_fact.st) = some (t_fact c) := by kernel_rfl
theorem s_facts : FnScope i_facts.N i_facts.ps (defScope i_facts.st) := ⟨rfl, rfl, rfl, by decide +kernel, rfl, by decide +kernel, by decide +kernel⟩
theorem k_facts (c : Cal) : cSs i_facts.N pg c 100 (defScope i_facts.st) (defBody i_facts.st) = some (t_facts c) := by kernel_rfl
theorem s_made_store : FnScope i_made_store.N i_made_store.ps (defScope i_made_store.st) := ⟨rfl, rfl, rfl, by decide +kernel, rfl, by decide +kernel, by decide +kernel⟩
theorem k_made_store (c : Cal) : cSs i_made_store.N pg c 100 (defScope i_made_store.st) (defBody i_made_store.st) = some (t_made_store c) := by kernel_rfl
theorem s_done : FnScope i_done.N i_done.ps (defScope i_done.st) := ⟨rfl, rfl, rfl, by decide +kernel, rfl, by decide +kernel, by decide +kernel⟩
theorem k_done (c : Cal) : cSs i_done.N pg c 100 (defScope i_done.st) (defBody i_done.st) = some (t_done c) := by kernel_rfl
theorem s_due : FnScope i_due.N i_due.ps (defScope i_due.st) := ⟨rfl, rfl, rfl, by decide +kernel, rfl, by decide +kernel, by decide +kernel⟩
theorem k_due (c : Cal) : cSs i_due.N pg c 100 (defScope i_due.st) (defBody i_due.st) = some (t_due c) := by kernel_rfl
theorem s_rest : FnScope i_rest.N i_rest.ps (defScope i_rest.st) := ⟨rfl, rfl, rfl, by decide +kernel, rfl, by decide +kernel, by decide +kernel⟩
theorem k_rest (c : Cal) : cSs i_rest.N pg c 100 (defScope i_rest.st) (defBody i_rest.st) = some (t_rest c) := by kernel_rfl
theorem s_right : FnScope i_right.N i_right.ps (defScope i_right.st) := ⟨rfl, rfl, rfl, by decide +kernel, rfl, by decide +kernel, by decide +kernel⟩
theorem k_right (c : Cal) : cSs i_right.N pg c 100 (defScope i_right.st) (defBody i_right.st) = some (t_right c) := by kernel_rfl
theorem s_law : FnScope i_law.N i_law.ps (defScope i_law.st) := ⟨rfl, rfl, rfl, by decide +kernel, rfl, by decide +kernel, by decide +kernel⟩
theorem k_law (c : Cal) : cSs i_law.N pg c 100 (defScope i_law.st) (defBody i_law.st) = some (t_law c) := by kernel_rfl
theorem s_Store___init__ : FnScope i_Store___init__.N i_Store___init__.ps (defScope i_Store___init__.st) := ⟨rfl, rfl, rfl, by decide +kernel, rfl, by decide +kernel, by decide +kernel⟩
theorem k_Store___init__ (c : Cal) : cSs i_Store___init__.N pg c 100 (defScope i_Store___init__.st) (defBody i_Store___init__.st) = some (t_Store___init__ c) := by kernel_rfl
theorem s_Store___eq__ : FnScope i_Store___eq__.N i_Store___eq__.ps (defScope i_Store___eq__.st) := ⟨rfl, rfl, rfl, by decide +kernel, rfl, by decide +kernel, by decide +kernel⟩
theorem k_Store___eq__ (c : Cal) : cSs i_Store___eq__.N pg c 100 (defScope i_Store___eq__.st) (defBody i_Store___eq__.st) = some (t_Store___eq__ c) := by kernel_rfl
theorem s_Store___len__ : FnScope i_Store___len__.N i_Store___len__.ps (defScope i_Store___len__.st) := ⟨rfl, rfl, rfl, by decide +kernel, rfl, by decide +kernel, by decide +kernel⟩
theorem k_Store___len__ (c : Cal) : cSs i_Store___len__.N pg c 100 (defScope i_Store___len__.st) (defBody i_Store___len__.st) = some (t_Store___len__ c) := by kernel_rfl
theorem s_Store___bool__ : FnScope i_Store___bool__.N i_Store___bool__.ps (defScope i_Store___bool__.st) := ⟨rfl, rfl, rfl, by decide +kernel, rfl, by decide +kernel, by decide +kernel⟩
theorem k_Store___bool__ (c : Cal) : cSs i_Store___bool__.N pg c 100 (defScope i_Store___bool__.st) (defBody i_Store___bool__.st) = some (t_Store___bool__ c) := by kernel_rfl
theorem s_Store___repr__ : FnScope i_Store___repr__.N i_Store___repr__.ps (defScope i_Store___repr__.st) := ⟨rfl, rfl, rfl, by decide +kernel, rfl, by decide +kernel, by decide +kernel⟩
theorem k_Store___repr__ (c : Cal) : cSs i_Store___repr__.N pg c 100 (defScope i_Store___repr__.st) (defBody i_Store___repr__.st) = some (t_Store___repr__ c) := by kernel_rfl
theorem s_Store___contains__ : FnScope i_Store___contains__.N i_Store___contains__.ps (defScope i_Store___contains__.st) := ⟨rfl, rfl, rfl, by decide +kernel, rfl, by decide +kernel, by decide +kernel⟩
theorem k_Store___contains__ (c : Cal) : cSs i_Store___contains__.N pg c 100 (defScope i_Store___contains__.st) (defBody i_Store___contains__.st) = some (t_Store___contains__ c) := by kernel_rfl
theorem s_Store___or__ : FnScope i_Store___or__.N i_Store___or__.ps (defScope i_Store___or__.st) := ⟨rfl, rfl, rfl, by decide +kernel, rfl, by decide +kernel, by decide +kernel⟩
theorem k_Store___or__ (c : Cal) : cSs i_Store___or__.N pg c 100 (defScope i_Store___or__.st) (defBody i_Store___or__.st) = some (t_Store___or__ c) := by kernel_rfl
theorem s_Store___and__ : FnScope i_Store___and__.N i_Store___and__.ps (defScope i_Store___and__.st) := ⟨rfl, rfl, rfl, by decide +kernel, rfl, by decide +kernel, by decide +kernel⟩
theorem k_Store___and__ (c : Cal) : cSs i_Store___and__.N pg c 100 (defScope i_Store___and__.st) (defBody i_Store___and__.st) = some (t_Store___and__ c) := by kernel_rfl
theorem s_Store___sub__ : FnScope i_Store___sub__.N i_Store___sub__.ps (defScope i_Store___sub__.st) := ⟨rfl, rfl, rfl, by decide +kernel, rfl, by decide +kernel, by decide +kernel⟩
theorem k_Store___sub__ (c : Cal) : cSs i_Store___sub__.N pg c 100 (defScope i_Store___sub__.st) (defBody i_Store___sub__.st) = some (t_Store___sub__ c) := by kernel_rfl
theorem s_Store_facts : FnScope i_Store_facts.N i_Store_facts.ps (defScope i_Store_facts.st) := ⟨rfl, rfl, rfl, by decide +kernel, rfl, by decide +kernel, by decide +kernel⟩
theorem k_Store_facts (c : Cal) : cSs i_Store_facts.N pg c 100 (defScope i_Store_facts.st) (defBody i_Store_facts.st) = some (t_Store_facts c) := by kernel_rfl
theorem s_Store_names : FnScope i_Store_names.N i_Store_names.ps (defScope i_Store_names.st) := ⟨rfl, rfl, rfl, by decide +kernel, rfl, by decide +kernel, by decide +kernel⟩
theorem k_Store_names (c : Cal) : cSs i_Store_names.N pg c 100 (defScope i_Store_names.st) (defBody i_Store_names.st) = some (t_Store_names c) := by kernel_rfl
theorem s_Store_constants : FnScope i_Store_constants.N i_Store_constants.ps (defScope i_Store_constants.st) := ⟨rfl, rfl, rfl, by decide +kernel, rfl, by decide +kernel, by decide +kernel⟩
theorem k_Store_constants (c : Cal) : cSs i_Store_constants.N pg c 100 (defScope i_Store_constants.st) (defBody i_Store_constants.st) = some (t_Store_constants c) := by kernel_rfl
theorem s_Store_of : FnScope i_Store_of.N i_Store_of.ps (defScope i_Store_of.st) := ⟨rfl, rfl, rfl, by decide +kernel, rfl, by decide +kernel, by decide +kernel⟩
theorem k_Store_of (c : Cal) : cSs i_Store_of.N pg c 100 (defScope i_Store_of.st) (defBody i_Store_of.st) = some (t_Store_of c) := by kernel_rfl
theorem s_Store_within : FnScope i_Store_within.N i_Store_within.ps (defScope i_Store_within.st) := ⟨rfl, rfl, rfl, by decide +kernel, rfl, by decide +kernel, by decide +kernel⟩
theorem k_Store_within (c : Cal) : cSs i_Store_within.N pg c 100 (defScope i_Store_within.st) (defBody i_Store_within.st) = some (t_Store_within c) := by kernel_rfl
theorem hFT : ∀ i ∈ all, ∃ d, FT (Str.ofString i.key) = some d ∧ d.ps = i.ps.length ∧ d.slots = i.N.length ∧ ∀ c, cSs i.N pg c 100 (defScope i.st) (defBody i.st) = some (d.body c) :=
  all_cons ⟨_, rfl, rfl, rfl, k_is_integer⟩ (
  all_cons ⟨_, rfl, rfl, rfl, k_is_constant⟩ (
  all_cons ⟨_, rfl, rfl, rfl, k_is_word⟩ (
  all_cons ⟨_, rfl, rfl, rfl, k_is_fact⟩ (
  all_cons ⟨_, rfl, rfl, rfl, k_bag⟩ (
  all_cons ⟨_, rfl, rfl, rfl, k_take⟩ (
  all_cons ⟨_, rfl, rfl, rfl, k_alike⟩ (
  all_cons ⟨_, rfl, rfl, rfl, k_mixed⟩ (
  all_cons ⟨_, rfl, rfl, rfl, k_labels⟩ (
  all_cons ⟨_, rfl, rfl, rfl, k_kit⟩ (
  all_cons ⟨_, rfl, rfl, rfl, k_wide⟩ (
  all_cons ⟨_, rfl, rfl, rfl, k_fact⟩ (
  all_cons ⟨_, rfl, rfl, rfl, k_facts⟩ (
  all_cons ⟨_, rfl, rfl, rfl, k_made_store⟩ (
  all_cons ⟨_, rfl, rfl, rfl, k_done⟩ (
  all_cons ⟨_, rfl, rfl, rfl, k_due⟩ (
  all_cons ⟨_, rfl, rfl, rfl, k_rest⟩ (
  all_cons ⟨_, rfl, rfl, rfl, k_right⟩ (
  all_cons ⟨_, rfl, rfl, rfl, k_law⟩ (
  all_cons ⟨_, rfl, rfl, rfl, k_Store___init__⟩ (
  all_cons ⟨_, rfl, rfl, rfl, k_Store___eq__⟩ (
  all_cons ⟨_, rfl, rfl, rfl, k_Store___len__⟩ (
  all_cons ⟨_, rfl, rfl, rfl, k_Store___bool__⟩ (
  all_cons ⟨_, rfl, rfl, rfl, k_Store___repr__⟩ (
  all_cons ⟨_, rfl, rfl, rfl, k_Store___contains__⟩ (
  all_cons ⟨_, rfl, rfl, rfl, k_Store___or__⟩ (
  all_cons ⟨_, rfl, rfl, rfl, k_Store___and__⟩ (
  all_cons ⟨_, rfl, rfl, rfl, k_Store___sub__⟩ (
  all_cons ⟨_, rfl, rfl, rfl, k_Store_facts⟩ (
  all_cons ⟨_, rfl, rfl, rfl, k_Store_names⟩ (
  all_cons ⟨_, rfl, rfl, rfl, k_Store_constants⟩ (
  all_cons ⟨_, rfl, rfl, rfl, k_Store_of⟩ (
  all_cons ⟨_, rfl, rfl, rfl, k_Store_within⟩ (
  all_nil)))))))))))))))))))))))))))))))))
theorem mem_law : i_law ∈ all := by simp [all]
end G
/-! R_k15: k15's law holds. -/
namespace G
open PySem PySem.Spec PyProof.Rows Q
local macro_rules | `(tactic| walk_at "w") => `(tactic| simp only [sSet, sIf, sNx, sRet, sRetN, sEx, sFor, sPar, sFldA, eVar, eC, eBin, eNot, eAnd, eOr, eIf, eTup, eLst, eDct0, eBi, eCall, eM, eSl, oNo, oSome, eLc, eDc, eDis2, prs, eMk_eq, eMe_eq, eFs, fsA, eFmt, eFmtR, iSeq, iR1, it_tup, it_fro, eFld_eq, bV, bVC, bB, bNot, bAnd, bOr, bYes, gNm, gTup, gTs, lNil, lCons, new_f, new_t, frz_l, frz_d, wipeA, truA, tyA, List.getElem?_cons_zero, List.getElem?_cons_succ, List.set_cons_zero, List.set_cons_succ, List.cons_append, List.nil_append, List.append_nil, addA_i, addA_s, addA_t, add_fro, subA_i, modA_i, fdivA_i, powA_i, mulA_i, mulA_s, mul_fro, ltA_i, leA_i, gtA_i, geA_i, eqInt, eqStr, _root_.Q.len_str, len_fro, len_tup, sl_tup, sl_fro, ixFro, ixTup, tupleA_fro, tupleA_tup, listA_tup, listA_fro, intOfA, if_true, if_false, Bool.not_true, Bool.not_false, Bool.false_eq_true, decide_eq_true_eq, beq_self_eq_true, true_and])
theorem f_take : FT (Str.ofString "_law_take") = some ⟨2, 7, tk_take⟩ := rfl
theorem f_bag : FT (Str.ofString "_law_bag") = some ⟨1, 2, tk_bag⟩ := rfl
theorem f_alike : FT (Str.ofString "_law_alike") = some ⟨2, 2, tk_alike⟩ := rfl
theorem f_mixed : FT (Str.ofString "_law_mixed") = some ⟨2, 4, tk_mixed⟩ := rfl
theorem f_labels : FT (Str.ofString "_law_labels") = some ⟨2, 11, tk_labels⟩ := rfl
theorem f_kit : FT (Str.ofString "_law_kit") = some ⟨1, 6, tk_kit true false⟩ := rfl
theorem f_wide : FT (Str.ofString "_law_wide") = some ⟨1, 2, tk_wide⟩ := rfl
theorem f_fact : FT (Str.ofString "_law_fact") = some ⟨2, 5, tk_fact⟩ := rfl
theorem f_facts : FT (Str.ofString "_law_facts") = some ⟨3, 4, tk_facts⟩ := rfl
theorem f_made : FT (Str.ofString "_law_made_store") = some ⟨2, 4, tk_made_store pgcl⟩ := rfl
theorem f_done : FT (Str.ofString "_law_done") = some ⟨4, 4, t_done⟩ := rfl
theorem f_due : FT (Str.ofString "_law_due") = some ⟨4, 5, t_due⟩ := rfl
theorem f_rest : FT (Str.ofString "_law_rest") = some ⟨1, 4, t_rest⟩ := rfl
theorem f_right : FT (Str.ofString "_law_right") = some ⟨2, 11, t_right⟩ := rfl
theorem f_C : StCl pgcl := ⟨⟨ci_Store, rfl, rfl, rfl⟩, rfl, rfl⟩
theorem f_F : StF pgcl FT := ⟨f_C, rfl, rfl, rfl, rfl, ⟨_, rfl⟩⟩
theorem f_eq : FT (Str.ofString "Store.__eq__") = some ⟨2, 2, tk_St_eq pgcl⟩ := rfl
theorem m_eq : mthOf pgcl stN (Str.ofString "__eq__") = some "Store.__eq__" := rfl
theorem f_len : FT (Str.ofString "Store.__len__") = some ⟨1, 1, tk_St_len pgcl⟩ := rfl
theorem m_len : mthOf pgcl stN (Str.ofString "__len__") = some "Store.__len__" := rfl
theorem f_bool : FT (Str.ofString "Store.__bool__") = some ⟨1, 1, tk_St_bool pgcl⟩ := rfl
theorem m_bool : mthOf pgcl stN (Str.ofString "__bool__") = some "Store.__bool__" := rfl
theorem f_repr : FT (Str.ofString "Store.__repr__") = some ⟨1, 1, tk_St_repr pgcl⟩ := rfl
theorem m_repr : mthOf pgcl stN (Str.ofString "__repr__") = some "Store.__repr__" := rfl
theorem f_sfacts : FT (Str.ofString "Store.facts") = some ⟨1, 1, tk_St_facts true pgcl⟩ := rfl
theorem m_sfacts : mthOf pgcl stN (Str.ofString "facts") = some "Store.facts" := rfl
theorem f_snames : FT (Str.ofString "Store.names") = some ⟨1, 2, tk_St_names true pgcl⟩ := rfl
theorem m_snames : mthOf pgcl stN (Str.ofString "names") = some "Store.names" := rfl
theorem f_scons : FT (Str.ofString "Store.constants") = some ⟨1, 4, tk_St_constants false pgcl⟩ := rfl
theorem m_scons : mthOf pgcl stN (Str.ofString "constants") = some "Store.constants" := rfl
theorem f_sof : FT (Str.ofString "Store.of") = some ⟨2, 3, tk_St_of false pgcl⟩ := rfl
theorem m_sof : mthOf pgcl stN (Str.ofString "of") = some "Store.of" := rfl
theorem f_within : FT (Str.ofString "Store.within") = some ⟨2, 3, tk_St_within pgcl⟩ := rfl
theorem m_within : mthOf pgcl stN (Str.ofString "within") = some "Store.within" := rfl
theorem f_sub : FT (Str.ofString "Store.__sub__") = some ⟨2, 3, tk_St_and true pgcl⟩ := rfl
theorem m_sub : mthOf pgcl stN (PySem.dunder Operator.Sub.info.2) = some "Store.__sub__" := rfl
theorem f_and : FT (Str.ofString "Store.__and__") = some ⟨2, 3, tk_St_and false pgcl⟩ := rfl
theorem m_and : mthOf pgcl stN (PySem.dunder Operator.BitAnd.info.2) = some "Store.__and__" := rfl
theorem f_or : FT (Str.ofString "Store.__or__") = some ⟨2, 2, tk_St_or pgcl⟩ := rfl
theorem m_or : mthOf pgcl stN (PySem.dunder Operator.BitOr.info.2) = some "Store.__or__" := rfl
section
variable {n : Nat} {G : Gp} {b : Addr} {P : Int} {Q : KA} {X : KX} {fs nms rows ks cs vs : List A} {v : A}
def txt (rows : List A) : Str := stT (.list (rows.map dOf))
theorem txt_as (hx : ∀ x ∈ rows, Fc x) (hl : rows.length ≤ 62) : Cs asc 40000 (txt rows) := by
  obtain ⟨d, e, s, _⟩ := rows_okp hx hl
  rw [rows_pyd hx] at e; cases e
  have h1 : Cs asc 6 (Str.ofString "Store(") := by decide +kernel
  have h2 : Cs asc 1 (Str.ofString ")") := by decide +kernel
  exact ((h1.app s.2.2).app h2).more (by decide)
theorem allL_map {f : A → List A} : ∀ xs : List A, allL G (xs.map fun x => A.fro (f x)) = some (xs.map f)
  | [] => rfl
  | x :: xs => by simp only [List.map_cons, allL, lstOf, allL_map xs]
def restA (rows : List A) : A := .fro [.fro (srt (ddA (rows.map nmA))), .fro (srt (ddA (rows.flatMap cnsA))), .int rows.length, .str (txt rows)]
theorem rest_ok (hx : ∀ x ∈ rows, Fc x) (hl : rows.length ≤ 60) (hu : cs.length < 63) (hc : ∀ x ∈ rows, ∀ y ∈ cnsA x, y ∈ cs) (q : Q (restA rows) G) : runF FT (n + 1) "_law_rest" [.fro rows] G Q X := by
  have := hz
  refine run_i [some (.fro rows), none, none, none] f_rest rfl rfl ?_
  unfold t_rest
  (refine seq_i fun R hR => ?_; try walk_at "w")
  refine lc_map (f := nmA) trivial rows [] ?_ (by simp only [List.length_nil]; omega) ?_
  · intro x mx Q2 q2
    obtain ⟨w, cs, rfl, hw, hc, hl⟩ := id (hx x mx)
    rw [nmA_frow] at q2
    simp only [sSet, sIf, sNx, sRet, sRetN, sEx, sFor, sPar, sFldA, eVar, eC, eBin, eNot, eAnd, eOr, eIf, eTup, eLst, eDct0, eBi, eCall, eM, eSl, oNo, oSome, eLc, eDc, eDis2, prs, eMk_eq, eMe_eq, eFs, fsA, eFmt, eFmtR, iSeq, iR1, it_tup, it_fro, eFld_eq, bV, bVC, bB, bNot, bAnd, bOr, bYes, gNm, gTup, gTs, lNil, lCons, new_f, new_t, frz_l, frz_d, wipeA, truA, tyA, List.getElem?_cons_zero, List.getElem?_cons_succ, List.set_cons_zero, List.set_cons_succ, List.cons_append, List.nil_append, List.append_nil, addA_i, addA_s, addA_t, add_fro, subA_i, modA_i, fdivA_i, powA_i, mulA_i, mulA_s, mul_fro, ltA_i, leA_i, gtA_i, geA_i, eqInt, eqStr, _root_.Q.len_str, len_fro, len_tup, sl_tup, sl_fro, ixFro, ixTup, tupleA_fro, tupleA_tup, listA_tup, listA_fro, intOfA, if_true, if_false, Bool.not_true, Bool.not_false, Bool.false_eq_true, decide_eq_true_eq, beq_self_eq_true, true_and, frow, atK, at0]
    refine ⟨le_sz (by simp), ?_⟩
    have : ((A.str w :: cs.map A.int).length : Int) - 1 = cs.length := by simp
    rw [this]; exact q2
  have kn : ∀ x ∈ rows.map nmA, KR x := fun x m => by obtain ⟨y, my, rfl⟩ := List.mem_map.mp m; exact (hx y my).nm.fc.kr
  have d2 := dd_le (rows.map nmA)
  simp only [List.length_map] at d2
  refine ⟨_, rows.map nmA, rfl, rfl, set_rows kn (by omega), srt_rows kn (by rw [List.length_map]; exact le_sz (by omega)), ?_⟩
  walk_at "w"
  (refine hR _ _ ?_; clear hR R)
  (refine seq_i fun R hR => ?_; try walk_at "w")
  refine lc_map (f := fun x => .fro (cnsA x)) trivial rows [] ?_ (by simp only [List.length_nil]; omega) ?_
  · intro x mx Q2 q2
    obtain ⟨w, cs, rfl, hw, hc, hl⟩ := id (hx x mx)
    simp only [sSet, sIf, sNx, sRet, sRetN, sEx, sFor, sPar, sFldA, eVar, eC, eBin, eNot, eAnd, eOr, eIf, eTup, eLst, eDct0, eBi, eCall, eM, eSl, oNo, oSome, eLc, eDc, eDis2, prs, eMk_eq, eMe_eq, eFs, fsA, eFmt, eFmtR, iSeq, iR1, it_tup, it_fro, eFld_eq, bV, bVC, bB, bNot, bAnd, bOr, bYes, gNm, gTup, gTs, lNil, lCons, new_f, new_t, frz_l, frz_d, wipeA, truA, tyA, List.getElem?_cons_zero, List.getElem?_cons_succ, List.set_cons_zero, List.set_cons_succ, List.cons_append, List.nil_append, List.append_nil, addA_i, addA_s, addA_t, add_fro, subA_i, modA_i, fdivA_i, powA_i, mulA_i, mulA_s, mul_fro, ltA_i, leA_i, gtA_i, geA_i, eqInt, eqStr, _root_.Q.len_str, len_fro, len_tup, sl_tup, sl_fro, ixFro, ixTup, tupleA_fro, tupleA_tup, listA_tup, listA_fro, intOfA, if_true, if_false, Bool.not_true, Bool.not_false, Bool.false_eq_true, decide_eq_true_eq, beq_self_eq_true, true_and, frow, cut1']
    exact q2
  have fl : (rows.map cnsA).flatten = rows.flatMap cnsA := rfl
  have lf := cnss_len hx
  have ii := cnss_int hx
  refine ⟨le_sz (by simp), _, rows.map cnsA, rfl, allL_map rows, by rw [fl]; omega, ?_⟩
  rw [fl]
  refine ⟨_, rows.flatMap cnsA, rfl, rfl, set_ints ii ?_, srt_ints ii (by omega), ?_⟩
  · refine Nat.lt_of_le_of_lt (nodup_len _ cs (dd_nodup _) fun x m => ?_) hu
    obtain ⟨y, my, mx⟩ := List.mem_flatMap.mp (dd_mem.mp m)
    exact hc y my x mx
  walk_at "w"
  (refine hR _ _ ?_; clear hR R)
  (refine seq_i fun R hR => ?_; try walk_at "w")
  obtain ⟨d, e, s, al⟩ := rows_okp hx hl
  rw [rows_pyd hx] at e; cases e
  refine repr_ok (rows_pyd hx) s (by decide) (by decide) ?_
  have h1 : (Str.ofString "Store(").length = 6 := by decide +kernel
  have h2 : (Str.ofString ")").length = 1 := by decide +kernel
  have h3 := s.2.2.1
  walk_at "w"
  exact ⟨by omega, by rw [len_app]; omega, le_sz (by simp), q⟩
theorem rest_okp (hx : ∀ x ∈ rows, Fc x) (hl : rows.length ≤ 60) : Okp 4 10000000 (restA rows) := by
  have k2 : ∀ x ∈ srt (ddA (rows.map nmA)), Okp 1 513 x := fun x m => by
    obtain ⟨y, my, rfl⟩ := List.mem_map.mp (srt_dd_mem.mp m)
    exact (hx y my).nm.fc.ok
  have l2 := srt_dd_len (rows.map nmA)
  have a2 : Okp 3 1000010 (.fro (srt (ddA (rows.map nmA)))) := Okp.fro (L := 62) k2 (by simp only [List.length_map] at l2; omega) (by decide) (by decide)
  have k3 : ∀ x ∈ srt (ddA (rows.flatMap cnsA)), Okp 0 100 x := fun x m => by
    obtain ⟨y, my, mx⟩ := List.mem_flatMap.mp (srt_dd_mem.mp m)
    obtain ⟨w, cs, rfl, hw, hc, hl⟩ := hx y my
    obtain ⟨c, mc, rfl⟩ := List.mem_map.mp mx
    exact cn_ok (hc c mc)
  have l3 := srt_dd_len (rows.flatMap cnsA)
  have f3 := cnss_len hx
  have a3 : Okp 3 1000010 (.fro (srt (ddA (rows.flatMap cnsA)))) := Okp.fro (L := 250) k3 (by omega) (by decide) (by decide)
  have a5 : Okp 3 1000010 (.int rows.length) := Okp.int (W := 999947) (by
    have : ((rows.length : Int)).natAbs ≤ 62 := by omega
    exact Nat.lt_of_le_of_lt this (by decide))
  have a7 : Okp 3 1000010 (.str (txt rows)) := Okp.str (txt_as hx (by omega)) (by decide)
  refine Okp.fro (D := 3) (W := 1000010) (L := 4) (fun x m => ?_) (by simp) (by decide) (by decide)
  simp only [List.mem_cons, List.not_mem_nil, or_false] at m
  rcases m with rfl | rfl | rfl | rfl
  · exact a2
  · exact a3
  · exact a5
  · exact a7
/-- a store and its list -/
def Pq (cs : List A) (p : List A × List A) : Prop := (∀ x, x ∈ p.1 ↔ x ∈ p.2) ∧ (∀ x ∈ p.2, Fc x ∧ ∀ y ∈ cnsA x, y ∈ cs) ∧ srt (ddA p.2) = p.2 ∧ p.2.length ≤ 60
def sA (p : List A × List A) : A := stv p.1 p.2
def lA (p : List A × List A) : A := .fro p.2
theorem srt_emp (l : List A) : (srt (ddA l)).isEmpty = l.isEmpty := by
  cases l with
  | nil => simp [srt, ddA]
  | cons x l =>
    have : x ∈ srt (ddA (x :: l)) := srt_dd_mem.mpr (by simp)
    cases h : srt (ddA (x :: l)) with
    | nil => rw [h] at this; cases this
    | cons _ _ => rfl
theorem filt_emp {l : List A} {f : A → Bool} : (l.filter fun x => !f x).isEmpty = l.all f := by
  induction l with
  | nil => rfl
  | cons x l ih =>
    rw [List.filter_cons, List.all_cons]
    cases f x
    · simp
    · simpa using ih
theorem right_ok {KS : List (List A × List A)} (hK : ∀ p ∈ KS, Pq cs p) (lK : KS.length ≤ 4) (hu : cs.length < 63) (q : ∀ G', Ext G G' → Q (.bl true) G') : runF FT (n + 7) "_law_right" [.fro (KS.map sA), .fro (KS.map lA)] G Q X := by
  have := hz
  refine run_i [some (.fro (KS.map sA)), some (.fro (KS.map lA)), none, none, none, none, none, none, none, none, none] f_right rfl rfl ?_
  unfold t_right
  have lenS : ∀ {G : Gp} {Q : KA}, lenC pgcl (runF FT (n + 6)) [.fro (KS.map sA)] G Q = Q (.int (KS.map sA).length) G := fun {G Q} => by
    have : lenC pgcl (runF FT (n + 6)) [.fro (KS.map sA)] G Q = lenD [.fro (KS.map sA)] G Q := rfl
    rw [this, len_fro]
  (refine seq_i fun R hR => ?_; try walk_at "w")
  rw [lenS]
  simp only [sSet, sIf, sNx, sRet, sRetN, sEx, sFor, sPar, sFldA, eVar, eC, eBin, eNot, eAnd, eOr, eIf, eTup, eLst, eDct0, eBi, eCall, eM, eSl, oNo, oSome, eLc, eDc, eDis2, prs, eMk_eq, eMe_eq, eFs, fsA, eFmt, eFmtR, iSeq, iR1, it_tup, it_fro, eFld_eq, bV, bVC, bB, bNot, bAnd, bOr, bYes, gNm, gTup, gTs, lNil, lCons, new_f, new_t, frz_l, frz_d, wipeA, truA, tyA, List.getElem?_cons_zero, List.getElem?_cons_succ, List.set_cons_zero, List.set_cons_succ, List.cons_append, List.nil_append, List.append_nil, addA_i, addA_s, addA_t, add_fro, subA_i, modA_i, fdivA_i, powA_i, mulA_i, mulA_s, mul_fro, ltA_i, leA_i, gtA_i, geA_i, eqInt, eqStr, _root_.Q.len_str, len_fro, len_tup, sl_tup, sl_fro, ixFro, ixTup, tupleA_fro, tupleA_tup, listA_tup, listA_fro, intOfA, if_true, if_false, Bool.not_true, Bool.not_false, Bool.false_eq_true, decide_eq_true_eq, beq_self_eq_true, true_and, List.length_map]
  refine ⟨by omega, by omega, ?_⟩
  refine for_ix (fun _ ς G' => ∃ x2 x3 x4 x5 x6 x7 x8 x9 x10, ς = [some (.fro (KS.map sA)), some (.fro (KS.map lA)), x2, x3, x4, x5, x6, x7, x8, x9, x10] ∧ Ext G G') (fun _ _ _ _ => trivial) _ 0 _ _ ?_ ⟨_, _, _, _, _, _, _, _, _, rfl, Ext.refl⟩ ?_
  · rintro k y my ς G2 ⟨x2, x3, x4, x5, x6, x7, x8, x9, x10, rfl, e2⟩ D' nx _ rt ex _
    obtain ⟨kk, hk, rfl⟩ : ∃ kk : Nat, kk < KS.length ∧ y = .int kk := by
      have := List.mem_of_getElem? my
      simp only [List.mem_map, List.mem_range] at this
      obtain ⟨z, hz, rfl⟩ := this
      exact ⟨z, by omega, rfl⟩
    obtain ⟨p, mp, ep⟩ := atI_mem (xs := KS) (i := (kk : Int)) (by omega) (by omega)
    obtain ⟨kp, fp, np, lp⟩ := hK p mp
    have F : ∀ x ∈ p.2, Fc x := fun x m => (fp x m).1
    have aS : ∀ {G : Gp} {Q : KA}, ixD (.fro (KS.map sA)) (.int (kk : Int)) G Q = Q (stv p.1 p.2) G := fun {G Q} => by rw [ixFro, at_map ep]; rfl
    have aL : ∀ {G : Gp} {Q : KA}, ixD (.fro (KS.map lA)) (.int (kk : Int)) G Q = Q (.fro p.2) G := fun {G Q} => by rw [ixFro, at_map ep]; rfl
    have kkr : ∀ x ∈ p.1, KR x := fun x m => (F x ((kp x).mp m)).kr
    walk_at "w"
    refine seq_i fun R1 h1 => ?_
    simp only [sSet, eMe_eq, eBin, eVar, List.getElem?_cons_zero, List.getElem?_cons_succ, List.set_cons_zero, List.set_cons_succ, aS]
    rw [me_st m_sfacts rfl]
    walk_at "w"
    refine st_facts_ok f_C f_sfacts fun p1 hp1 => h1 _ _ ?_
    clear h1 R1
    have n1 : G p1 = none := by
      cases z : G p1 with
      | none => rfl
      | some o => have := e2 p1 o z; rw [hp1] at this; cases this
    have e3 := e2.trans (Ext.new (o := .lst p.2) hp1)
    have g1 : up G2 p1 (.lst p.2) p1 = some (.lst p.2) := up_same
    generalize up G2 p1 (.lst p.2) = G3 at e3 g1 ⊢
    obtain ⟨d, ed, sd, ad⟩ := rows_okp F lp
    rw [rows_pyd F] at ed; cases ed
    refine seq_i fun R1 h1 => ?_
    simp only [sIf, sNx, bOr, bNot, bV, bB, eCall, eBi, lCons, lNil, eBin, eVar, eLst, new_f, frz_l, List.getElem?_cons_zero, List.getElem?_cons_succ, aS, aL]
    refine alike_ok2 (n := n + 5) f_alike (dt_lst g1 (.of (rows_pyd F))) (.of (rows_pyd F)) sd (by decide) (by decide) ad ?_
    simp only [sSet, sIf, sNx, sRet, sRetN, sEx, sFor, sPar, sFldA, eVar, eC, eBin, eNot, eAnd, eOr, eIf, eTup, eLst, eDct0, eBi, eCall, eM, eSl, oNo, oSome, eLc, eDc, eDis2, prs, eMk_eq, eMe_eq, eFs, fsA, eFmt, eFmtR, iSeq, iR1, it_tup, it_fro, eFld_eq, bV, bVC, bB, bNot, bAnd, bOr, bYes, gNm, gTup, gTs, lNil, lCons, new_f, new_t, frz_l, frz_d, wipeA, truA, tyA, List.getElem?_cons_zero, List.getElem?_cons_succ, List.set_cons_zero, List.set_cons_succ, List.cons_append, List.nil_append, List.append_nil, addA_i, addA_s, addA_t, add_fro, subA_i, modA_i, fdivA_i, powA_i, mulA_i, mulA_s, mul_fro, ltA_i, leA_i, gtA_i, geA_i, eqInt, eqStr, _root_.Q.len_str, len_fro, len_tup, sl_tup, sl_fro, ixFro, ixTup, tupleA_fro, tupleA_tup, listA_tup, listA_fro, intOfA, if_true, if_false, Bool.not_true, Bool.not_false, Bool.false_eq_true, decide_eq_true_eq, beq_self_eq_true, true_and, boolC]
    refine truC_st (n := n + 5) m_bool f_C f_bool ⟨by simp, ?_⟩
    refine eq_rows F (by simp) ?_
    have er : rowsEq p.2 [] = p.2.isEmpty := by cases p.2 <;> simp [rowsEq, PyData.eqv, PyData.eqvAll]
    rw [er, eq_bl]
    simp only [if_true, beq_self_eq_true, Bool.not_true, Bool.false_eq_true, if_false]
    refine h1 _ _ ?_
    clear h1 R1
    refine seq_i fun R1 h1 => ?_
    simp only [sSet, eLst, lCons, lNil, eMe_eq, eBi, eBin, eVar, gNm, List.getElem?_cons_zero, List.getElem?_cons_succ, List.set_cons_zero, List.set_cons_succ, aS]
    rw [me_st m_snames rfl]
    refine st_names_ok f_C f_snames F (by omega) fun p2 hp2 => ?_
    have n2 : G p2 = none := by
      cases z : G p2 with
      | none => rfl
      | some o => have := e3 p2 o z; rw [hp2] at this; cases this
    have p12 : p1 ≠ p2 := fun z => by subst z; rw [hp2] at g1; cases g1
    have x4 := Ext.new (o := .lst (srt (ddA (p.2.map nmA)))) hp2
    have e4 := e3.trans x4
    have g14 := x4 _ _ g1
    have g2 : up G3 p2 (.lst (srt (ddA (p.2.map nmA)))) p2 = some (.lst (srt (ddA (p.2.map nmA)))) := up_same
    clear x4
    generalize up G3 p2 (.lst (srt (ddA (p.2.map nmA)))) = G4 at e4 g14 g2 ⊢
    rw [me_st m_scons rfl]
    refine st_constants_ok f_C f_scons F (by omega) fun G5 x5 => ?_
    have e5 := e4.trans x5
    have g15 := x5 _ _ g14
    have g25 := x5 _ _ g2
    walk_at "w"
    refine lenC_st (n := n + 5) m_len f_C f_len (by omega) ?_
    refine reprC_st (n := n + 5) m_repr f_C f_repr (rows_pyd F) sd (by decide) (by decide) ⟨le_sz (by simp), h1 _ _ ?_⟩
    clear h1 R1
    obtain ⟨d2, ed2, sd2, ad2⟩ := rest_okp F lp
    have dt2 : Dt G5 (.fro [.ref p2, .fro (srt (ddA (p.2.flatMap cnsA))), .int p.2.length, .str (stT (.list (p.2.map dOf)))]) d2 := by
      have z : Dt G5 (restA p.2) d2 := .of ed2
      unfold restA at z
      cases z with
      | fro z =>
        cases z with
        | cons z1 z => exact .fro (.cons (dt_lst g25 z1) z)
    refine seq_i fun R1 h1 => ?_
    simp only [sIf, sNx, bNot, bV, eCall, lCons, lNil, eBin, eVar, List.getElem?_cons_zero, List.getElem?_cons_succ, List.set_cons_zero, List.set_cons_succ, aL]
    refine rest_ok (n := n + 5) F lp hu (fun x m => (fp x m).2) ?_
    refine alike_ok2 (n := n + 5) f_alike dt2 (.of ed2) sd2 (by decide) (by decide) ad2 ?_
    walk_at "w"
    refine h1 _ _ ?_
    clear h1 R1
    refine seq_i fun R1 h1 => ?_
    simp only [sIf, sNx, bB, eBin, eLc, iSeq, eVar, eC, eLst, lNil, List.getElem?_cons_zero, List.getElem?_cons_succ, ixFro, atK, at0]
    simp only [itOf, g25]
    refine lc_none (fun G' => G' = G5) (fun G' e => by subst e; exact g25) _ G5 rfl ?_ ?_
    · rintro nm mn G' rfl Qb qb
      obtain ⟨z, mz, rfl⟩ := List.mem_map.mp (srt_dd_mem.mp mn)
      have hn := (F z mz).nm
      simp only [bB, eBin, eMe_eq, eLc, iSeq, eVar, lCons, lNil, wipeA, List.getElem?_cons_zero, List.getElem?_cons_succ, List.set_cons_zero, List.set_cons_succ, aS, aL]
      rw [me_st m_sof rfl]
      refine st_of_ok f_C f_sof F (by omega) hn ?_
      walk_at "w"
      refine lc_filt (p := fun x => nmEq x (nmA z)) (by simp [wipeA]) trivial p.2 [] ?_ (by simp only [List.length_nil]; omega) ?_
      · intro x mx Q3 q3
        obtain ⟨w, cs, rfl, hw, hc, hl⟩ := id (F x mx)
        simp only [sSet, sIf, sNx, sRet, sRetN, sEx, sFor, sPar, sFldA, eVar, eC, eBin, eNot, eAnd, eOr, eIf, eTup, eLst, eDct0, eBi, eCall, eM, eSl, oNo, oSome, eLc, eDc, eDis2, prs, eMk_eq, eMe_eq, eFs, fsA, eFmt, eFmtR, iSeq, iR1, it_tup, it_fro, eFld_eq, bV, bVC, bB, bNot, bAnd, bOr, bYes, gNm, gTup, gTs, lNil, lCons, new_f, new_t, frz_l, frz_d, wipeA, truA, tyA, List.getElem?_cons_zero, List.getElem?_cons_succ, List.set_cons_zero, List.set_cons_succ, List.cons_append, List.nil_append, List.append_nil, addA_i, addA_s, addA_t, add_fro, subA_i, modA_i, fdivA_i, powA_i, mulA_i, mulA_s, mul_fro, ltA_i, leA_i, gtA_i, geA_i, eqInt, eqStr, _root_.Q.len_str, len_fro, len_tup, sl_tup, sl_fro, ixFro, ixTup, tupleA_fro, tupleA_tup, listA_tup, listA_fro, intOfA, if_true, if_false, Bool.not_true, Bool.not_false, Bool.false_eq_true, decide_eq_true_eq, beq_self_eq_true, true_and, frow, atK, at0]
        exact ⟨le_sz (by simp), eq_nm hn (F _ mx) q3⟩
      · have Ff : ∀ x ∈ p.2.filter fun x => nmEq x (nmA z), Fc x := fun x m => F x (List.mem_filter.mp m).1
        walk_at "w"
        refine eq_rows Ff Ff ?_
        rw [rowsEq_refl Ff]
        exact qb _ rfl
    rintro G' rfl
    walk_at "w"
    refine ⟨by simp, eq_rows (by simp) (by simp) ?_⟩
    rw [rowsEq_refl (by simp)]
    simp only [if_true, Bool.not_true, Bool.false_eq_true, if_false]
    refine h1 _ _ ?_
    clear h1 R1
    refine seq_i fun R1 h1 => ?_
    simp only [sSet, sIf, sNx, sRet, sRetN, sEx, sFor, sPar, sFldA, eVar, eC, eBin, eNot, eAnd, eOr, eIf, eTup, eLst, eDct0, eBi, eCall, eM, eSl, oNo, oSome, eLc, eDc, eDis2, prs, eMk_eq, eMe_eq, eFs, fsA, eFmt, eFmtR, iSeq, iR1, it_tup, it_fro, eFld_eq, bV, bVC, bB, bNot, bAnd, bOr, bYes, gNm, gTup, gTs, lNil, lCons, new_f, new_t, frz_l, frz_d, wipeA, truA, tyA, List.getElem?_cons_zero, List.getElem?_cons_succ, List.set_cons_zero, List.set_cons_succ, List.cons_append, List.nil_append, List.append_nil, addA_i, addA_s, addA_t, add_fro, subA_i, modA_i, fdivA_i, powA_i, mulA_i, mulA_s, mul_fro, ltA_i, leA_i, gtA_i, geA_i, eqInt, eqStr, _root_.Q.len_str, len_fro, len_tup, sl_tup, sl_fro, ixFro, ixTup, tupleA_fro, tupleA_tup, listA_tup, listA_fro, intOfA, if_true, if_false, Bool.not_true, Bool.not_false, Bool.false_eq_true, decide_eq_true_eq, beq_self_eq_true, true_and, g15]
    refine ⟨by simp, le_sz (by simp), p1, _, _, rfl, rfl, g15, by omega, h1 _ _ ?_⟩
    clear h1 R1
    have g26 : up G' p1 (.lst (p.2 ++ [.tup [.str (Str.ofString "x")]])) p2 = some (.lst (srt (ddA (p.2.map nmA)))) := by rw [up_ne (Ne.symm p12)]; exact g25
    have e6 : Ext G (up G' p1 (.lst (p.2 ++ [.tup [.str (Str.ofString "x")]]))) := fun a o e => by rw [up_ne (ne_fresh e n1)]; exact e5 a o e
    generalize up G' p1 (.lst (p.2 ++ [.tup [.str (Str.ofString "x")]])) = G6 at g26 e6 ⊢
    refine seq_i fun R1 h1 => ?_
    simp only [sEx, eM, eBin, eVar, eC, lNil, List.getElem?_cons_zero, List.getElem?_cons_succ, ixFro, atK, at0, tyA, g26]
    refine ⟨by simp, p2, _, rfl, rfl, g26, h1 _ _ ?_⟩
    clear h1 R1
    have e7 : Ext G (up G6 p2 (.lst (srt (ddA (p.2.map nmA))).reverse)) := fun a o e => by rw [up_ne (ne_fresh e n2)]; exact e6 a o e
    generalize up G6 p2 (.lst (srt (ddA (p.2.map nmA))).reverse) = G7 at e7 ⊢
    refine seq_i fun R1 h1 => ?_
    walk_at "w"
    rw [lenS]
    simp only [sSet, sIf, sNx, sRet, sRetN, sEx, sFor, sPar, sFldA, eVar, eC, eBin, eNot, eAnd, eOr, eIf, eTup, eLst, eDct0, eBi, eCall, eM, eSl, oNo, oSome, eLc, eDc, eDis2, prs, eMk_eq, eMe_eq, eFs, fsA, eFmt, eFmtR, iSeq, iR1, it_tup, it_fro, eFld_eq, bV, bVC, bB, bNot, bAnd, bOr, bYes, gNm, gTup, gTs, lNil, lCons, new_f, new_t, frz_l, frz_d, wipeA, truA, tyA, List.getElem?_cons_zero, List.getElem?_cons_succ, List.set_cons_zero, List.set_cons_succ, List.cons_append, List.nil_append, List.append_nil, addA_i, addA_s, addA_t, add_fro, subA_i, modA_i, fdivA_i, powA_i, mulA_i, mulA_s, mul_fro, ltA_i, leA_i, gtA_i, geA_i, eqInt, eqStr, _root_.Q.len_str, len_fro, len_tup, sl_tup, sl_fro, ixFro, ixTup, tupleA_fro, tupleA_tup, listA_tup, listA_fro, intOfA, if_true, if_false, Bool.not_true, Bool.not_false, Bool.false_eq_true, decide_eq_true_eq, beq_self_eq_true, true_and, List.length_map]
    refine ⟨by omega, by omega, ?_⟩
    refine for_ix (fun _ ς G' => ∃ x3 x4 x5 x6 x7 x8 x9 x10, ς = [some (.fro (KS.map sA)), some (.fro (KS.map lA)), some (.int (kk : Int)), x3, x4, x5, x6, x7, x8, x9, x10] ∧ Ext G G') (fun _ _ _ _ => trivial) _ 0 _ _ ?_ ⟨_, _, _, _, _, _, _, _, rfl, e7⟩ ?_
    · rintro j y2 my2 ς G8 ⟨x3, x4, x5, x6, x7, x8, x9, x10, rfl, e8⟩ D2 nx2 _ rt2 ex2 _
      obtain ⟨jj, hj, rfl⟩ : ∃ kk : Nat, kk < KS.length ∧ y2 = .int kk := by
        have := List.mem_of_getElem? my2
        simp only [List.mem_map, List.mem_range] at this
        obtain ⟨z, hz, rfl⟩ := this
        exact ⟨z, by omega, rfl⟩
      obtain ⟨r, mr, er⟩ := atI_mem (xs := KS) (i := (jj : Int)) (by omega) (by omega)
      obtain ⟨kr, fr, nr, lr⟩ := hK r mr
      have Fr : ∀ x ∈ r.2, Fc x := fun x m => (fr x m).1
      have bS : ∀ {G : Gp} {Q : KA}, ixD (.fro (KS.map sA)) (.int (jj : Int)) G Q = Q (stv r.1 r.2) G := fun {G Q} => by rw [ixFro, at_map er]; rfl
      have bL : ∀ {G : Gp} {Q : KA}, ixD (.fro (KS.map lA)) (.int (jj : Int)) G Q = Q (.fro r.2) G := fun {G Q} => by rw [ixFro, at_map er]; rfl
      have rkr : ∀ x ∈ r.1, KR x := fun x m => (Fr x ((kr x).mp m)).kr
      walk_at "w"
      refine seq_i fun R2 h2 => ?_
      simp only [sSet, eLc, iSeq, eBin, eVar, gNm, List.getElem?_cons_zero, List.getElem?_cons_succ, List.set_cons_zero, List.set_cons_succ, aL, it_fro]
      refine lc_filt (p := fun x => !decide (x ∈ r.2)) (by simp [wipeA]) trivial p.2 [] ?_ (by simp only [List.length_nil]; omega) ?_
      · intro x mx Q3 q3
        simp only [bB, eBin, eVar, wipeA, List.getElem?_cons_zero, List.getElem?_cons_succ, List.set_cons_zero, List.set_cons_succ, bL]
        exact in_rows (F x mx) Fr (by simpa using q3)
      walk_at "w"
      refine h2 _ _ ?_
      clear h2 R2
      have Fl : ∀ x ∈ p.2.filter fun x => !decide (x ∈ r.2), Fc x := fun x m => F x (List.mem_filter.mp m).1
      refine seq_i fun R2 h2 => ?_
      simp only [sSet, eLst, lCons, lNil, eMe_eq, eBi, eBin, eVar, gNm, List.getElem?_cons_zero, List.getElem?_cons_succ, List.set_cons_zero, List.set_cons_succ, aS]
      rw [me_st m_within rfl]
      simp only [bS]
      refine st_within_ok (n := n + 5) f_F f_within F (by omega) rkr ?_
      refine eqC_st (n := n + 5) f_C m_eq f_eq F Fr ?_
      refine opC_st m_sub (st_and_ok (n := n + 1) f_F f_sub F (by omega) rkr fun v V => ?_)
      obtain ⟨kl, rfl, _, mkl⟩ := V
      simp only [sSet, sIf, sNx, sRet, sRetN, sEx, sFor, sPar, sFldA, eVar, eC, eBin, eNot, eAnd, eOr, eIf, eTup, eLst, eDct0, eBi, eCall, eM, eSl, oNo, oSome, eLc, eDc, eDis2, prs, eMk_eq, eMe_eq, eFs, fsA, eFmt, eFmtR, iSeq, iR1, it_tup, it_fro, eFld_eq, bV, bVC, bB, bNot, bAnd, bOr, bYes, gNm, gTup, gTs, lNil, lCons, new_f, new_t, frz_l, frz_d, wipeA, truA, tyA, List.getElem?_cons_zero, List.getElem?_cons_succ, List.set_cons_zero, List.set_cons_succ, List.cons_append, List.nil_append, List.append_nil, addA_i, addA_s, addA_t, add_fro, subA_i, modA_i, fdivA_i, powA_i, mulA_i, mulA_s, mul_fro, ltA_i, leA_i, gtA_i, geA_i, eqInt, eqStr, _root_.Q.len_str, len_fro, len_tup, sl_tup, sl_fro, ixFro, ixTup, tupleA_fro, tupleA_tup, listA_tup, listA_fro, intOfA, if_true, if_false, Bool.not_true, Bool.not_false, Bool.false_eq_true, decide_eq_true_eq, beq_self_eq_true, true_and, boolC]
      refine truC_st (n := n + 5) m_bool f_C f_bool ⟨le_sz (by simp), h2 _ _ ?_⟩
      clear h2 R2
      have w1 : (p.2.all fun x => decide (x ∈ r.1)) = (p.2.filter fun x => !decide (x ∈ r.2)).isEmpty := by
        rw [filt_emp]
        congr 1
        funext x
        rw [Bool.eq_iff_iff]; simp [kr x]
      have w2 : (srt (ddA (p.2.filter fun x => !decide (x ∈ r.1)))).isEmpty = (p.2.filter fun x => !decide (x ∈ r.2)).isEmpty := by
        rw [srt_emp]
        congr 2
        funext x
        rw [Bool.eq_iff_iff]; simp [kr x]
      rw [w1, w2]
      simp only [Bool.bne_false]
      refine seq_i fun R2 h2 => ?_
      simp only [sIf, sNx, bNot, bV, eCall, eLst, lCons, lNil, eBin, eVar, new_f, frz_l, List.getElem?_cons_zero, List.getElem?_cons_succ, List.set_cons_zero, List.set_cons_succ, aL, bL]
      have el : ∀ l : List A, rowsEq l [] = l.isEmpty := fun l => by cases l <;> simp [rowsEq, PyData.eqv, PyData.eqvAll]
      refine ⟨by simp, eq_rows Fl (by simp) (eq_rows F Fr ⟨by simp, eq_rows Fl (by simp) ⟨le_sz (by simp), ?_⟩⟩)⟩
      rw [el]
      simp only [Bool.false_eq_true, if_false, if_true]
      have ob : ∀ a b c : Bool, Okp 1 100 (.fro [.bl a, .bl b, .bl c]) := fun a b c => Okp.fro (D := 0) (W := 5) (L := 3) (fun x m => by
        simp only [List.mem_cons, List.not_mem_nil, or_false] at m
        rcases m with rfl | rfl | rfl <;> exact Okp.bl (W := 0)) (by simp) (by decide) (by decide)
      obtain ⟨d3, ed3, sd3, ad3⟩ := ob (p.2.filter fun x => !decide (x ∈ r.2)).isEmpty (rowsEq p.2 r.2) (!(p.2.filter fun x => !decide (x ∈ r.2)).isEmpty)
      refine alike_ok2 (n := n + 5) f_alike (.of ed3) (.of ed3) sd3 (by decide) (by decide) ad3 ?_
      walk_at "w"
      exact h2 _ _ (nx2 _ _ ⟨_, _, _, _, _, _, _, _, rfl, e8⟩)
    rintro ς G8 ⟨x3, x4, x5, x6, x7, x8, x9, x10, rfl, e8⟩
    exact h1 _ _ (nx _ _ ⟨_, _, _, _, _, _, _, _, _, rfl, e8⟩)
  rintro ς G2 ⟨x2, x3, x4, x5, x6, x7, x8, x9, x10, rfl, e2⟩
  (refine hR _ _ ?_; clear hR R)
  (refine seq_i fun R hR => ?_; try walk_at "w")
  exact q G2 e2
/-- the new facts of a step -/
def nwF (way : Int) (p r : List A × List A) (fs : List A) : List A := if way = 0 then p.2 ++ r.2 else if way = 1 then p.2.filter (fun x => decide (x ∈ r.2)) else if way = 2 then p.2.filter (fun x => !decide (x ∈ r.2)) else if way = 3 then [] else fs
theorem srt_filt {l : List A} {f : A → Bool} (h : ∀ x ∈ l, Fc x) (hl : l.length ≤ 1000) (e : srt (ddA l) = l) : srt (ddA (l.filter f)) = l.filter f := by
  have ok : SrtOk l := srt_rows (fun x m => (h x m).kr) (le_sz hl)
  have nd : l.Nodup := by rw [← e]; exact srt_dd_nodup l
  have nf : (l.filter f).Nodup := nd.sublist List.filter_sublist
  have ed : ddA (l.filter f) = l.filter f := by
    have go : ∀ (xs acc : List A), (acc ++ xs).Nodup → xs.foldl ddF acc = acc ++ xs := by
      intro xs
      induction xs with
      | nil => intro acc _; simp
      | cons x xs ih =>
        intro acc hn
        have : x ∉ acc := fun m => by
          have := (List.nodup_append.mp hn).2.2
          exact this x m x (by simp) rfl
        rw [List.foldl_cons, ddF, if_neg this, ih _ (by simpa using hn)]
        simp
    exact go _ [] (by simpa using nf)
  rw [ed]
  have ps : l.Pairwise fun a b => aLe a b = true := by
    rw [← e]
    have okd : SrtOk (ddA l) := ok.sub (fun y m => dd_mem.mp m) (Nat.le_trans (dd_le l) ok.sz)
    exact List.pairwise_mergeSort aLe_total.trans (fun a b => by simpa using aLe_total.total a b) (ddA l)
  exact List.mergeSort_of_pairwise (ps.sublist List.filter_sublist)
theorem done_ok {way : Int} {p r : List A × List A} (w0 : 0 ≤ way) (hp : Pq cs p) (hr : Pq cs r) (hf : ∀ x ∈ fs, Fc x) (lf : fs.length ≤ 100) (q : ∀ ks, (∀ x, x ∈ ks ↔ x ∈ nwF way p r fs) → Q (stv ks (srt (ddA (nwF way p r fs)))) G) :
    runF FT (n + 6) "_law_done" [.int way, stv p.1 p.2, stv r.1 r.2, .fro fs] G Q X := by
  have Fp : ∀ x ∈ p.2, Fc x := fun x m => (hp.2.1 x m).1
  have Fr : ∀ x ∈ r.2, Fc x := fun x m => (hr.2.1 x m).1
  have rkr : ∀ x ∈ r.1, KR x := fun x m => (Fr x ((hr.1 x).mp m)).kr
  have lp := hp.2.2.2
  have lr := hr.2.2.2
  refine run_i [some (.int way), some (stv p.1 p.2), some (stv r.1 r.2), some (.fro fs)] f_done rfl rfl ?_
  unfold t_done
  (refine seq_i fun R hR => ?_; try walk_at "w")
  by_cases h0 : way = 0
  · have : (way == 0) = true := by simpa using h0
    rw [if_pos this]
    refine seq_i fun R2 _ => ?_
    walk_at "w"
    refine opC_st m_or (st_or_ok (n := n) f_F f_or Fp Fr (by omega) fun v V => ?_)
    obtain ⟨ks, rfl, _, mk⟩ := V
    have e : nwF way p r fs = p.2 ++ r.2 := by simp [nwF, h0]
    rw [e] at q
    exact q ks mk
  · rw [if_neg (by simpa using h0)]
    (refine hR _ _ ?_; clear hR R)
    (refine seq_i fun R hR => ?_; try walk_at "w")
    by_cases h1 : way = 1
    · have : (way == 1) = true := by simpa using h1
      rw [if_pos this]
      refine seq_i fun R2 _ => ?_
      walk_at "w"
      refine opC_st m_and (st_and_ok (n := n) f_F f_and Fp (by omega) rkr fun v V => ?_)
      obtain ⟨ks, rfl, _, mk⟩ := V
      have e : nwF way p r fs = p.2.filter fun x => if false = true then !decide (x ∈ r.1) else decide (x ∈ r.1) := by
        have z : nwF way p r fs = p.2.filter fun x => decide (x ∈ r.2) := by simp [nwF, h1]
        rw [z]
        congr 1
        funext x
        rw [Bool.eq_iff_iff]; simp [hr.1 x]
      rw [e] at q
      exact q ks mk
    · rw [if_neg (by simpa using h1)]
      (refine hR _ _ ?_; clear hR R)
      (refine seq_i fun R hR => ?_; try walk_at "w")
      by_cases h2 : way = 2
      · have : (way == 2) = true := by simpa using h2
        rw [if_pos this]
        refine seq_i fun R2 _ => ?_
        walk_at "w"
        refine opC_st m_sub (st_and_ok (n := n) f_F f_sub Fp (by omega) rkr fun v V => ?_)
        obtain ⟨ks, rfl, _, mk⟩ := V
        have e : nwF way p r fs = p.2.filter fun x => if true = true then !decide (x ∈ r.1) else decide (x ∈ r.1) := by
          have z : nwF way p r fs = p.2.filter fun x => !decide (x ∈ r.2) := by simp [nwF, h2]
          rw [z]
          congr 1
          funext x
          rw [Bool.eq_iff_iff]; simp [hr.1 x]
        rw [e] at q
        exact q ks mk
      · rw [if_neg (by simpa using h2)]
        (refine hR _ _ ?_; clear hR R)
        (refine seq_i fun R hR => ?_; try walk_at "w")
        by_cases h3 : way = 3
        · have : (way == 3) = true := by simpa using h3
          rw [if_pos this]
          refine mk_ok (n := n + 1) (xs := []) f_F (.inr (.inl rfl)) (by simp) (by simp) fun v V => ?_
          obtain ⟨ks, rfl, _, mk⟩ := V
          have e : nwF way p r fs = [] := by simp [nwF, h3]
          rw [e] at q
          exact q ks mk
        · rw [if_neg (by simpa using h3)]
          refine mk_ok (n := n + 1) f_F (.inl rfl) hf (by omega) fun v V => ?_
          obtain ⟨ks, rfl, _, mk⟩ := V
          have e : nwF way p r fs = fs := by simp [nwF, h0, h1, h2, h3]
          rw [e] at q
          exact q ks mk
theorem due_ok {way : Int} {p r : List A × List A} (hp : Pq cs p) (hr : Pq cs r) (hf : ∀ x ∈ fs, Fc x) (lf : fs.length ≤ 20) (ld : (ddA (p.2 ++ r.2)).length < 63) (q : Q (.fro (srt (ddA (nwF way p r fs)))) G) :
    runF FT (n + 1) "_law_due" [.int way, .fro p.2, .fro r.2, .fro fs] G Q X := by
  have := hz
  have Fp : ∀ x ∈ p.2, Fc x := fun x m => (hp.2.1 x m).1
  have Fr : ∀ x ∈ r.2, Fc x := fun x m => (hr.2.1 x m).1
  have lp := hp.2.2.2
  have lr := hr.2.2.2
  refine run_i [some (.int way), some (.fro p.2), some (.fro r.2), some (.fro fs), none] f_due rfl rfl ?_
  unfold t_due
  have oA : ∀ {G : Gp} {Q : KA} {d : Str}, opC d (addA false) pgcl (runF FT n) (.fro p.2) (.fro r.2) G Q = addA false (.fro p.2) (.fro r.2) G Q := fun {G Q d} => rfl
  have iC : ∀ {G : Gp} {Q : KA} {x : A} {ng : Bool}, inC ng pgcl (runF FT n) x (.fro r.2) G Q = inD ng x (.fro r.2) G Q := fun {G Q x ng} => rfl
  (refine seq_i fun R hR => ?_; try walk_at "w")
  by_cases h0 : way = 0
  · have : (way == 0) = true := by simpa using h0
    rw [if_pos this]
    refine seq_i fun R2 _ => ?_
    simp only [sSet, sIf, sNx, sRet, sRetN, sEx, sFor, sPar, sFldA, eVar, eC, eBin, eNot, eAnd, eOr, eIf, eTup, eLst, eDct0, eBi, eCall, eM, eSl, oNo, oSome, eLc, eDc, eDis2, prs, eMk_eq, eMe_eq, eFs, fsA, eFmt, eFmtR, iSeq, iR1, it_tup, it_fro, eFld_eq, bV, bVC, bB, bNot, bAnd, bOr, bYes, gNm, gTup, gTs, lNil, lCons, new_f, new_t, frz_l, frz_d, wipeA, truA, tyA, List.getElem?_cons_zero, List.getElem?_cons_succ, List.set_cons_zero, List.set_cons_succ, List.cons_append, List.nil_append, List.append_nil, addA_i, addA_s, addA_t, add_fro, subA_i, modA_i, fdivA_i, powA_i, mulA_i, mulA_s, mul_fro, ltA_i, leA_i, gtA_i, geA_i, eqInt, eqStr, _root_.Q.len_str, len_fro, len_tup, sl_tup, sl_fro, ixFro, ixTup, tupleA_fro, tupleA_tup, listA_tup, listA_fro, intOfA, if_true, if_false, Bool.not_true, Bool.not_false, Bool.false_eq_true, decide_eq_true_eq, beq_self_eq_true, true_and, oA]
    have kr : ∀ x ∈ p.2 ++ r.2, KR x := fun x m => ((List.mem_append.mp m).elim (Fp x) (Fr x)).kr
    refine ⟨le_sz (by omega), _, p.2 ++ r.2, rfl, rfl, set_rows kr ld, srt_rows kr (le_sz (by rw [List.length_append]; omega)), ?_⟩
    have e : nwF way p r fs = p.2 ++ r.2 := by simp [nwF, h0]
    rw [e] at q
    exact q
  · rw [if_neg (by simpa using h0)]
    (refine hR _ _ ?_; clear hR R)
    (refine seq_i fun R hR => ?_; try walk_at "w")
    by_cases h1 : way = 1
    · have : (way == 1) = true := by simpa using h1
      rw [if_pos this]
      refine seq_i fun R2 _ => ?_
      walk_at "w"
      refine lc_filt (p := fun x => decide (x ∈ r.2)) (by simp [wipeA]) trivial p.2 [] ?_ (by simp only [List.length_nil]; omega) ?_
      · intro x mx Q3 q3
        simp only [sSet, sIf, sNx, sRet, sRetN, sEx, sFor, sPar, sFldA, eVar, eC, eBin, eNot, eAnd, eOr, eIf, eTup, eLst, eDct0, eBi, eCall, eM, eSl, oNo, oSome, eLc, eDc, eDis2, prs, eMk_eq, eMe_eq, eFs, fsA, eFmt, eFmtR, iSeq, iR1, it_tup, it_fro, eFld_eq, bV, bVC, bB, bNot, bAnd, bOr, bYes, gNm, gTup, gTs, lNil, lCons, new_f, new_t, frz_l, frz_d, wipeA, truA, tyA, List.getElem?_cons_zero, List.getElem?_cons_succ, List.set_cons_zero, List.set_cons_succ, List.cons_append, List.nil_append, List.append_nil, addA_i, addA_s, addA_t, add_fro, subA_i, modA_i, fdivA_i, powA_i, mulA_i, mulA_s, mul_fro, ltA_i, leA_i, gtA_i, geA_i, eqInt, eqStr, _root_.Q.len_str, len_fro, len_tup, sl_tup, sl_fro, ixFro, ixTup, tupleA_fro, tupleA_tup, listA_tup, listA_fro, intOfA, if_true, if_false, Bool.not_true, Bool.not_false, Bool.false_eq_true, decide_eq_true_eq, beq_self_eq_true, true_and, iC]
        exact in_rows (Fp x mx) Fr (by simpa using q3)
      have e : srt (ddA (nwF way p r fs)) = p.2.filter fun x => decide (x ∈ r.2) := by
        have : nwF way p r fs = p.2.filter fun x => decide (x ∈ r.2) := by simp [nwF, h1]
        rw [this]
        exact srt_filt Fp (by omega) hp.2.2.1
      rw [e] at q
      exact q
    · rw [if_neg (by simpa using h1)]
      (refine hR _ _ ?_; clear hR R)
      (refine seq_i fun R hR => ?_; try walk_at "w")
      by_cases h2 : way = 2
      · have : (way == 2) = true := by simpa using h2
        rw [if_pos this]
        refine seq_i fun R2 _ => ?_
        walk_at "w"
        refine lc_filt (p := fun x => !decide (x ∈ r.2)) (by simp [wipeA]) trivial p.2 [] ?_ (by simp only [List.length_nil]; omega) ?_
        · intro x mx Q3 q3
          simp only [sSet, sIf, sNx, sRet, sRetN, sEx, sFor, sPar, sFldA, eVar, eC, eBin, eNot, eAnd, eOr, eIf, eTup, eLst, eDct0, eBi, eCall, eM, eSl, oNo, oSome, eLc, eDc, eDis2, prs, eMk_eq, eMe_eq, eFs, fsA, eFmt, eFmtR, iSeq, iR1, it_tup, it_fro, eFld_eq, bV, bVC, bB, bNot, bAnd, bOr, bYes, gNm, gTup, gTs, lNil, lCons, new_f, new_t, frz_l, frz_d, wipeA, truA, tyA, List.getElem?_cons_zero, List.getElem?_cons_succ, List.set_cons_zero, List.set_cons_succ, List.cons_append, List.nil_append, List.append_nil, addA_i, addA_s, addA_t, add_fro, subA_i, modA_i, fdivA_i, powA_i, mulA_i, mulA_s, mul_fro, ltA_i, leA_i, gtA_i, geA_i, eqInt, eqStr, _root_.Q.len_str, len_fro, len_tup, sl_tup, sl_fro, ixFro, ixTup, tupleA_fro, tupleA_tup, listA_tup, listA_fro, intOfA, if_true, if_false, Bool.not_true, Bool.not_false, Bool.false_eq_true, decide_eq_true_eq, beq_self_eq_true, true_and, iC]
          exact in_rows (Fp x mx) Fr (by simpa using q3)
        have e : srt (ddA (nwF way p r fs)) = p.2.filter fun x => !decide (x ∈ r.2) := by
          have : nwF way p r fs = p.2.filter fun x => !decide (x ∈ r.2) := by simp [nwF, h2]
          rw [this]
          exact srt_filt Fp (by omega) hp.2.2.1
        rw [e] at q
        exact q
      · rw [if_neg (by simpa using h2)]
        (refine hR _ _ ?_; clear hR R)
        (refine seq_i fun R hR => ?_; try walk_at "w")
        by_cases h3 : way = 3
        · have : (way == 3) = true := by simpa using h3
          rw [if_pos this]
          have e : srt (ddA (nwF way p r fs)) = [] := by simp [nwF, h3, srt, ddA]
          rw [e] at q
          exact ⟨by simp, q⟩
        · rw [if_neg (by simpa using h3)]
          have e : nwF way p r fs = fs := by simp [nwF, h0, h1, h2, h3]
          rw [e] at q
          have d1 := dd_le fs
          exact ⟨_, fs, rfl, rfl, set_rows (fun x m => (hf x m).kr) (by omega), srt_rows (fun x m => (hf x m).kr) (le_sz (by omega)), q⟩
end
end G
/-! RL_k15: k15's law holds, the whole walk. -/
namespace G
open PySem PySem.Spec PyProof.Rows Q
local macro_rules | `(tactic| walk_at "w") => `(tactic| simp only [sSet, sIf, sNx, sRet, sRetN, sEx, sFor, sPar, sFldA, eVar, eC, eBin, eNot, eAnd, eOr, eIf, eTup, eLst, eDct0, eBi, eCall, eM, eSl, oNo, oSome, eLc, eDc, eDis2, prs, eMk_eq, eMe_eq, eFs, fsA, eFmt, eFmtR, iSeq, iR1, it_tup, it_fro, eFld_eq, bV, bVC, bB, bNot, bAnd, bOr, bYes, gNm, gTup, gTs, lNil, lCons, new_f, new_t, frz_l, frz_d, wipeA, truA, tyA, List.getElem?_cons_zero, List.getElem?_cons_succ, List.set_cons_zero, List.set_cons_succ, List.cons_append, List.nil_append, List.append_nil, addA_i, addA_s, addA_t, add_fro, subA_i, modA_i, fdivA_i, powA_i, mulA_i, mulA_s, mul_fro, ltA_i, leA_i, gtA_i, geA_i, eqInt, eqStr, _root_.Q.len_str, len_fro, len_tup, sl_tup, sl_fro, ixFro, ixTup, tupleA_fro, tupleA_tup, listA_tup, listA_fro, intOfA, if_true, if_false, Bool.not_true, Bool.not_false, Bool.false_eq_true, decide_eq_true_eq, beq_self_eq_true, true_and])
section
variable {n : Nat} {G : Gp} {b : Addr} {P : Int} {Q : KA} {X : KX} {fs nms rows ks cs vs : List A} {v : A}
theorem dd_nd {l : List A} (h : l.Nodup) : ddA l = l := by
  have go : ∀ (xs acc : List A), (acc ++ xs).Nodup → xs.foldl ddF acc = acc ++ xs := by
    intro xs
    induction xs with
    | nil => intro acc _; simp
    | cons x xs ih =>
      intro acc hn
      have : x ∉ acc := fun m => by
        have := (List.nodup_append.mp hn).2.2
        exact this x m x (by simp) rfl
      rw [List.foldl_cons, ddF, if_neg this, ih _ (by simpa using hn)]
      simp
  exact go _ [] (by simpa using h)
theorem srt_dd_idem (l : List A) : srt (ddA (srt (ddA l))) = srt (ddA l) := by
  rw [dd_nd (srt_dd_nodup l)]
  exact List.mergeSort_of_pairwise (List.pairwise_mergeSort aLe_total.trans (fun a b => by simpa using aLe_total.total a b) (ddA l))
/-- how many different facts any few of the lists hold between them -/
structure Inv (ls : List (List A)) (u f : Nat) : Prop where
  cov : ∀ sel : List (List A), (∀ l ∈ sel, l ∈ ls) → ∃ L : List A, L.length ≤ 8 * (u + sel.length) ∧ ∀ l ∈ sel, ∀ x ∈ l, x ∈ L
  tot : ∃ U : List A, U.length ≤ 16 + 6 * f ∧ ∀ l ∈ ls, ∀ x ∈ l, x ∈ U
theorem inv_init {a c : List A} (ha : a.length ≤ 8) (hc : c.length ≤ 8) : Inv [a, c] 0 0 := by
  refine ⟨fun sel hs => ⟨sel.flatten, ?_, fun l m x mx => List.mem_flatten.mpr ⟨l, m, mx⟩⟩, ⟨a ++ c, by rw [List.length_append]; omega, fun l m x mx => ?_⟩⟩
  · induction sel with
    | nil => simp
    | cons l sel ih =>
      have := ih fun z m => hs z (by simp [m])
      have hl := hs l (by simp)
      simp only [List.mem_cons, List.not_mem_nil, or_false] at hl
      simp only [List.flatten_cons, List.length_append, List.length_cons]
      rcases hl with rfl | rfl <;> omega
  · simp only [List.mem_cons, List.not_mem_nil, or_false] at m
    rcases m with rfl | rfl
    · exact List.mem_append.mpr (.inl mx)
    · exact List.mem_append.mpr (.inr mx)
theorem filt_lt {α : Type} {p : α → Bool} {l : List α} {x : α} (m : x ∈ l) (h : p x = false) : (l.filter p).length + 1 ≤ l.length := by
  induction l with
  | nil => cases m
  | cons y l ih =>
    rw [List.filter_cons]
    rcases List.mem_cons.mp m with rfl | m
    · rw [h]
      have := List.length_filter_le p l
      simp only [Bool.false_eq_true, if_false, List.length_cons]; omega
    · have := ih m
      cases p y <;> simp only [Bool.false_eq_true, if_false, if_true, List.length_cons] <;> omega
theorem inv_join {ls ls' : List (List A)} {u f : Nat} {P R N : List A} (h : Inv ls u f) (hP : P ∈ ls) (hR : R ∈ ls) (hN : ∀ x ∈ N, x ∈ P ∨ x ∈ R) (hl : ∀ l ∈ ls', l ∈ ls ∨ l = N) : Inv ls' (u + 1) f := by
  refine ⟨fun sel hs => ?_, ?_⟩
  · by_cases m : N ∈ sel
    · obtain ⟨L, h1, h2⟩ := h.cov (P :: R :: sel.filter fun l => decide (l ≠ N)) (fun l ml => by
        rcases List.mem_cons.mp ml with rfl | ml
        · exact hP
        rcases List.mem_cons.mp ml with rfl | ml
        · exact hR
        obtain ⟨m1, m2⟩ := List.mem_filter.mp ml
        exact (hl l (hs l m1)).resolve_right (by simpa using m2))
      have := filt_lt (p := fun l => decide (l ≠ N)) m (by simp)
      simp only [List.length_cons] at h1
      refine ⟨L, by omega, fun l ml x mx => ?_⟩
      by_cases e : l = N
      · subst e
        rcases hN x mx with z | z
        · exact h2 P (by simp) x z
        · exact h2 R (by simp) x z
      · exact h2 l (List.mem_cons_of_mem _ (List.mem_cons_of_mem _ (List.mem_filter.mpr ⟨ml, by simpa using e⟩))) x mx
    · obtain ⟨L, h1, h2⟩ := h.cov sel (fun l ml => (hl l (hs l ml)).resolve_right fun e => m (e ▸ ml))
      exact ⟨L, by omega, h2⟩
  · obtain ⟨U, h1, h2⟩ := h.tot
    refine ⟨U, h1, fun l ml x mx => ?_⟩
    rcases hl l ml with z | rfl
    · exact h2 l z x mx
    · rcases hN x mx with z | z
      · exact h2 P hP x z
      · exact h2 R hR x z
theorem inv_more {ls ls' : List (List A)} {u f : Nat} {N fs : List A} (h : Inv ls u f) (hN : ∀ x ∈ N, x ∈ fs) (lf : fs.length ≤ 6) (hl : ∀ l ∈ ls', l ∈ ls ∨ l = N) : Inv ls' u (f + 1) := by
  refine ⟨fun sel hs => ?_, ?_⟩
  · by_cases m : N ∈ sel
    · obtain ⟨L, h1, h2⟩ := h.cov (sel.filter fun l => decide (l ≠ N)) (fun l ml => by
        obtain ⟨m1, m2⟩ := List.mem_filter.mp ml
        exact (hl l (hs l m1)).resolve_right (by simpa using m2))
      have := filt_lt (p := fun l => decide (l ≠ N)) m (by simp)
      refine ⟨fs ++ L, by rw [List.length_append]; omega, fun l ml x mx => ?_⟩
      by_cases e : l = N
      · subst e
        exact List.mem_append.mpr (.inl (hN x mx))
      · exact List.mem_append.mpr (.inr (h2 l (List.mem_filter.mpr ⟨ml, by simpa using e⟩) x mx))
    · obtain ⟨L, h1, h2⟩ := h.cov sel (fun l ml => (hl l (hs l ml)).resolve_right fun e => m (e ▸ ml))
      exact ⟨L, by omega, h2⟩
  · obtain ⟨U, h1, h2⟩ := h.tot
    refine ⟨fs ++ U, by rw [List.length_append]; omega, fun l ml x mx => ?_⟩
    rcases hl l ml with z | rfl
    · exact List.mem_append.mpr (.inr (h2 l z x mx))
    · exact List.mem_append.mpr (.inl (hN x mx))
theorem inv_two {ls : List (List A)} {u f : Nat} {P R : List A} (h : Inv ls u f) (hP : P ∈ ls) (hR : R ∈ ls) (hu : u + f ≤ 11) : ∀ l : List A, (∀ x ∈ l, x ∈ P ∨ x ∈ R) → (ddA l).length ≤ 56 := by
  intro l hl
  obtain ⟨L, h1, h2⟩ := h.cov [P, R] (fun z m => by
    simp only [List.mem_cons, List.not_mem_nil, or_false] at m
    rcases m with rfl | rfl
    · exact hP
    · exact hR)
  obtain ⟨U, h3, h4⟩ := h.tot
  have a1 := nodup_len _ L (dd_nodup l) fun x m => (hl x (dd_mem.mp m)).elim (h2 P (by simp) x) (h2 R (by simp) x)
  have a2 := nodup_len _ U (dd_nodup l) fun x m => (hl x (dd_mem.mp m)).elim (h4 P hP x) (h4 R hR x)
  simp only [List.length_cons, List.length_nil] at h1
  omega
end
theorem cut_suf2 {α : Type} {xs : List α} {k : Int} (h0 : 0 ≤ k) : (cutA xs (some k) none).length = xs.length - k.toNat := by
  unfold cutA
  simp only [HT.sIx, List.length_take, List.length_drop]
  rw [if_neg (by omega)]; omega
theorem run_law : ∀ ns : List Int, ns.length ≤ 63 → _root_.Q.runF FT 50 "law" [.scr (ns.map _root_.Q.A.int)] (fun _ => none) (fun v _ => v = .bl true) (fun _ _ => False) := by
  intro ns _
  have := hz
  have := h60
  have := h59
  have e58 : (2 : Int) ^ 58 = 288230376151711744 := by decide
  refine run_i (n := 49) (k := 1) (s := 14) (t := t_law) [some (.scr (ns.map .int)), none, none, none, none, none, none, none, none, none, none, none, none, none] rfl rfl rfl ?_
  unfold t_law
  (refine seq_i fun R hR => ?_; try walk_at "w")
  refine bag_ok (n := 48) f_bag fun b G1 _ B1 _ => ?_
  (refine hR _ _ ?_; clear hR R)
  (refine seq_i fun R hR => ?_; try walk_at "w")
  refine ⟨by decide, by decide, ?_⟩
  refine for_ix (fun k ς G' => ∃ x2 x3 x4 x5 x6 x7 x8 x9 x10 x11 x12 x13, ς = [some (.scr (ns.map .int)), some (.ref b), x2, x3, x4, x5, x6, x7, x8, x9, x10, x11, x12, x13] ∧ Bag b (5000 * k) G') (fun _ _ _ _ => trivial) _ 0 _ _ ?_ ⟨_, _, _, _, _, _, _, _, _, _, _, _, rfl, B1.more (by decide)⟩ ?_
  · rintro k y my ς G2 ⟨x2, x3, x4, x5, x6, x7, x8, x9, x10, x11, x12, x13, rfl, B2⟩ D' nx _ rt ex _
    simp only [Nat.zero_add] at nx B2
    have hk : k < 2 := by
      have := (List.getElem?_eq_some_iff.mp my).1
      simp only [List.length_map, List.length_range] at this
      exact this
    walk_at "w"
    refine seq_f fun R1 h1 => ?_
    walk_at "w"
    refine wide_ok (n := 45) f_take f_labels f_kit f_wide B2 (by omega) fun nms cs vs p G3 K B3 pb _ g3 _ => h1 _ _ (.frz 3 p _ rfl g3 (.done ?_))
    clear h1 R1
    have B3 : Bag b (5000 * k + 42) (rm p G3) := B3.same (rm_ne (Ne.symm pb))
    simp only [List.set_cons_zero, List.set_cons_succ, frz_d]
    generalize rm p G3 = G3 at B3 ⊢
    clear g3
    have hcs : cs.length < 63 := by have := K.cl; omega
    refine seq_i fun R1 h1 => ?_
    walk_at "w"
    refine ⟨by decide, by decide, ?_⟩
    refine lc_inv 2 (by decide) (fun acc G' => (∀ x ∈ acc, ∃ fs, x = .fro fs ∧ (∀ x ∈ fs, Fc x ∧ ∀ y ∈ cnsA x, y ∈ cs) ∧ fs.length ≤ 8) ∧ Bag b (5000 * k + 42 + 101 * acc.length) G') (fun _ _ _ => trivial) _ _ _ ?_ ⟨by simp, B3.more (by simp)⟩ (by decide) ?_
    · rintro x hx acc Gx Qx hl2 ⟨hi, Bx⟩ qx
      walk_at "w"
      refine facts_ok (n := 46) f_take f_fact f_facts K (.inl rfl) Bx (by omega) (by decide) (by decide) fun fs G4 hf lf B4 _ => qx _ _ ⟨fun z mz => ?_, B4.more (by simp; omega)⟩
      rcases List.mem_append.mp mz with mz | mz
      · exact hi z mz
      · simp only [List.mem_singleton] at mz; subst mz; exact ⟨fs, rfl, fun x m => ⟨(hf x m).1, (hf x m).2.2⟩, by omega⟩
    rintro lots G4 hl4 ⟨hlots, B4⟩
    obtain ⟨l0, l1, rfl⟩ : ∃ l0 l1, lots = [l0, l1] := by
      match lots, hl4 with
      | [a, b], _ => exact ⟨a, b, rfl⟩
    obtain ⟨f0, rfl, hf0, lf0⟩ := hlots l0 (by simp)
    obtain ⟨f1, rfl, hf1, lf1⟩ := hlots l1 (by simp)
    clear hlots
    have B4 := B4.more (show 5000 * (k : Int) + 42 + 101 * ([A.fro f0, .fro f1] : List A).length ≤ 5000 * k + 244 by simp; omega)
    refine h1 _ _ ?_
    clear h1 R1
    have F0 : ∀ x ∈ f0, Fc x := fun x m => (hf0 x m).1
    have F1 : ∀ x ∈ f1, Fc x := fun x m => (hf1 x m).1
    refine seq_i fun R1 h1 => ?_
    walk_at "w"
    simp only [itOf, lcR, gNm, bYes, if_true, List.set_cons_zero, List.set_cons_succ, wipeA]
    walk_at "w"
    refine ⟨trivial, ?_⟩
    refine made_ok (n := 44) f_F f_take f_mixed f_made B4 (by omega) F0 (by omega) fun v0 G5 V0 B5 _ => ⟨by decide, trivial, ?_⟩
    refine made_ok (n := 44) f_F f_take f_mixed f_made B5 (by omega) F1 (by omega) fun v1 G6 V1 B6 _ => ⟨le_sz (by simp), trivial, ?_⟩
    obtain ⟨k0, rfl, _, mk0⟩ := V0
    obtain ⟨k1, rfl, _, mk1⟩ := V1
    refine h1 _ _ ?_
    clear h1 R1
    refine seq_i fun R1 h1 => ?_
    walk_at "w"
    simp only [itOf, lcR, gNm, bYes, if_true, List.set_cons_zero, List.set_cons_succ, wipeA]
    walk_at "w"
    have d0 := dd_le f0
    have d1 := dd_le f1
    refine ⟨trivial, _, f0, rfl, rfl, set_rows (fun x m => (F0 x m).kr) (by omega), srt_rows (fun x m => (F0 x m).kr) (le_sz (by omega)), by decide, trivial, _, f1, rfl, rfl, set_rows (fun x m => (F1 x m).kr) (by omega), srt_rows (fun x m => (F1 x m).kr) (le_sz (by omega)), le_sz (by simp), trivial, ?_⟩
    refine h1 _ _ ?_
    clear h1 R1
    have S0 := srt_dd_len f0
    have S1 := srt_dd_len f1
    have Q0 : Pq cs (k0, srt (ddA f0)) := ⟨fun x => (mk0 x).trans srt_dd_mem.symm, fun x m => hf0 x (srt_dd_mem.mp m), srt_dd_idem f0, by show (srt (ddA f0)).length ≤ 60; omega⟩
    have Q1 : Pq cs (k1, srt (ddA f1)) := ⟨fun x => (mk1 x).trans srt_dd_mem.symm, fun x m => hf1 x (srt_dd_mem.mp m), srt_dd_idem f1, by show (srt (ddA f1)).length ≤ 60; omega⟩
    have II : Inv ([(k0, srt (ddA f0)), (k1, srt (ddA f1))].map Prod.snd) 0 0 := inv_init (a := srt (ddA f0)) (c := srt (ddA f1)) (by omega) (by omega)
    refine seq_i fun R1 h1 => ?_
    walk_at "w"
    refine take_ok (n := 48) f_take B6 (by omega) (by decide) (by decide) fun d G7 d0 d1 B7 _ => ⟨by omega, by omega, ?_⟩
    refine for_ix (fun j ς G' => ∃ x5 x7 x8 x9 x10 x11 x12 x13, ∃ KS : List (List A × List A), ∃ u f : Nat, ς = [some (.scr (ns.map .int)), some (.ref b), some y, some (dtr (kitD nms cs vs)), some (.fro (KS.map lA)), x5, some (.fro (KS.map sA)), x7, x8, x9, x10, x11, x12, x13] ∧ Bag b (5000 * k + 700 + 200 * j) G' ∧ (∀ p ∈ KS, Pq cs p) ∧ 2 ≤ KS.length ∧ KS.length ≤ 4 ∧ u + f = j ∧ Inv (KS.map Prod.snd) u f) (fun _ _ _ _ => trivial) _ 0 _ _ ?_ ⟨_, _, _, _, _, _, _, _, [(k0, srt (ddA f0)), (k1, srt (ddA f1))], 0, 0, rfl, B7.more (by omega), (by
        intro p m
        simp only [List.mem_cons, List.not_mem_nil, or_false] at m
        rcases m with rfl | rfl
        · exact Q0
        · exact Q1), by simp, by simp, rfl, II⟩ ?_
    · rintro j z mz ς G8 ⟨x5, x7, x8, x9, x10, x11, x12, x13, KS, u, f, rfl, B8, hK, l2, l4, huf, I⟩ D2 nx2 _ rt2 ex2 _
      have hj : j ≤ 11 := by
        have := (List.getElem?_eq_some_iff.mp mz).1
        simp only [List.length_map, List.length_range] at this
        omega
      obtain ⟨cs0, hcs0⟩ : ∃ m, m = (KS.length : Int) := ⟨_, rfl⟩
      have lenS : ∀ {G : Gp} {Q : KA}, lenC pgcl (runF FT 49) [.fro (KS.map sA)] G Q = Q (.int KS.length) G := fun {G Q} => by
        have : lenC pgcl (runF FT 49) [.fro (KS.map sA)] G Q = lenD [.fro (KS.map sA)] G Q := rfl
        rw [this, len_fro, List.length_map]
      walk_at "w"
      refine seq_i fun R2 h2 => ?_
      simp only [sSet, sIf, sNx, sRet, sRetN, sEx, sFor, sPar, sFldA, eVar, eC, eBin, eNot, eAnd, eOr, eIf, eTup, eLst, eDct0, eBi, eCall, eM, eSl, oNo, oSome, eLc, eDc, eDis2, prs, eMk_eq, eMe_eq, eFs, fsA, eFmt, eFmtR, iSeq, iR1, it_tup, it_fro, eFld_eq, bV, bVC, bB, bNot, bAnd, bOr, bYes, gNm, gTup, gTs, lNil, lCons, new_f, new_t, frz_l, frz_d, wipeA, truA, tyA, List.getElem?_cons_zero, List.getElem?_cons_succ, List.set_cons_zero, List.set_cons_succ, List.cons_append, List.nil_append, List.append_nil, addA_i, addA_s, addA_t, add_fro, subA_i, modA_i, fdivA_i, powA_i, mulA_i, mulA_s, mul_fro, ltA_i, leA_i, gtA_i, geA_i, eqInt, eqStr, _root_.Q.len_str, len_fro, len_tup, sl_tup, sl_fro, ixFro, ixTup, tupleA_fro, tupleA_tup, listA_tup, listA_fro, intOfA, if_true, if_false, Bool.not_true, Bool.not_false, Bool.false_eq_true, decide_eq_true_eq, beq_self_eq_true, true_and, sPar3]
      refine take_ok (n := 48) f_take B8 (by omega) (by decide) (by decide) fun way Ga w0 w1 Ba _ => ?_
      rw [lenS]
      refine take_ok (n := 48) f_take Ba (by omega) (by omega) (by omega) fun i Gb i0 i1 Bb _ => ?_
      rw [lenS]
      refine take_ok (n := 48) f_take Bb (by omega) (by omega) (by omega) fun m Gc m0 m1 Bc _ => ?_
      refine h2 _ _ ?_
      clear h2 R2
      obtain ⟨p, mp, ep⟩ := atI_mem (xs := KS) (i := i) i0 i1
      obtain ⟨r, mr, er⟩ := atI_mem (xs := KS) (i := m) m0 m1
      have aS : ∀ {G : Gp} {Q : KA}, ixD (.fro (KS.map sA)) (.int i) G Q = Q (stv p.1 p.2) G := fun {G Q} => by rw [ixFro, at_map ep]; rfl
      have aL : ∀ {G : Gp} {Q : KA}, ixD (.fro (KS.map lA)) (.int i) G Q = Q (.fro p.2) G := fun {G Q} => by rw [ixFro, at_map ep]; rfl
      have bS : ∀ {G : Gp} {Q : KA}, ixD (.fro (KS.map sA)) (.int m) G Q = Q (stv r.1 r.2) G := fun {G Q} => by rw [ixFro, at_map er]; rfl
      have bL : ∀ {G : Gp} {Q : KA}, ixD (.fro (KS.map lA)) (.int m) G Q = Q (.fro r.2) G := fun {G Q} => by rw [ixFro, at_map er]; rfl
      have hp := hK p mp
      have hr := hK r mr
      have pm : p.2 ∈ KS.map Prod.snd := List.mem_map.mpr ⟨p, mp, rfl⟩
      have rm' : r.2 ∈ KS.map Prod.snd := List.mem_map.mpr ⟨r, mr, rfl⟩
      have cap := inv_two I pm rm' (by omega)
      refine seq_i fun R2 h2 => ?_
      walk_at "w"
      refine facts_ok (n := 46) f_take f_fact f_facts K (.inl rfl) Bc (by omega) (by decide) (by decide) fun fs Gd hfs lfs Bd _ => h2 _ _ ?_
      clear h2 R2
      have Ff : ∀ x ∈ fs, Fc x := fun x m => (hfs x m).1
      refine seq_i fun R2 h2 => ?_
      simp only [sPar, eCall, lCons, lNil, eBin, eVar, List.getElem?_cons_zero, List.getElem?_cons_succ, List.set_cons_zero, List.set_cons_succ, aS, bS, aL, bL]
      refine done_ok (n := 43) w0 hp hr Ff (by omega) fun kn mkn => ?_
      refine due_ok (n := 48) (cs := cs) hp hr Ff (by omega) (Nat.lt_of_le_of_lt (cap _ fun x mx => List.mem_append.mp mx) (by decide)) ?_
      refine h2 _ _ ?_
      clear h2 R2
      generalize hN : srt (ddA (nwF way p r fs)) = N
      have mN : ∀ x, x ∈ N ↔ x ∈ nwF way p r fs := fun x => by rw [← hN]; exact srt_dd_mem
      have nw : (∀ x ∈ nwF way p r fs, x ∈ p.2 ∨ x ∈ r.2) ∨ nwF way p r fs = fs := by
        unfold nwF
        by_cases h0 : way = 0
        · rw [if_pos h0]; exact .inl fun x mx => List.mem_append.mp mx
        rw [if_neg h0]
        by_cases h1 : way = 1
        · rw [if_pos h1]; exact .inl fun x mx => .inl (List.mem_filter.mp mx).1
        rw [if_neg h1]
        by_cases h2 : way = 2
        · rw [if_pos h2]; exact .inl fun x mx => .inl (List.mem_filter.mp mx).1
        rw [if_neg h2]
        by_cases h3 : way = 3
        · rw [if_pos h3]; exact .inl fun x mx => by cases mx
        rw [if_neg h3]; exact .inr rfl
      have PN : Pq cs (kn, N) := by
        refine ⟨fun x => (mkn x).trans (mN x).symm, fun x mx => ?_, by subst hN; exact srt_dd_idem _, ?_⟩
        · rcases nw with nw | nw
          · exact (nw x ((mN x).mp mx)).elim (hp.2.1 x) (hr.2.1 x)
          · have := (mN x).mp mx
            rw [nw] at this
            exact ⟨Ff x this, (hfs x this).2.2⟩
        · show N.length ≤ 60
          rw [← hN, srt_len]
          rcases nw with nw | nw
          · have := cap _ nw; omega
          · rw [nw]; have := dd_le fs; omega
      have IN : ∀ ls' : List (List A), (∀ l ∈ ls', l ∈ KS.map Prod.snd ∨ l = N) → ∃ u f : Nat, u + f = j + 1 ∧ Inv ls' u f := fun ls' hl => by
        rcases nw with nw | nw
        · exact ⟨u + 1, f, by omega, inv_join I pm rm' (fun x mx => nw x ((mN x).mp mx)) hl⟩
        · exact ⟨u, f + 1, by omega, inv_more I (fun x mx => by have := (mN x).mp mx; rw [nw] at this; exact this) (by omega) hl⟩
      clear hN
      refine seq_i fun R2 h2 => ?_
      walk_at "w"
      have fin : ∀ (t : Int) (Ge : Gp), 0 ≤ t → t ≤ KS.length → t < 4 → Bag b (5000 * k + 700 + 200 * (j + 1)) Ge → R2 [some (.scr (ns.map .int)), some (.ref b), some y, some (dtr (kitD nms cs vs)), some (.fro (KS.map lA)), some (.int i), some (.fro (KS.map sA)), some (.fro fs), some z, some (.int way), some (.int m), some (stv kn N), some (.fro N), some (.int t)] Ge := by
        intro t Ge t0 t1 t4 Be
        refine h2 _ _ ?_
        clear h2 R2
        obtain ⟨KS2, hKS⟩ : ∃ K2, K2 = cutA KS none (some t) ++ [(kn, N)] ++ cutA KS (some (t + 1)) none := ⟨_, rfl⟩
        have L2 : KS2.length = t.toNat + 1 + (KS.length - (t + 1).toNat) := by
          rw [hKS, List.length_append, List.length_append, cut_pre t0 t1, cut_suf2 (by omega)]; rfl
        have M2 : ∀ p ∈ KS2, p ∈ KS ∨ p = (kn, N) := fun p m => by
          rw [hKS] at m
          rcases List.mem_append.mp m with m | m
          · rcases List.mem_append.mp m with m | m
            · exact .inl (cut_mem m)
            · exact .inr (by simpa using m)
          · exact .inl (cut_mem m)
        have eS : cutA (KS.map sA) none (some t) ++ [stv kn N] ++ cutA (KS.map sA) (some (t + 1)) none = KS2.map sA := by
          rw [hKS, cut_map, cut_map, List.map_append, List.map_append]; rfl
        have eL : cutA (KS.map lA) none (some t) ++ [.fro N] ++ cutA (KS.map lA) (some (t + 1)) none = KS2.map lA := by
          rw [hKS, cut_map, cut_map, List.map_append, List.map_append]; rfl
        have lS := congrArg List.length eS
        have lL := congrArg List.length eL
        simp only [List.length_append, List.length_map, List.length_cons, List.length_nil] at lS lL
        refine seq_i fun R2 h2 => ?_
        walk_at "w"
        have zS : ((cutA (KS.map sA) none (some t)).length + [stv kn N].length) ≤ sizeLine ∧ ((cutA (KS.map sA) none (some t) ++ [stv kn N]).length + (cutA (KS.map sA) (some (t + 1)) none).length) ≤ sizeLine := by
          simp only [List.length_append, List.length_cons, List.length_nil]
          exact ⟨le_sz (by omega), le_sz (by omega)⟩
        rw [eS]
        refine ⟨le_sz (by simp), zS.1, zS.2, h2 _ _ ?_⟩
        clear h2 R2
        refine seq_i fun R2 h2 => ?_
        walk_at "w"
        have zL : ((cutA (KS.map lA) none (some t)).length + [A.fro N].length) ≤ sizeLine ∧ ((cutA (KS.map lA) none (some t) ++ [A.fro N]).length + (cutA (KS.map lA) (some (t + 1)) none).length) ≤ sizeLine := by
          simp only [List.length_append, List.length_cons, List.length_nil]
          exact ⟨le_sz (by omega), le_sz (by omega)⟩
        rw [eL]
        refine ⟨le_sz (by simp), zL.1, zL.2, h2 _ _ ?_⟩
        clear h2 R2
        have K2 : ∀ p ∈ KS2, Pq cs p := fun p m => (M2 p m).elim (hK p) fun e => e ▸ PN
        obtain ⟨u2, f2, huf2, I2⟩ := IN (KS2.map Prod.snd) (fun l ml => by
          obtain ⟨p, mp, rfl⟩ := List.mem_map.mp ml
          rcases M2 p mp with e | e
          · exact .inl (List.mem_map.mpr ⟨p, e, rfl⟩)
          · exact .inr (by rw [e]))
        refine seq_i fun R2 h2 => ?_
        walk_at "w"
        refine right_ok (n := 42) K2 (by omega) hcs fun G9 e9 => ?_
        walk_at "w"
        exact h2 _ _ (nx2 _ _ ⟨_, _, _, _, _, _, _, _, KS2, u2, f2, rfl, (e9.bag Be).more (by omega), K2, by omega, by omega, by omega, I2⟩)
      rw [lenS]
      walk_at "w"
      by_cases h4 : (KS.length : Int) < 4
      · rw [if_pos h4, lenS]
        exact fin _ _ (by omega) (by omega) (by omega) (Bd.more (by omega))
      · rw [if_neg h4]
        exact take_ok (n := 48) f_take Bd (by omega) (by decide) (by decide) fun t Ge t0 t1 Be _ => fin _ _ t0 (by omega) t1 (Be.more (by omega))
    rintro ς G8 ⟨x5, x7, x8, x9, x10, x11, x12, x13, KS, u, f, rfl, B8, hK, l2, l4, huf, I⟩
    refine h1 _ _ ?_
    clear h1 R1
    refine seq_i fun R1 h1 => ?_
    walk_at "w"
    refine right_ok (n := 42) hK l4 hcs fun G9 e9 => ?_
    walk_at "w"
    refine h1 _ _ (nx _ _ ⟨_, _, _, _, _, _, _, _, _, _, _, _, rfl, (e9.bag B8).more ?_⟩)
    simp only [List.length_map, List.length_range]
    omega
  · rintro ς G2 ⟨x2, x3, x4, x5, x6, x7, x8, x9, x10, x11, x12, x13, rfl, B2⟩
    (refine hR _ _ ?_; clear hR R)
    (refine seq_i fun R hR => ?_; try walk_at "w")
end G
open PySem PySem.W PyProof.Rows Q G
set_option maxRecDepth 100000 in
set_option maxHeartbeats 0 in
theorem PySem.Challenge.cw_frozenbodies_k15_whole_stores_joined_holds : PySem.Challenge.rw_frozenbodies_k15_whole_stores_joined.Holds := by
  w_on; o_law; k_head; (case hw => w_witness2)
  k_fill
  refine walkG (l := PySem.Challenge.rw_frozenbodies_k15_whole_stores_joined) (n := 63) (k := 50) (x := Str.ofString "_law_script") (FT := FT) (F := "law") rfl (by decide) rfl ⟨rfl, by decide, by decide⟩ (fun w h Y => PySem.W.kIn_of Y) ?D run_law
  intro w mg fa h KX G hmg
  generalize hT : (⟨L2.KOf KX, cmOf mg⟩ : Tx) = T
  have hTK : T.K = L2.KOf KX := by rw [← hT]
  have hTc : T.cm = cmOf mg := by rw [← hT]
  have d_is_integer : ∃ f fd, DefAt (L2.KOf KX) mg i_is_integer f fd := by
    refine' def_mk (key := "is_integer") (nm := Str.ofString "is_integer") (qual := Str.ofString "is_integer") (st := top 7) KX G s_is_integer (fun _ _ _ _ _ _ us hl => match us, hl with | [_], _ => rfl) ?a_is_integer ?l_is_integer ?c_is_integer ?k_is_integer
    (case a_is_integer => (try dsimp only [L2.KOf]); k_is); (case l_is_integer => (try dsimp only [L2.KOf]); k_is); (case c_is_integer => (try dsimp only [L2.KOf]); k_is); (case k_is_integer => (try dsimp only [L2.KOf]); k_is)
  have d_is_constant : ∃ f fd, DefAt (L2.KOf KX) mg i_is_constant f fd := by
    refine' def_mk (key := "is_constant") (nm := Str.ofString "is_constant") (qual := Str.ofString "is_constant") (st := top 8) KX G s_is_constant (fun _ _ _ _ _ _ us hl => match us, hl with | [_], _ => rfl) ?a_is_constant ?l_is_constant ?c_is_constant ?k_is_constant
    (case a_is_constant => (try dsimp only [L2.KOf]); k_is); (case l_is_constant => (try dsimp only [L2.KOf]); k_is); (case c_is_constant => (try dsimp only [L2.KOf]); k_is); (case k_is_constant => (try dsimp only [L2.KOf]); k_is)
  have d_is_word : ∃ f fd, DefAt (L2.KOf KX) mg i_is_word f fd := by
    refine' def_mk (key := "is_word") (nm := Str.ofString "is_word") (qual := Str.ofString "is_word") (st := top 9) KX G s_is_word (fun _ _ _ _ _ _ us hl => match us, hl with | [_], _ => rfl) ?a_is_word ?l_is_word ?c_is_word ?k_is_word
    (case a_is_word => (try dsimp only [L2.KOf]); k_is); (case l_is_word => (try dsimp only [L2.KOf]); k_is); (case c_is_word => (try dsimp only [L2.KOf]); k_is); (case k_is_word => (try dsimp only [L2.KOf]); k_is)
  have d_is_fact : ∃ f fd, DefAt (L2.KOf KX) mg i_is_fact f fd := by
    refine' def_mk (key := "is_fact") (nm := Str.ofString "is_fact") (qual := Str.ofString "is_fact") (st := top 10) KX G s_is_fact (fun _ _ _ _ _ _ us hl => match us, hl with | [_], _ => rfl) ?a_is_fact ?l_is_fact ?c_is_fact ?k_is_fact
    (case a_is_fact => (try dsimp only [L2.KOf]); k_is); (case l_is_fact => (try dsimp only [L2.KOf]); k_is); (case c_is_fact => (try dsimp only [L2.KOf]); k_is); (case k_is_fact => (try dsimp only [L2.KOf]); k_is)
  have d_bag : ∃ f fd, DefAt (L2.KOf KX) mg i_bag f fd := by
    refine' def_mk (key := "_law_bag") (nm := Str.ofString "_law_bag") (qual := Str.ofString "_law_bag") (st := top 14) KX G s_bag (fun _ _ _ _ _ _ us hl => match us, hl with | [_], _ => rfl) ?a_bag ?l_bag ?c_bag ?k_bag
    (case a_bag => (try dsimp only [L2.KOf]); k_is); (case l_bag => (try dsimp only [L2.KOf]); k_is); (case c_bag => (try dsimp only [L2.KOf]); k_is); (case k_bag => (try dsimp only [L2.KOf]); k_is)
  have d_take : ∃ f fd, DefAt (L2.KOf KX) mg i_take f fd := by
    refine' def_mk (key := "_law_take") (nm := Str.ofString "_law_take") (qual := Str.ofString "_law_take") (st := top 15) KX G s_take (fun _ _ _ _ _ _ us hl => match us, hl with | [_, _], _ => rfl) ?a_take ?l_take ?c_take ?k_take
    (case a_take => (try dsimp only [L2.KOf]); k_is); (case l_take => (try dsimp only [L2.KOf]); k_is); (case c_take => (try dsimp only [L2.KOf]); k_is); (case k_take => (try dsimp only [L2.KOf]); k_is)
  have d_alike : ∃ f fd, DefAt (L2.KOf KX) mg i_alike f fd := by
    refine' def_mk (key := "_law_alike") (nm := Str.ofString "_law_alike") (qual := Str.ofString "_law_alike") (st := top 16) KX G s_alike (fun _ _ _ _ _ _ us hl => match us, hl with | [_, _], _ => rfl) ?a_alike ?l_alike ?c_alike ?k_alike
    (case a_alike => (try dsimp only [L2.KOf]); k_is); (case l_alike => (try dsimp only [L2.KOf]); k_is); (case c_alike => (try dsimp only [L2.KOf]); k_is); (case k_alike => (try dsimp only [L2.KOf]); k_is)
  have d_mixed : ∃ f fd, DefAt (L2.KOf KX) mg i_mixed f fd := by
    refine' def_mk (key := "_law_mixed") (nm := Str.ofString "_law_mixed") (qual := Str.ofString "_law_mixed") (st := top 17) KX G s_mixed (fun _ _ _ _ _ _ us hl => match us, hl with | [_, _], _ => rfl) ?a_mixed ?l_mixed ?c_mixed ?k_mixed
    (case a_mixed => (try dsimp only [L2.KOf]); k_is); (case l_mixed => (try dsimp only [L2.KOf]); k_is); (case c_mixed => (try dsimp only [L2.KOf]); k_is); (case k_mixed => (try dsimp only [L2.KOf]); k_is)
  have d_labels : ∃ f fd, DefAt (L2.KOf KX) mg i_labels f fd := by
    refine' def_mk (key := "_law_labels") (nm := Str.ofString "_law_labels") (qual := Str.ofString "_law_labels") (st := top 18) KX G s_labels (fun _ _ _ _ _ _ us hl => match us, hl with | [_, _], _ => rfl) ?a_labels ?l_labels ?c_labels ?k_labels
    (case a_labels => (try dsimp only [L2.KOf]); k_is); (case l_labels => (try dsimp only [L2.KOf]); k_is); (case c_labels => (try dsimp only [L2.KOf]); k_is); (case k_labels => (try dsimp only [L2.KOf]); k_is)
  have d_kit : ∃ f fd, DefAt (L2.KOf KX) mg i_kit f fd := by
    refine' def_mk (key := "_law_kit") (nm := Str.ofString "_law_kit") (qual := Str.ofString "_law_kit") (st := top 19) KX G s_kit (fun _ _ _ _ _ _ us hl => match us, hl with | [_], _ => rfl) ?a_kit ?l_kit ?c_kit ?k_kit
    (case a_kit => (try dsimp only [L2.KOf]); k_is); (case l_kit => (try dsimp only [L2.KOf]); k_is); (case c_kit => (try dsimp only [L2.KOf]); k_is); (case k_kit => (try dsimp only [L2.KOf]); k_is)
  have d_wide : ∃ f fd, DefAt (L2.KOf KX) mg i_wide f fd := by
    refine' def_mk (key := "_law_wide") (nm := Str.ofString "_law_wide") (qual := Str.ofString "_law_wide") (st := top 20) KX G s_wide (fun _ _ _ _ _ _ us hl => match us, hl with | [_], _ => rfl) ?a_wide ?l_wide ?c_wide ?k_wide
    (case a_wide => (try dsimp only [L2.KOf]); k_is); (case l_wide => (try dsimp only [L2.KOf]); k_is); (case c_wide => (try dsimp only [L2.KOf]); k_is); (case k_wide => (try dsimp only [L2.KOf]); k_is)
  have d_fact : ∃ f fd, DefAt (L2.KOf KX) mg i_fact f fd := by
    refine' def_mk (key := "_law_fact") (nm := Str.ofString "_law_fact") (qual := Str.ofString "_law_fact") (st := top 21) KX G s_fact (fun _ _ _ _ _ _ us hl => match us, hl with | [_, _], _ => rfl) ?a_fact ?l_fact ?c_fact ?k_fact
    (case a_fact => (try dsimp only [L2.KOf]); k_is); (case l_fact => (try dsimp only [L2.KOf]); k_is); (case c_fact => (try dsimp only [L2.KOf]); k_is); (case k_fact => (try dsimp only [L2.KOf]); k_is)
  have d_facts : ∃ f fd, DefAt (L2.KOf KX) mg i_facts f fd := by
    refine' def_mk (key := "_law_facts") (nm := Str.ofString "_law_facts") (qual := Str.ofString "_law_facts") (st := top 22) KX G s_facts (fun _ _ _ _ _ _ us hl => match us, hl with | [_, _, _], _ => rfl) ?a_facts ?l_facts ?c_facts ?k_facts
    (case a_facts => (try dsimp only [L2.KOf]); k_is); (case l_facts => (try dsimp only [L2.KOf]); k_is); (case c_facts => (try dsimp only [L2.KOf]); k_is); (case k_facts => (try dsimp only [L2.KOf]); k_is)
  have d_made_store : ∃ f fd, DefAt (L2.KOf KX) mg i_made_store f fd := by
    refine' def_mk (key := "_law_made_store") (nm := Str.ofString "_law_made_store") (qual := Str.ofString "_law_made_store") (st := top 23) KX G s_made_store (fun _ _ _ _ _ _ us hl => match us, hl with | [_, _], _ => rfl) ?a_made_store ?l_made_store ?c_made_store ?k_made_store
    (case a_made_store => (try dsimp only [L2.KOf]); k_is); (case l_made_store => (try dsimp only [L2.KOf]); k_is); (case c_made_store => (try dsimp only [L2.KOf]); k_is); (case k_made_store => (try dsimp only [L2.KOf]); k_is)
  have d_done : ∃ f fd, DefAt (L2.KOf KX) mg i_done f fd := by
    refine' def_mk (key := "_law_done") (nm := Str.ofString "_law_done") (qual := Str.ofString "_law_done") (st := top 24) KX G s_done (fun _ _ _ _ _ _ us hl => match us, hl with | [_, _, _, _], _ => rfl) ?a_done ?l_done ?c_done ?k_done
    (case a_done => (try dsimp only [L2.KOf]); k_is); (case l_done => (try dsimp only [L2.KOf]); k_is); (case c_done => (try dsimp only [L2.KOf]); k_is); (case k_done => (try dsimp only [L2.KOf]); k_is)
  have d_due : ∃ f fd, DefAt (L2.KOf KX) mg i_due f fd := by
    refine' def_mk (key := "_law_due") (nm := Str.ofString "_law_due") (qual := Str.ofString "_law_due") (st := top 25) KX G s_due (fun _ _ _ _ _ _ us hl => match us, hl with | [_, _, _, _], _ => rfl) ?a_due ?l_due ?c_due ?k_due
    (case a_due => (try dsimp only [L2.KOf]); k_is); (case l_due => (try dsimp only [L2.KOf]); k_is); (case c_due => (try dsimp only [L2.KOf]); k_is); (case k_due => (try dsimp only [L2.KOf]); k_is)
  have d_rest : ∃ f fd, DefAt (L2.KOf KX) mg i_rest f fd := by
    refine' def_mk (key := "_law_rest") (nm := Str.ofString "_law_rest") (qual := Str.ofString "_law_rest") (st := top 26) KX G s_rest (fun _ _ _ _ _ _ us hl => match us, hl with | [_], _ => rfl) ?a_rest ?l_rest ?c_rest ?k_rest
    (case a_rest => (try dsimp only [L2.KOf]); k_is); (case l_rest => (try dsimp only [L2.KOf]); k_is); (case c_rest => (try dsimp only [L2.KOf]); k_is); (case k_rest => (try dsimp only [L2.KOf]); k_is)
  have d_right : ∃ f fd, DefAt (L2.KOf KX) mg i_right f fd := by
    refine' def_mk (key := "_law_right") (nm := Str.ofString "_law_right") (qual := Str.ofString "_law_right") (st := top 27) KX G s_right (fun _ _ _ _ _ _ us hl => match us, hl with | [_, _], _ => rfl) ?a_right ?l_right ?c_right ?k_right
    (case a_right => (try dsimp only [L2.KOf]); k_is); (case l_right => (try dsimp only [L2.KOf]); k_is); (case c_right => (try dsimp only [L2.KOf]); k_is); (case k_right => (try dsimp only [L2.KOf]); k_is)
  have d_law : ∃ f fd, DefAt (L2.KOf KX) mg i_law f fd := by
    refine' def_mk (key := "law") (nm := Str.ofString "law") (qual := Str.ofString "law") (st := top 28) KX G s_law (fun _ _ _ _ _ _ us hl => match us, hl with | [_], _ => rfl) ?a_law ?l_law ?c_law ?k_law
    (case a_law => (try dsimp only [L2.KOf]); k_is); (case l_law => (try dsimp only [L2.KOf]); k_is); (case c_law => (try dsimp only [L2.KOf]); k_is); (case k_law => (try dsimp only [L2.KOf]); k_is)
  have hat : ∀ i ∈ fns, i ∈ all ∧ ∃ f fd, DefAt (L2.KOf KX) mg i f fd :=
    all_cons ⟨by simp [all], d_is_integer⟩ (all_cons ⟨by simp [all], d_is_constant⟩ (all_cons ⟨by simp [all], d_is_word⟩ (all_cons ⟨by simp [all], d_is_fact⟩ (all_cons ⟨by simp [all], d_bag⟩ (all_cons ⟨by simp [all], d_take⟩ (all_cons ⟨by simp [all], d_alike⟩ (all_cons ⟨by simp [all], d_mixed⟩ (all_cons ⟨by simp [all], d_labels⟩ (all_cons ⟨by simp [all], d_kit⟩ (all_cons ⟨by simp [all], d_wide⟩ (all_cons ⟨by simp [all], d_fact⟩ (all_cons ⟨by simp [all], d_facts⟩ (all_cons ⟨by simp [all], d_made_store⟩ (all_cons ⟨by simp [all], d_done⟩ (all_cons ⟨by simp [all], d_due⟩ (all_cons ⟨by simp [all], d_rest⟩ (all_cons ⟨by simp [all], d_right⟩ (all_cons ⟨by simp [all], d_law⟩ (all_nil)))))))))))))))))))
  have x_Store : ∃ c, ClsAt (L2.KOf KX) mg T all pg.df (Str.ofString "Store") ci_Store c := by
    refine' cls_mk KX G ?a ?pg ?hd ?po ?sa ?sf ?ne ?mo ?ka ?kn ?kt ?sub ?kit ?mks ?kp ?ini ?fl ?mt ?pr
    (case a => (try dsimp only [L2.KOf]); k_is)
    (case pg => (try dsimp only [L2.KOf]); k_is)
    (case hd => (try dsimp only [L2.KOf]); k_is)
    (case po => (try dsimp only [L2.KOf]); k_is)
    (case sa => (try dsimp only [L2.KOf]); k_is)
    (case sf => (try dsimp only [L2.KOf]); k_is)
    (case ne => (try dsimp only [L2.KOf]); k_is)
    (case mo => (try dsimp only [L2.KOf]); k_is)
    (case ka => (try dsimp only [L2.KOf]); k_is)
    (case kn => (try dsimp only [L2.KOf]); k_is)
    (case kt => (try dsimp only [L2.KOf]); k_is)
    (case mks => (try dsimp only [L2.KOf]); k_is)
    (case kp => (try dsimp only [L2.KOf]); k_is)
    (case sub => refine kn_all ?_ ?_ ?_ ?_ ?_ ?_ ?_ <;> ((try dsimp only [L2.KOf]); k_is))
    (case kit => refine kn_all ?_ ?_ ?_ ?_ ?_ ?_ ?_ <;> ((try dsimp only [L2.KOf]); kit_is))
    case ini =>
      refine' ini_of (i := i_Store___init__) (by simp [all]) rfl (methT_mk (key := "Store.__init__") (nm := Str.ofString "__init__") (qual := Str.ofString "Store.__init__") (st := sub 12 0) (T := T) hTK s_Store___init__ (fun _ _ _ _ _ _ _ us its hl hi => match us, its, hl, hi with | [_, _], [_], _, _ => ⟨_, rfl, rfl⟩) (fun _ _ _ _ _ _ _ us its hl hi => match us, its, hl, hi with | [_], [_], _, _ => ⟨_, rfl, rfl⟩) ?a ?l ?lT ?lp ?oc ?od ?c ?k ?fn) rfl (fun k as z => by simp [pg] at z; exact z.2.2)
      (case a => (try dsimp only [L2.KOf]); k_is)
      (case l => (try dsimp only [L2.KOf]); k_is)
      (case lT => (try dsimp only [L2.KOf]); k_is)
      (case lp => (try dsimp only [L2.KOf]); k_is)
      (case oc => first | rfl | ((try dsimp only [L2.KOf]); k_is))
      (case od => first | rfl | ((try dsimp only [L2.KOf]); k_is))
      (case c => (try dsimp only [L2.KOf]); k_is)
      (case k => (try dsimp only [L2.KOf]); k_is)
      (case fn => (try dsimp only [L2.KOf]); k_is)
    case fl =>
      show ∀ g ∈ [Str.ofString "known", Str.ofString "rows"], L2.NoAttr _ _ g
      refine fl_cons ?_ (fl_cons ?_ (fl_nil)) <;> (unfold L2.NoAttr; (try dsimp only [L2.KOf]); k_is)
    case mt =>
      show MtAll _ _ _ _ _ [(Str.ofString "__eq__", "Store.__eq__"), (Str.ofString "__len__", "Store.__len__"), (Str.ofString "__bool__", "Store.__bool__"), (Str.ofString "__repr__", "Store.__repr__"), (Str.ofString "__contains__", "Store.__contains__"), (Str.ofString "__or__", "Store.__or__"), (Str.ofString "__and__", "Store.__and__"), (Str.ofString "__sub__", "Store.__sub__"), (Str.ofString "facts", "Store.facts"), (Str.ofString "names", "Store.names"), (Str.ofString "constants", "Store.constants"), (Str.ofString "of", "Store.of"), (Str.ofString "within", "Store.within")]
      refine' mt_cons (i := i_Store___eq__) (by simp [all]) rfl (meth_mk (key := "Store.__eq__") (nm := Str.ofString "__eq__") (qual := Str.ofString "Store.__eq__") (st := sub 12 1) s_Store___eq__ (fun _ _ _ _ _ _ us hl => match us, hl with | [_, _], _ => rfl) ?a ?l ?c ?k ?fn) (fun k as z => by simp [pg] at z) ?_
      (case a => (try dsimp only [L2.KOf]); k_is)
      (case l => (try dsimp only [L2.KOf]); k_is)
      (case c => (try dsimp only [L2.KOf]); k_is)
      (case k => (try dsimp only [L2.KOf]); k_is)
      (case fn => (try dsimp only [L2.KOf]); k_is)
      refine' mt_cons (i := i_Store___len__) (by simp [all]) rfl (meth_mk (key := "Store.__len__") (nm := Str.ofString "__len__") (qual := Str.ofString "Store.__len__") (st := sub 12 2) s_Store___len__ (fun _ _ _ _ _ _ us hl => match us, hl with | [_], _ => rfl) ?a ?l ?c ?k ?fn) (fun k as z => by simp [pg] at z) ?_
      (case a => (try dsimp only [L2.KOf]); k_is)
      (case l => (try dsimp only [L2.KOf]); k_is)
      (case c => (try dsimp only [L2.KOf]); k_is)
      (case k => (try dsimp only [L2.KOf]); k_is)
      (case fn => (try dsimp only [L2.KOf]); k_is)
      refine' mt_cons (i := i_Store___bool__) (by simp [all]) rfl (meth_mk (key := "Store.__bool__") (nm := Str.ofString "__bool__") (qual := Str.ofString "Store.__bool__") (st := sub 12 3) s_Store___bool__ (fun _ _ _ _ _ _ us hl => match us, hl with | [_], _ => rfl) ?a ?l ?c ?k ?fn) (fun k as z => by simp [pg] at z) ?_
      (case a => (try dsimp only [L2.KOf]); k_is)
      (case l => (try dsimp only [L2.KOf]); k_is)
      (case c => (try dsimp only [L2.KOf]); k_is)
      (case k => (try dsimp only [L2.KOf]); k_is)
      (case fn => (try dsimp only [L2.KOf]); k_is)
      refine' mt_cons (i := i_Store___repr__) (by simp [all]) rfl (meth_mk (key := "Store.__repr__") (nm := Str.ofString "__repr__") (qual := Str.ofString "Store.__repr__") (st := sub 12 4) s_Store___repr__ (fun _ _ _ _ _ _ us hl => match us, hl with | [_], _ => rfl) ?a ?l ?c ?k ?fn) (fun k as z => by simp [pg] at z) ?_
      (case a => (try dsimp only [L2.KOf]); k_is)
      (case l => (try dsimp only [L2.KOf]); k_is)
      (case c => (try dsimp only [L2.KOf]); k_is)
      (case k => (try dsimp only [L2.KOf]); k_is)
      (case fn => (try dsimp only [L2.KOf]); k_is)
      refine' mt_cons (i := i_Store___contains__) (by simp [all]) rfl (meth_mk (key := "Store.__contains__") (nm := Str.ofString "__contains__") (qual := Str.ofString "Store.__contains__") (st := sub 12 5) s_Store___contains__ (fun _ _ _ _ _ _ us hl => match us, hl with | [_, _], _ => rfl) ?a ?l ?c ?k ?fn) (fun k as z => by simp [pg] at z) ?_
      (case a => (try dsimp only [L2.KOf]); k_is)
      (case l => (try dsimp only [L2.KOf]); k_is)
      (case c => (try dsimp only [L2.KOf]); k_is)
      (case k => (try dsimp only [L2.KOf]); k_is)
      (case fn => (try dsimp only [L2.KOf]); k_is)
      refine' mt_cons (i := i_Store___or__) (by simp [all]) rfl (meth_mk (key := "Store.__or__") (nm := Str.ofString "__or__") (qual := Str.ofString "Store.__or__") (st := sub 12 6) s_Store___or__ (fun _ _ _ _ _ _ us hl => match us, hl with | [_, _], _ => rfl) ?a ?l ?c ?k ?fn) (fun k as z => by simp [pg] at z) ?_
      (case a => (try dsimp only [L2.KOf]); k_is)
      (case l => (try dsimp only [L2.KOf]); k_is)
      (case c => (try dsimp only [L2.KOf]); k_is)
      (case k => (try dsimp only [L2.KOf]); k_is)
      (case fn => (try dsimp only [L2.KOf]); k_is)
      refine' mt_cons (i := i_Store___and__) (by simp [all]) rfl (meth_mk (key := "Store.__and__") (nm := Str.ofString "__and__") (qual := Str.ofString "Store.__and__") (st := sub 12 7) s_Store___and__ (fun _ _ _ _ _ _ us hl => match us, hl with | [_, _], _ => rfl) ?a ?l ?c ?k ?fn) (fun k as z => by simp [pg] at z) ?_
      (case a => (try dsimp only [L2.KOf]); k_is)
      (case l => (try dsimp only [L2.KOf]); k_is)
      (case c => (try dsimp only [L2.KOf]); k_is)
      (case k => (try dsimp only [L2.KOf]); k_is)
      (case fn => (try dsimp only [L2.KOf]); k_is)
      refine' mt_cons (i := i_Store___sub__) (by simp [all]) rfl (meth_mk (key := "Store.__sub__") (nm := Str.ofString "__sub__") (qual := Str.ofString "Store.__sub__") (st := sub 12 8) s_Store___sub__ (fun _ _ _ _ _ _ us hl => match us, hl with | [_, _], _ => rfl) ?a ?l ?c ?k ?fn) (fun k as z => by simp [pg] at z) ?_
      (case a => (try dsimp only [L2.KOf]); k_is)
      (case l => (try dsimp only [L2.KOf]); k_is)
      (case c => (try dsimp only [L2.KOf]); k_is)
      (case k => (try dsimp only [L2.KOf]); k_is)
      (case fn => (try dsimp only [L2.KOf]); k_is)
      refine' mt_cons (i := i_Store_facts) (by simp [all]) rfl (meth_mk (key := "Store.facts") (nm := Str.ofString "facts") (qual := Str.ofString "Store.facts") (st := sub 12 9) s_Store_facts (fun _ _ _ _ _ _ us hl => match us, hl with | [_], _ => rfl) ?a ?l ?c ?k ?fn) (fun k as z => by simp [pg] at z) ?_
      (case a => (try dsimp only [L2.KOf]); k_is)
      (case l => (try dsimp only [L2.KOf]); k_is)
      (case c => (try dsimp only [L2.KOf]); k_is)
      (case k => (try dsimp only [L2.KOf]); k_is)
      (case fn => (try dsimp only [L2.KOf]); k_is)
      refine' mt_cons (i := i_Store_names) (by simp [all]) rfl (meth_mk (key := "Store.names") (nm := Str.ofString "names") (qual := Str.ofString "Store.names") (st := sub 12 10) s_Store_names (fun _ _ _ _ _ _ us hl => match us, hl with | [_], _ => rfl) ?a ?l ?c ?k ?fn) (fun k as z => by simp [pg] at z) ?_
      (case a => (try dsimp only [L2.KOf]); k_is)
      (case l => (try dsimp only [L2.KOf]); k_is)
      (case c => (try dsimp only [L2.KOf]); k_is)
      (case k => (try dsimp only [L2.KOf]); k_is)
      (case fn => (try dsimp only [L2.KOf]); k_is)
      refine' mt_cons (i := i_Store_constants) (by simp [all]) rfl (meth_mk (key := "Store.constants") (nm := Str.ofString "constants") (qual := Str.ofString "Store.constants") (st := sub 12 11) s_Store_constants (fun _ _ _ _ _ _ us hl => match us, hl with | [_], _ => rfl) ?a ?l ?c ?k ?fn) (fun k as z => by simp [pg] at z) ?_
      (case a => (try dsimp only [L2.KOf]); k_is)
      (case l => (try dsimp only [L2.KOf]); k_is)
      (case c => (try dsimp only [L2.KOf]); k_is)
      (case k => (try dsimp only [L2.KOf]); k_is)
      (case fn => (try dsimp only [L2.KOf]); k_is)
      refine' mt_cons (i := i_Store_of) (by simp [all]) rfl (meth_mk (key := "Store.of") (nm := Str.ofString "of") (qual := Str.ofString "Store.of") (st := sub 12 12) s_Store_of (fun _ _ _ _ _ _ us hl => match us, hl with | [_, _], _ => rfl) ?a ?l ?c ?k ?fn) (fun k as z => by simp [pg] at z) ?_
      (case a => (try dsimp only [L2.KOf]); k_is)
      (case l => (try dsimp only [L2.KOf]); k_is)
      (case c => (try dsimp only [L2.KOf]); k_is)
      (case k => (try dsimp only [L2.KOf]); k_is)
      (case fn => (try dsimp only [L2.KOf]); k_is)
      refine' mt_cons (i := i_Store_within) (by simp [all]) rfl (meth_mk (key := "Store.within") (nm := Str.ofString "within") (qual := Str.ofString "Store.within") (st := sub 12 13) s_Store_within (fun _ _ _ _ _ _ us hl => match us, hl with | [_, _], _ => rfl) ?a ?l ?c ?k ?fn) (fun k as z => by simp [pg] at z) ?_
      (case a => (try dsimp only [L2.KOf]); k_is)
      (case l => (try dsimp only [L2.KOf]); k_is)
      (case c => (try dsimp only [L2.KOf]); k_is)
      (case k => (try dsimp only [L2.KOf]); k_is)
      (case fn => (try dsimp only [L2.KOf]); k_is)
      exact mt_nil
    case pr =>
      show PrAll _ _ _ []
      exact pr_nil
  have hcl : ClsAll (L2.KOf KX) mg T all pg := by
    exact cls_one (n := Str.ofString "Store") (i := ci_Store) rfl x_Store
  have b_len : mg (Str.ofString "len") = none := PySem.W.mg_none_of KX G (by k_is)
  have b_repr : mg (Str.ofString "repr") = none := PySem.W.mg_none_of KX G (by k_is)
  have b_abs : mg (Str.ofString "abs") = none := PySem.W.mg_none_of KX G (by k_is)
  have b_all : mg (Str.ofString "all") = none := PySem.W.mg_none_of KX G (by k_is)
  have b_any : mg (Str.ofString "any") = none := PySem.W.mg_none_of KX G (by k_is)
  have b_int : mg (Str.ofString "int") = none := PySem.W.mg_none_of KX G (by k_is)
  have b_list : mg (Str.ofString "list") = none := PySem.W.mg_none_of KX G (by k_is)
  have b_tuple : mg (Str.ofString "tuple") = none := PySem.W.mg_none_of KX G (by k_is)
  have b_bool : mg (Str.ofString "bool") = none := PySem.W.mg_none_of KX G (by k_is)
  have b_str : mg (Str.ofString "str") = none := PySem.W.mg_none_of KX G (by k_is)
  have b_dict : mg (Str.ofString "dict") = none := PySem.W.mg_none_of KX G (by k_is)
  have b_isinstance : mg (Str.ofString "isinstance") = none := PySem.W.mg_none_of KX G (by k_is)
  have b_range : mg (Str.ofString "range") = none := PySem.W.mg_none_of KX G (by k_is)
  have b_sorted : mg (Str.ofString "sorted") = none := PySem.W.mg_none_of KX G (by k_is)
  have b_zip : mg (Str.ofString "zip") = none := PySem.W.mg_none_of KX G (by k_is)
  have b_set : mg (Str.ofString "set") = none := PySem.W.mg_none_of KX G (by k_is)
  have b_sum : mg (Str.ofString "sum") = none := PySem.W.mg_none_of KX G (by k_is)
  have bl : ∀ x, pg.fn.lookup x = none → x ∈ bltNames → mg x = none := by
    intro x _ hx
    simp only [bltNames, List.mem_cons, List.not_mem_nil, or_false] at hx
    rcases hx with rfl | rfl | rfl | rfl | rfl | rfl | rfl | rfl | rfl | rfl | rfl | rfl | rfl | rfl | rfl | rfl | rfl <;> assumption
  have c_LONGEST_WORD : ∃ t, mg (Str.ofString "LONGEST_WORD") = some (.int 8 t) := ⟨_, PySem.W.mg_of KX G (by k_is)⟩
  have c_MOST_PLACES : ∃ t, mg (Str.ofString "MOST_PLACES") = some (.int 4 t) := ⟨_, PySem.W.mg_of KX G (by k_is)⟩
  have cs : ∀ x i, pg.kc.lookup x = some i → ∃ t, mg x = some (.int i t) := lookup_all (by
    simp only [pg, List.mem_cons, List.not_mem_nil, or_false, forall_eq_or_imp, forall_eq]
    exact ⟨c_LONGEST_WORD, c_MOST_PLACES⟩)
  obtain ⟨f, fd, D⟩ := d_law
  have e : f = fa := by
    have z : mg (Str.ofString "law") = some (.ref f) := D.mg
    have z2 : mg (Str.ofString "law") = some (.ref fa) := hmg
    rw [z2] at z; cases z; rfl
  subst e
  refine ⟨fd, fun s u => D.bd1 s [u] rfl, fun base => ?_⟩
  have z := all_defs (P := PySem.Challenge.rw_frozenbodies_k15_whole_stores_joined.prog) (w := w) (base := base) (T := T) (k := 100) hTK hTc (fun x F z => own_of hat z) hcl hFT bl cs 50 i_law mem_law f fd D.code
  subst hT
  exact z
