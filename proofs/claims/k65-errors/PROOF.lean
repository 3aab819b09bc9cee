import PyProof.Rows.All
import HandS.ForMost
import HandS.Evl
import HandS.Exc
import HandS.ExcInit
import HandS.WordsExc
import HandS.Ends
import KE.KSuper
import KE.KExcSuper
import HandS.FStr
import KE.KExcIs
import HandS.ExcField
import HandS.IsInst
import HandS.SetFor
import HandS.Strs
import PyProof.ReprRoads
import PyProof.ReprLen
import HandS.HeadHook1
import HandS.HeadHook2
import HandS.Head2
import PySem.Challenge.RW_nowherezero_k65_errors
set_option Elab.async false
set_option linter.all false
set_option maxRecDepth 100000
/-! DLa: data, how the abstract heap bears it, the state. -/
namespace DL
open PySem PySem.Spec PyProof.Rows L2

/-- data; flags: true = owned (may be shared into results), false = borrowed -/
inductive X where
  | non | bl (b : Bool) | int (i : Int) | str (s : Str)
  | lst (b : Bool) (xs : List X) | tup (xs : List X)
  | obj (b : Bool) (C : Addr) (ns : List Str) (xs : List X)
  | ptr (a : Addr) | scr (ns : List Int) | ref (a : Addr)
  /-- an error object of the class C (not raised) -/
  | exn (C : Addr) (ns : List Str) (xs : List X)

def Ex (H H' : Hp) : Prop := ∀ a o, H a = some o → H' a = some o
theorem Ex.refl (H : Hp) : Ex H H := fun _ _ h => h
theorem Ex.trans {H H1 H2 : Hp} (a : Ex H H1) (b : Ex H1 H2) : Ex H H2 := fun x o h => b x o (a x o h)
def sel (b : Bool) (O B : Hp) : Hp := if b then O else B
/-- an error object that stands in O -/
def ExnAt (O : Hp) (a C : Addr) (fs : List (Str × V)) : Prop := (fs = [] ∧ O a = some (exo a C none)) ∨ ∃ dx, O a = some (exo a C (some dx)) ∧ O dx = some (exd dx fs)
theorem ExnAt.mono {O O' : Hp} {a C : Addr} {fs : List (Str × V)} (e : Ex O O') (h : ExnAt O a C fs) : ExnAt O' a C fs := by
  rcases h with ⟨h, q⟩ | ⟨dx, q1, q2⟩
  · exact .inl ⟨h, e _ _ q⟩
  · exact .inr ⟨dx, e _ _ q1, e _ _ q2⟩

section
variable (K : PySem.W.Frag) (O B : Hp)
mutual
def Rp : X → V → Prop
  | .non, v => v = .non
  | .bl b, v => v = .bl b
  | .int i, v => v = .int i
  | .str s, v => v = .str s
  | .ptr a, v => v = .ref a
  | .ref a, v => v = .ref a
  | .scr ns, v => ∃ a, v = .ref a ∧ SqL K B a (ns.map V.int)
  | .lst b xs, v => ∃ a vs, v = .ref a ∧ sel b O B a = some (.lst vs) ∧ RpA xs vs
  | .tup xs, v => ∃ a vs, v = .ref a ∧ SqT K O a vs ∧ RpA xs vs
  | .obj b C ns xs, v => ∃ a dx vs, v = .ref a ∧ sel b O B a = some (.ins C dx (ns.zip vs)) ∧ sel b O B dx = some (.own a) ∧ ns.length = vs.length ∧ RpA xs vs
  | .exn C ns xs, v => ∃ a vs, v = .ref a ∧ ExnAt O a C (ns.zip vs) ∧ ns.length = vs.length ∧ RpA xs vs
def RpA : List X → List V → Prop
  | [], vs => vs = []
  | x :: xs, vs => ∃ v r, vs = v :: r ∧ Rp x v ∧ RpA xs r
end
end

section
variable {K : PySem.W.Frag} {O B O' B' : Hp}
theorem ex_sqt {H H' : Hp} {a : Addr} {xs : List V} (e : Ex H H') (h : SqT K H a xs) : SqT K H' a xs := Evl.ex_t e h
theorem ex_sql {H H' : Hp} {a : Addr} {xs : List V} (e : Ex H H') (h : SqL K H a xs) : SqL K H' a xs := Evl.ex_l e h
theorem ex_sel {b : Bool} (eo : Ex O O') (eb : Ex B B') : Ex (sel b O B) (sel b O' B') := by
  cases b
  · exact eb
  · exact eo
mutual
theorem Rp.mono (eo : Ex O O') (eb : Ex B B') : ∀ (x : X) {v : V}, Rp K O B x v → Rp K O' B' x v
  | .non, _, h => by simpa only [Rp] using h
  | .bl b, _, h => by simpa only [Rp] using h
  | .int i, _, h => by simpa only [Rp] using h
  | .str s, _, h => by simpa only [Rp] using h
  | .ptr a, _, h => by simpa only [Rp] using h
  | .ref a, _, h => by simpa only [Rp] using h
  | .scr ns, _, h => by
    simp only [Rp] at h ⊢
    obtain ⟨a, e, q⟩ := h
    exact ⟨a, e, ex_sql eb q⟩
  | .lst b xs, _, h => by
    simp only [Rp] at h ⊢
    obtain ⟨a, vs, e, q, r⟩ := h
    exact ⟨a, vs, e, ex_sel eo eb a _ q, RpA.mono eo eb xs r⟩
  | .tup xs, _, h => by
    simp only [Rp] at h ⊢
    obtain ⟨a, vs, e, q, r⟩ := h
    exact ⟨a, vs, e, ex_sqt eo q, RpA.mono eo eb xs r⟩
  | .obj b C ns xs, _, h => by
    simp only [Rp] at h ⊢
    obtain ⟨a, dx, vs, e, q1, q2, q3, r⟩ := h
    exact ⟨a, dx, vs, e, ex_sel eo eb a _ q1, ex_sel eo eb dx _ q2, q3, RpA.mono eo eb xs r⟩
  | .exn C ns xs, _, h => by
    simp only [Rp] at h ⊢
    obtain ⟨a, vs, e, q1, q3, r⟩ := h
    exact ⟨a, vs, e, q1.mono eo, q3, RpA.mono eo eb xs r⟩
theorem RpA.mono (eo : Ex O O') (eb : Ex B B') : ∀ (xs : List X) {vs : List V}, RpA K O B xs vs → RpA K O' B' xs vs
  | [], _, h => by simpa only [RpA] using h
  | x :: xs, _, h => by
    simp only [RpA] at h ⊢
    obtain ⟨v, r, e, q, t⟩ := h
    exact ⟨v, r, e, Rp.mono eo eb x q, RpA.mono eo eb xs t⟩
end
theorem RpA.len : ∀ {xs : List X} {vs : List V}, RpA K O B xs vs → vs.length = xs.length
  | [], _, h => by simp only [RpA] at h; simp [h]
  | x :: xs, _, h => by
    simp only [RpA] at h
    obtain ⟨v, r, e, q, t⟩ := h
    rw [e, List.length_cons, List.length_cons, RpA.len t]
theorem RpA.get : ∀ {xs : List X} {vs : List V} {i : Nat} {x : X}, RpA K O B xs vs → xs[i]? = some x → ∃ v, vs[i]? = some v ∧ Rp K O B x v
  | [], _, _, _, _, e => by simp at e
  | y :: ys, _, 0, x, h, e => by
    simp only [RpA] at h
    obtain ⟨v, r, e1, q, t⟩ := h
    simp at e
    subst e e1
    exact ⟨v, rfl, q⟩
  | y :: ys, _, i + 1, x, h, e => by
    simp only [RpA] at h
    obtain ⟨v, r, e1, q, t⟩ := h
    subst e1
    simpa using RpA.get (i := i) t (by simpa using e)
theorem RpA.nil : RpA K O B [] [] := by simp only [RpA]
theorem RpA.cons {x : X} {xs : List X} {v : V} {vs : List V} (h : Rp K O B x v) (t : RpA K O B xs vs) : RpA K O B (x :: xs) (v :: vs) := by
  simp only [RpA]
  exact ⟨v, vs, rfl, h, t⟩
theorem RpA.append : ∀ {xs ys : List X} {vs ws : List V}, RpA K O B xs vs → RpA K O B ys ws → RpA K O B (xs ++ ys) (vs ++ ws)
  | [], _, _, _, h, t => by simp only [RpA] at h; subst h; exact t
  | x :: xs, _, _, _, h, t => by
    simp only [RpA] at h
    obtain ⟨v, r, e, q, u⟩ := h
    subst e
    exact RpA.cons q (RpA.append u t)
theorem RpA.set {x : X} {v : V} (h : Rp K O B x v) : ∀ {xs : List X} {vs : List V} (i : Nat), RpA K O B xs vs → RpA K O B (xs.set i x) (vs.set i v)
  | [], _, _, t => by simp only [RpA] at t; subst t; simp only [List.set_nil, RpA]
  | y :: ys, _, 0, t => by
    simp only [RpA] at t
    obtain ⟨w, r, e, q, u⟩ := t
    subst e
    exact RpA.cons h u
  | y :: ys, _, i + 1, t => by
    simp only [RpA] at t
    obtain ⟨w, r, e, q, u⟩ := t
    subst e
    exact RpA.cons q (RpA.set h i u)
theorem RpA.take : ∀ {xs : List X} {vs : List V} (n : Nat), RpA K O B xs vs → RpA K O B (xs.take n) (vs.take n)
  | xs, vs, 0, _ => by simp only [List.take_zero, RpA]
  | [], _, n + 1, t => by simp only [RpA] at t; subst t; simp only [List.take_nil, RpA]
  | y :: ys, _, n + 1, t => by
    simp only [RpA] at t
    obtain ⟨w, r, e, q, u⟩ := t
    subst e
    exact RpA.cons q (RpA.take n u)
theorem RpA.drop : ∀ {xs : List X} {vs : List V} (n : Nat), RpA K O B xs vs → RpA K O B (xs.drop n) (vs.drop n)
  | xs, vs, 0, t => t
  | [], _, n + 1, t => by simp only [RpA] at t; subst t; simp only [List.drop_nil, RpA]
  | y :: ys, _, n + 1, t => by
    simp only [RpA] at t
    obtain ⟨w, r, e, q, u⟩ := t
    subst e
    exact RpA.drop n u
theorem RpA.reverse : ∀ {xs : List X} {vs : List V}, RpA K O B xs vs → RpA K O B xs.reverse vs.reverse
  | [], _, t => by simp only [RpA] at t; subst t; simp only [List.reverse_nil, RpA]
  | y :: ys, _, t => by
    simp only [RpA] at t
    obtain ⟨w, r, e, q, u⟩ := t
    subst e
    rw [List.reverse_cons, List.reverse_cons]
    exact (RpA.reverse u).append (RpA.cons q RpA.nil)
theorem RpA.rep {xs : List X} {vs : List V} (h : RpA K O B xs vs) : ∀ n : Nat, RpA K O B (List.replicate n xs).flatten (List.replicate n vs).flatten
  | 0 => RpA.nil
  | n + 1 => by
    rw [List.replicate_succ, List.replicate_succ, List.flatten_cons, List.flatten_cons]
    exact h.append (RpA.rep h n)
theorem RpA.dropLast : ∀ {xs : List X} {vs : List V}, RpA K O B xs vs → RpA K O B xs.dropLast vs.dropLast := fun {xs vs} h => by
  rw [List.dropLast_eq_take, List.dropLast_eq_take, h.len]
  exact h.take _
theorem RpA.ints : ∀ {ns : List Int} {vs : List V}, RpA K O B (ns.map X.int) vs → vs = ns.map V.int
  | [], _, h => by simp only [List.map_nil, RpA] at h; exact h
  | n :: ns, _, h => by
    simp only [List.map_cons, RpA] at h
    obtain ⟨v, r, e, q, t⟩ := h
    simp only [Rp] at q
    rw [e, q, RpA.ints t, List.map_cons]
theorem RpA.of_ints : ∀ (ns : List Int), RpA K O B (ns.map X.int) (ns.map V.int)
  | [] => RpA.nil
  | n :: ns => RpA.cons (by simp only [Rp]) (RpA.of_ints ns)
end

/-! ### mutable objects -/
inductive Cell where
  | lst (xs : List X)
  | dK (kvs : List (Key × X))
  | dT (kvs : List (List Key × X))
  | ins (C : Addr) (ns : List Str) (xs : List X)
abbrev Mu := Addr → Option Cell
def mset (M : Mu) (p : Addr) (c : Cell) : Mu := fun a => if a = p then some c else M a
def mdel (M : Mu) (p : Addr) : Mu := fun a => if a = p then none else M a
def m0 : Mu := fun _ => none
@[simp] theorem mset_same {M : Mu} {p : Addr} {c : Cell} : mset M p c p = some c := by simp [mset]
theorem mset_ne {M : Mu} {p q : Addr} {c : Cell} (h : q ≠ p) : mset M p c q = M q := by simp [mset, h]
@[simp] theorem mset_mset {M : Mu} {p : Addr} {c d : Cell} : mset (mset M p c) p d = mset M p d := by
  funext a; simp only [mset]; split <;> rfl
@[simp] theorem mdel_mset {M : Mu} {p : Addr} {c : Cell} : mdel (mset M p c) p = mdel M p := by
  funext a; simp only [mset, mdel]; split <;> rfl
theorem mdel_of {M : Mu} {p : Addr} (h : M p = none) : mdel M p = M := by
  funext a; simp only [mdel]; split
  · rename_i e; rw [e, h]
  · rfl
theorem mset_comm {M : Mu} {p q : Addr} {c d : Cell} (h : p ≠ q) : mset (mset M p c) q d = mset (mset M q d) p c := by
  funext a; simp only [mset]
  by_cases h1 : a = p
  · subst h1; simp [h]
  · simp [h1]
theorem mset_self {M : Mu} {p : Addr} {c : Cell} (h : M p = some c) : mset M p c = M := by
  funext a; simp only [mset]; split
  · rename_i e; rw [e, h]
  · rfl
/-- what is not mutable -/
def fz (H : Hp) (M : Mu) : Hp := fun a => match M a with | some _ => none | none => H a
theorem fz_of {H : Hp} {M : Mu} {a : Addr} (h : M a = none) : fz H M a = H a := by simp [fz, h]
theorem of_fz {H : Hp} {M : Mu} {a : Addr} {o : HO} (h : fz H M a = some o) : H a = some o ∧ M a = none := by
  unfold fz at h
  cases e : M a with
  | none => rw [e] at h; exact ⟨h, rfl⟩
  | some c => rw [e] at h; cases h
theorem fz_sub {H : Hp} {M : Mu} : Ex (fz H M) H := fun _ _ h => (of_fz h).1
theorem fz_m0 {H : Hp} : fz H m0 = H := by funext a; rfl

section
variable (K : PySem.W.Frag)
def RpC (O B H : Hp) (a : Addr) : Cell → Prop
  | .lst xs => ∃ vs, H a = some (.lst vs) ∧ RpA K O B xs vs
  | .dK kvs => ∃ vs, H a = some (.dK ((kvs.map (·.1)).zip vs)) ∧ kvs.length = vs.length ∧ RpA K O B (kvs.map (·.2)) vs
  | .dT kvs => ∃ vs, H a = some (.dT ((kvs.map (·.1)).zip vs)) ∧ kvs.length = vs.length ∧ RpA K O B (kvs.map (·.2)) vs
  | .ins C ns xs => ∃ dx vs, H a = some (.ins C dx (ns.zip vs)) ∧ H dx = some (.own a) ∧ ns.length = vs.length ∧ RpA K O B xs vs
/-- a def's entry: its heap, what is owned there, what is borrowed -/
structure Ent where
  H0 : Hp
  O0 : Hp
  B0 : Hp
  C0 : Hp
  P0 : Addr → Prop
structure Stt (N : Ent) (O : Hp) (M : Mu) (H : Hp) : Prop where
  oh : Ex O H
  om : ∀ a c, M a = some c → O a = none
  tp : ∀ a xs, H a = some (.tup xs) → O a = some (.tup xs)
  cl : ∀ a c, M a = some c → RpC K O N.B0 H a c
  b0 : Ex N.B0 (fz H M)
  c0 : Ex N.C0 (fz H M)
  o0 : Ex N.O0 O
  nw : ∀ a o, O a = some o → N.O0 a = some o ∨ N.H0 a = none ∨ N.P0 a
  dm : ∀ a, H a = none → N.H0 a = none
  mf : ∀ a c, M a = some c → N.H0 a = none ∨ N.P0 a
abbrev Dl := List (Option X)
def Sl (O B : Hp) : Dl → L2.St → Prop
  | [], σ => σ = []
  | none :: δ, σ => ∃ o r, σ = o :: r ∧ Sl O B δ r
  | some x :: δ, σ => ∃ v r, σ = some v :: r ∧ Rp K O B x v ∧ Sl O B δ r
end
section
variable {K : PySem.W.Frag} {N : Ent} {O O' B B' H H' : Hp} {M M' : Mu} {a p : Addr} {c : Cell}
theorem RpC.mono (eo : Ex O O') (eb : Ex B B') (hh : ∀ b o, (b = a ∨ H b = some (.own a)) → H b = some o → H' b = some o) (h : RpC K O B H a c) : RpC K O' B' H' a c := by
  cases c with
  | lst xs => obtain ⟨vs, e, r⟩ := h; exact ⟨vs, hh _ _ (.inl rfl) e, RpA.mono eo eb _ r⟩
  | dK kvs => obtain ⟨vs, e, l, r⟩ := h; exact ⟨vs, hh _ _ (.inl rfl) e, l, RpA.mono eo eb _ r⟩
  | dT kvs => obtain ⟨vs, e, l, r⟩ := h; exact ⟨vs, hh _ _ (.inl rfl) e, l, RpA.mono eo eb _ r⟩
  | ins C ns xs => obtain ⟨dx, vs, e, e2, l, r⟩ := h; exact ⟨dx, vs, hh _ _ (.inl rfl) e, hh _ _ (.inr e2) e2, l, RpA.mono eo eb _ r⟩
theorem RpC.there (h : RpC K O B H a c) : ∃ o, H a = some o ∧ Mut (some o) := by
  cases c with
  | lst xs => obtain ⟨vs, e, r⟩ := h; exact ⟨_, e, trivial⟩
  | dK kvs => obtain ⟨vs, e, l, r⟩ := h; exact ⟨_, e, trivial⟩
  | dT kvs => obtain ⟨vs, e, l, r⟩ := h; exact ⟨_, e, trivial⟩
  | ins C ns xs => obtain ⟨dx, vs, e, e2, l, r⟩ := h; exact ⟨_, e, trivial⟩
theorem Sl.mono (eo : Ex O O') (eb : Ex B B') : ∀ {δ : Dl} {σ : L2.St}, Sl K O B δ σ → Sl K O' B' δ σ
  | [], _, h => by simpa only [Sl] using h
  | none :: δ, _, h => by
    simp only [Sl] at h ⊢
    obtain ⟨o, r, e, t⟩ := h
    exact ⟨o, r, e, Sl.mono eo eb t⟩
  | some x :: δ, _, h => by
    simp only [Sl] at h ⊢
    obtain ⟨v, r, e, q, t⟩ := h
    exact ⟨v, r, e, q.mono eo eb x, Sl.mono eo eb t⟩
theorem Sl.get : ∀ {δ : Dl} {σ : L2.St} {i : Nat} {x : X}, Sl K O B δ σ → δ[i]? = some (some x) → ∃ v, σ[i]? = some (some v) ∧ Rp K O B x v
  | [], _, _, _, _, e => by simp at e
  | none :: δ, _, 0, x, h, e => by simp at e
  | some y :: δ, _, 0, x, h, e => by
    simp only [Sl] at h
    obtain ⟨v, r, e1, q, t⟩ := h
    simp at e
    subst e e1
    exact ⟨v, rfl, q⟩
  | none :: δ, _, i + 1, x, h, e => by
    simp only [Sl] at h
    obtain ⟨o, r, e1, t⟩ := h
    subst e1
    simpa using Sl.get (i := i) t (by simpa using e)
  | some y :: δ, _, i + 1, x, h, e => by
    simp only [Sl] at h
    obtain ⟨v, r, e1, q, t⟩ := h
    subst e1
    simpa using Sl.get (i := i) t (by simpa using e)
theorem Sl.set {x : X} {v : V} (h : Rp K O B x v) : ∀ {δ : Dl} {σ : L2.St} (i : Nat), Sl K O B δ σ → Sl K O B (δ.set i (some x)) (σ.set i (some v))
  | [], _, _, t => by simp only [Sl] at t; subst t; simp only [List.set_nil, Sl]
  | none :: δ, _, 0, t => by
    simp only [Sl] at t
    obtain ⟨o, r, e, u⟩ := t
    subst e
    simp only [List.set_cons_zero, Sl]
    exact ⟨v, r, rfl, h, u⟩
  | some y :: δ, _, 0, t => by
    simp only [Sl] at t
    obtain ⟨w, r, e, q, u⟩ := t
    subst e
    simp only [List.set_cons_zero, Sl]
    exact ⟨v, r, rfl, h, u⟩
  | none :: δ, _, i + 1, t => by
    simp only [Sl] at t
    obtain ⟨o, r, e, u⟩ := t
    subst e
    simp only [List.set_cons_succ, Sl]
    exact ⟨o, _, rfl, Sl.set h i u⟩
  | some y :: δ, _, i + 1, t => by
    simp only [Sl] at t
    obtain ⟨w, r, e, q, u⟩ := t
    subst e
    simp only [List.set_cons_succ, Sl]
    exact ⟨w, _, rfl, q, Sl.set h i u⟩
/-- the wish of a later state to know less -/
def Wk : Dl → Dl → Prop
  | [], [] => True
  | _ :: δ, none :: δ' => Wk δ δ'
  | some x :: δ, some y :: δ' => x = y ∧ Wk δ δ'
  | _, _ => False
theorem Sl.weak : ∀ {δ δ' : Dl} {σ : L2.St}, Wk δ δ' → Sl K O B δ σ → Sl K O B δ' σ
  | [], [], _, _, h => h
  | none :: δ, none :: δ', _, w, h => by
    simp only [Sl] at h ⊢
    obtain ⟨o, r, e, u⟩ := h
    exact ⟨o, r, e, Sl.weak w u⟩
  | some x :: δ, none :: δ', _, w, h => by
    simp only [Sl] at h ⊢
    obtain ⟨v, r, e, q, u⟩ := h
    exact ⟨_, r, e, Sl.weak w u⟩
  | some x :: δ, some y :: δ', _, w, h => by
    simp only [Wk] at w
    obtain ⟨rfl, w⟩ := w
    simp only [Sl] at h ⊢
    obtain ⟨v, r, e, q, u⟩ := h
    exact ⟨_, r, e, q, Sl.weak w u⟩
  | none :: _, some _ :: _, _, w, _ => by simp only [Wk] at w
  | [], _ :: _, _, w, _ => by simp only [Wk] at w
  | _ :: _, [], _, w, _ => by simp only [Wk] at w

/-! ### a new object -/
theorem ex_upd {H : Hp} {p : Addr} {o : HO} (h : H p = none) : Ex H (upd H p o) := fun a u e => by
  rw [upd_ne (ne_of_none e h)]
  exact e
theorem Stt.mnone (S : Stt K N O M H) (h : H p = none) : M p = none := by
  cases e : M p with
  | none => rfl
  | some c =>
    obtain ⟨o, q, _⟩ := (S.cl p c e).there
    rw [h] at q; cases q
theorem Stt.onone (S : Stt K N O M H) (h : H p = none) : O p = none := by
  cases e : O p with
  | none => rfl
  | some o => rw [S.oh p o e] at h; cases h
/-- .. owned -/
theorem Stt.own (S : Stt K N O M H) (h : H p = none) (o : HO) : Stt K N (upd O p o) M (upd H p o) ∧ Ex O (upd O p o) ∧ upd O p o p = some o := by
  have e1 : Ex O (upd O p o) := ex_upd (S.onone h)
  have e2 : Ex H (upd H p o) := ex_upd h
  have e3 : Ex (fz H M) (fz (upd H p o) M) := fun a u q => by
    obtain ⟨q1, q2⟩ := of_fz q
    rw [fz_of q2]
    exact e2 a u q1
  refine ⟨⟨fun a u q => ?_, fun a c q => ?_, fun a xs q => ?_, fun a c q => (S.cl a c q).mono e1 (Ex.refl _) fun b u _ z => e2 b u z, S.b0.trans e3, S.c0.trans e3, S.o0.trans e1, fun a u q => ?_, fun a q => ?_, S.mf⟩, e1, upd_same⟩
  · by_cases hb : a = p
    · subst hb; rw [upd_same] at q ⊢; exact q
    · rw [upd_ne hb] at q ⊢; exact S.oh a u q
  · have hb : a ≠ p := fun z => by rw [z, S.mnone h] at q; cases q
    rw [upd_ne hb]; exact S.om a c q
  · by_cases hb : a = p
    · subst hb; rw [upd_same] at q ⊢; exact q
    · rw [upd_ne hb] at q ⊢; exact S.tp a xs q
  · by_cases hb : a = p
    · subst hb; exact .inr (.inl (S.dm _ h))
    · rw [upd_ne hb] at q; exact S.nw a u q
  · by_cases hb : a = p
    · subst hb; rw [upd_same] at q; cases q
    · rw [upd_ne hb] at q; exact S.dm a q
/-- .. mutable -/
theorem Stt.mut (S : Stt K N O M H) (h : H p = none) {xs : List X} {vs : List V} (r : RpA K O N.B0 xs vs) :
    Stt K N O (mset M p (.lst xs)) (upd H p (.lst vs)) := by
  have e2 : Ex H (upd H p (.lst vs)) := ex_upd h
  have mn := S.mnone h
  have e3 : Ex (fz H M) (fz (upd H p (.lst vs)) (mset M p (.lst xs))) := fun a u q => by
    obtain ⟨q1, q2⟩ := of_fz q
    have hb : a ≠ p := fun z => by rw [z, h] at q1; cases q1
    rw [fz_of (by rw [mset_ne hb]; exact q2)]
    exact e2 a u q1
  refine ⟨S.oh.trans e2, fun a c q => ?_, fun a xs q => ?_, fun a c q => ?_, S.b0.trans e3, S.c0.trans e3, S.o0, S.nw, fun a q => ?_, fun a c q => ?_⟩
  · by_cases hb : a = p
    · subst hb; exact S.onone h
    · rw [mset_ne hb] at q; exact S.om a c q
  · by_cases hb : a = p
    · subst hb; rw [upd_same] at q; cases q
    · rw [upd_ne hb] at q; exact S.tp a xs q
  · by_cases hb : a = p
    · subst hb
      rw [mset_same] at q
      cases q
      exact ⟨vs, upd_same, r⟩
    · rw [mset_ne hb] at q
      exact (S.cl a c q).mono (Ex.refl O) (Ex.refl _) fun b u _ z => e2 b u z
  · by_cases hb : a = p
    · subst hb; rw [upd_same] at q; cases q
    · rw [upd_ne hb] at q; exact S.dm a q
  · by_cases hb : a = p
    · subst hb; exact .inl (S.dm _ h)
    · rw [mset_ne hb] at q; exact S.mf a c q
/-- a mutable list changes -/
theorem Stt.write (S : Stt K N O M H) {xs ys : List X} {ws : List V} (h : M p = some (.lst xs)) (r : RpA K O N.B0 ys ws) :
    Stt K N O (mset M p (.lst ys)) (upd H p (.lst ws)) := by
  obtain ⟨vs, hp, _⟩ := S.cl p _ h
  have op := S.om p _ h
  have e3 : Ex (fz H M) (fz (upd H p (.lst ws)) (mset M p (.lst ys))) := fun a u q => by
    obtain ⟨q1, q2⟩ := of_fz q
    have hb : a ≠ p := fun z => by rw [z, h] at q2; cases q2
    rw [fz_of (by rw [mset_ne hb]; exact q2), upd_ne hb]
    exact q1
  refine ⟨fun a u q => ?_, fun a c q => ?_, fun a xs q => ?_, fun a c q => ?_, S.b0.trans e3, S.c0.trans e3, S.o0, S.nw, fun a q => ?_, fun a c q => ?_⟩
  · have hb : a ≠ p := fun z => by rw [z, op] at q; cases q
    rw [upd_ne hb]; exact S.oh a u q
  · by_cases hb : a = p
    · subst hb; exact op
    · rw [mset_ne hb] at q; exact S.om a c q
  · by_cases hb : a = p
    · subst hb; rw [upd_same] at q; cases q
    · rw [upd_ne hb] at q; exact S.tp a xs q
  · by_cases hb : a = p
    · subst hb
      rw [mset_same] at q
      cases q
      exact ⟨ws, upd_same, r⟩
    · rw [mset_ne hb] at q
      refine (S.cl a c q).mono (Ex.refl O) (Ex.refl _) fun b u hbb z => ?_
      have hb' : b ≠ p := by
        rcases hbb with e | e
        · rw [e]; exact hb
        · intro z; rw [z, hp] at e; cases e
      rw [upd_ne hb']; exact z
  · by_cases hb : a = p
    · subst hb; rw [upd_same] at q; cases q
    · rw [upd_ne hb] at q; exact S.dm a q
  · by_cases hb : a = p
    · subst hb; exact S.mf _ _ h
    · rw [mset_ne hb] at q; exact S.mf a c q
/-- a mutable list is mutable no more: owned from here on -/
theorem Stt.freeze (S : Stt K N O M H) {xs : List X} (h : M p = some (.lst xs)) :
    ∃ O', Stt K N O' (mdel M p) H ∧ Ex O O' ∧ Rp K O' N.B0 (.lst true xs) (.ref p) := by
  obtain ⟨vs, hp, r⟩ := S.cl p _ h
  have op := S.om p _ h
  have e1 : Ex O (upd O p (.lst vs)) := ex_upd op
  have e3 : Ex (fz H M) (fz H (mdel M p)) := fun a u q => by
    obtain ⟨q1, q2⟩ := of_fz q
    rw [fz_of]
    · exact q1
    · unfold mdel
      split
      · rfl
      · exact q2
  refine ⟨upd O p (.lst vs), ⟨fun a u q => ?_, fun a c q => ?_, fun a xs q => ?_, fun a c q => ?_, S.b0.trans e3, S.c0.trans e3, S.o0.trans e1, fun a u q => ?_, S.dm, fun a c q => ?_⟩, e1, ?_⟩
  · by_cases hb : a = p
    · subst hb; rw [upd_same] at q; cases q; exact hp
    · rw [upd_ne hb] at q; exact S.oh a u q
  · by_cases hb : a = p
    · subst hb; unfold mdel at q; simp at q
    · have q' : M a = some c := by unfold mdel at q; rw [if_neg hb] at q; exact q
      rw [upd_ne hb]; exact S.om a c q'
  · by_cases hb : a = p
    · subst hb; rw [hp] at q; cases q
    · rw [upd_ne hb]; exact S.tp a xs q
  · by_cases hb : a = p
    · subst hb; unfold mdel at q; simp at q
    · have q' : M a = some c := by unfold mdel at q; rw [if_neg hb] at q; exact q
      exact (S.cl a c q').mono e1 (Ex.refl _) fun b u _ z => z
  · by_cases hb : a = p
    · subst hb; exact .inr (S.mf _ _ h)
    · rw [upd_ne hb] at q; exact S.nw a u q
  · by_cases hb : a = p
    · subst hb; unfold mdel at q; simp at q
    · have q' : M a = some c := by unfold mdel at q; rw [if_neg hb] at q; exact q
      exact S.mf a c q'
  · simp only [Rp]
    exact ⟨p, vs, rfl, upd_same, RpA.mono e1 (Ex.refl _) _ r⟩
end
end DL

set_option maxRecDepth 100000
/-! DLb: weakest preconditions over data, their soundness: expressions, tests, arguments, statements, loops. -/
namespace DL
open PySem PySem.Spec PyProof.Rows L2

abbrev VKd := X → Mu → Prop
abbrev DE := Dl → Mu → VKd → Prop
abbrev DT := Dl → Mu → (Bool → Mu → Prop) → Prop
abbrev DA := Dl → Mu → (List X → Mu → Prop) → Prop
structure EndsD where
  nx : Dl → Mu → Prop
  rt : VKd
  bk : Dl → Mu → Prop := fun _ _ => False
  ct : Dl → Mu → Prop := fun _ _ => False
abbrev DS := EndsD → Dl → Mu → Prop

structure Nxt (K : PySem.W.Frag) (N : Ent) (O : Hp) (M : Mu) (H : Hp) (O' : Hp) (M' : Mu) (H' : Hp) : Prop where
  st : Stt K N O' M' H'
  eo : Ex O O'
section
variable {K : PySem.W.Frag} {N : Ent} {O O' O1 O2 H H' H1 H2 : Hp} {M M' M1 M2 : Mu}
theorem Nxt.refl (S : Stt K N O M H) : Nxt K N O M H O M H := ⟨S, Ex.refl _⟩
theorem Nxt.trans (a : Nxt K N O M H O1 M1 H1) (b : Nxt K N O1 M1 H1 O2 M2 H2) : Nxt K N O M H O2 M2 H2 := ⟨b.st, a.eo.trans b.eo⟩
theorem Nxt.rp (a : Nxt K N O M H O1 M1 H1) {x : X} {v : V} (h : Rp K O N.B0 x v) : Rp K O1 N.B0 x v := h.mono a.eo (Ex.refl _) x
theorem Nxt.rpa (a : Nxt K N O M H O1 M1 H1) {x : List X} {v : List V} (h : RpA K O N.B0 x v) : RpA K O1 N.B0 x v := h.mono a.eo (Ex.refl _) x
theorem Nxt.sl (a : Nxt K N O M H O1 M1 H1) {x : Dl} {v : L2.St} (h : Sl K O N.B0 x v) : Sl K O1 N.B0 x v := h.mono a.eo (Ex.refl _)
end

section
variable (K : PySem.W.Frag) (W : Ent → Prop)
def SndE (t : TE) (d : DE) : Prop := ∀ (N : Ent) (O : Hp) (M : Mu) (δ : Dl) (σ : L2.St) (H : Hp) (Q : VK) (Qd : VKd), W N → Stt K N O M H → Sl K O N.B0 δ σ → d δ M Qd →
  (∀ O' M' H' x v, Nxt K N O M H O' M' H' → Rp K O' N.B0 x v → Qd x M' → Q v H') → t σ H Q
def SndT (t : TT) (d : DT) : Prop := ∀ (N : Ent) (O : Hp) (M : Mu) (δ : Dl) (σ : L2.St) (H : Hp) (Q : Bool → Hp → Prop) (Qd : Bool → Mu → Prop), W N → Stt K N O M H → Sl K O N.B0 δ σ → d δ M Qd →
  (∀ O' M' H' b, Nxt K N O M H O' M' H' → Qd b M' → Q b H') → t σ H Q
def SndA (t : TA) (d : DA) : Prop := ∀ (N : Ent) (O : Hp) (M : Mu) (δ : Dl) (σ : L2.St) (H : Hp) (Q : List V → Hp → Prop) (Qd : List X → Mu → Prop), W N → Stt K N O M H → Sl K O N.B0 δ σ → d δ M Qd →
  (∀ O' M' H' xs vs, Nxt K N O M H O' M' H' → RpA K O' N.B0 xs vs → Qd xs M' → Q vs H') → t σ H Q
structure Cmp (N : Ent) (D : Ends) (DD : EndsD) : Prop where
  nx : ∀ O M δ σ H, Stt K N O M H → Sl K O N.B0 δ σ → DD.nx δ M → D.nx σ H
  rt : ∀ O M H x v, Stt K N O M H → Rp K O N.B0 x v → DD.rt x M → D.rt v H
  bk : ∀ O M δ σ H, Stt K N O M H → Sl K O N.B0 δ σ → DD.bk δ M → D.bk σ H
  ct : ∀ O M δ σ H, Stt K N O M H → Sl K O N.B0 δ σ → DD.ct δ M → D.ct σ H
def SndS (t : TS) (d : DS) : Prop := ∀ (N : Ent) (D : Ends) (DD : EndsD), W N → Cmp K N D DD → ∀ (O : Hp) (M : Mu) (δ : Dl) (σ : L2.St) (H : Hp), Stt K N O M H → Sl K O N.B0 δ σ → d DD δ M → t D σ H
end
/-- what an entry's wish must bear: fewer states -/
def Anti (K : PySem.W.Frag) (W : Ent → Prop) : Prop := ∀ N N', N'.B0 = N.B0 → (∀ O M H, Stt K N' O M H → Stt K N O M H) → W N → W N'
/-- the entry, told by a later state -/
def Ent.at (N : Ent) (O : Hp) : Ent := ⟨N.H0, O, N.B0, N.C0, N.P0⟩
theorem Stt.to {K : PySem.W.Frag} {N : Ent} {O O1 H H1 : Hp} {M M1 : Mu} (S : Stt K N O M H) (eo : Ex O1 O) (S1 : Stt K N O1 M1 H1) : Stt K (N.at O1) O M H :=
  ⟨S.oh, S.om, S.tp, S.cl, S.b0, S.c0, eo, fun a o q => by
    rcases S.nw a o q with h | h
    · exact .inl (S1.o0 a o h)
    · exact .inr h, S.dm, S.mf⟩
theorem Stt.un {K : PySem.W.Frag} {N : Ent} {O O1 H H1 : Hp} {M M1 : Mu} (S : Stt K (N.at O1) O M H) (S1 : Stt K N O1 M1 H1) : Stt K N O M H :=
  ⟨S.oh, S.om, S.tp, S.cl, S.b0, S.c0, S1.o0.trans S.o0, fun a o q => by
    rcases S.nw a o q with h | h
    · exact S1.nw a o h
    · exact .inr h, S.dm, S.mf⟩
structure PD (X : Cx) (W : Ent → Prop) (e : Expr) (d : DE) : Prop where
  ex : ∃ t, PE X e t ∧ SndE X.K W t d
structure PTD (X : Cx) (W : Ent → Prop) (e : Expr) (d : DT) : Prop where
  ex : ∃ t, PT X e t ∧ SndT X.K W t d
structure PWD (X : Cx) (W : Ent → Prop) (e : Expr) (d : DT) : Prop where
  ex : ∃ t, PW X e t ∧ SndT X.K W t d
structure PAD (X : Cx) (W : Ent → Prop) (es : List Expr) (d : DA) : Prop where
  ex : ∃ t, PA X es t ∧ SndA X.K W t d
structure PSD (X : Cx) (W : Ent → Prop) (s : Stmt) (d : DS) : Prop where
  ex : ∃ t, PS X s t ∧ SndS X.K W t d
structure PSsD (X : Cx) (W : Ent → Prop) (s : List Stmt) (d : DS) : Prop where
  ex : ∃ t, PSs X s t ∧ SndS X.K W t d

/-! ### names, constants -/
def dvar (i : Nat) : DE := fun δ M Q => match δ[i]? with
  | some (some x) => Q x M
  | _ => False
def dc (x : X) : DE := fun _ M Q => Q x M
section
variable {X : Cx} {W : Ent → Prop} {K : PySem.W.Frag}
theorem snd_var {i : Nat} : SndE K W (tVar i) (dvar i) := fun N O M δ σ H Q Qd _ S L h k => by
  unfold dvar at h
  split at h
  · rename_i x e
    obtain ⟨v, e1, r⟩ := L.get e
    exact ⟨v, e1, k O M H x v (Nxt.refl S) r h⟩
  · exact h.elim
theorem pd_var (i : Nat) {x : Str} {pos : Pos} (hN : X.N[i]? = some x := by rfl) (hv : Vis X.env.scope x := by first | exact Or.inl rfl | exact Or.inr (Or.inl rfl) | exact Or.inr (Or.inr rfl)) (hd : (x == ("__debug__" : Str)) = false := by decide)
    (hcd : (x == ("__classdict__" : Str)) = false := by decide) : PD X W (.Name x pos) (dvar i) := ⟨_, pe_var hN hv hd hcd, snd_var⟩
theorem snd_c {v : V} {x : DL.X} (hr : ∀ O B, Rp K O B x v) : SndE K W (tC v) (dc x) := fun N O M δ σ H Q Qd _ S L h k => k O M H x v (Nxt.refl S) (hr _ _) h
theorem pd_int {i j pos} : PD X W (.Constant (.int i) j pos) (dc (.int i)) := ⟨_, pe_int, snd_c fun _ _ => by simp only [Rp]⟩
theorem pd_bl {b j pos} : PD X W (.Constant (.bool b) j pos) (dc (.bl b)) := ⟨_, pe_bl, snd_c fun _ _ => by simp only [Rp]⟩
theorem pd_non {j pos} : PD X W (.Constant .none j pos) (dc .non) := ⟨_, pe_non, snd_c fun _ _ => by simp only [Rp]⟩
theorem pd_str {x j pos} : PD X W (.Constant (.str x) j pos) (dc (.str x)) := ⟨_, pe_str, snd_c fun _ _ => by simp only [Rp]⟩
end

/-! ### arguments, displays -/
def dnil : DA := fun _ M Q => Q [] M
def dcons (a : DE) (r : DA) : DA := fun δ M Q => a δ M fun x M1 => r δ M1 fun xs M2 => Q (x :: xs) M2
/-- a new list: mutable, or owned -/
def newl (m : Bool) (zs : List X) (M : Mu) (Q : VKd) : Prop := match m with
  | true => ∀ p, M p = none → Q (.ptr p) (mset M p (.lst zs))
  | false => Q (.lst true zs) M
def dlst (m : Bool) (a : DA) : DE := fun δ M Q => a δ M fun xs M1 => xs.length ≤ sizeLine ∧ newl m xs M1 Q
def dtup (a : DA) : DE := fun δ M Q => a δ M fun xs M1 => xs.length ≤ sizeLine ∧ Q (.tup xs) M1
section
variable {X : Cx} {W : Ent → Prop} {K : PySem.W.Frag} {a : Expr} {es : List Expr} {pos : Pos} {da : DE} {dr : DA}
theorem snd_nil : SndA K W tNil dnil := fun N O M δ σ H Q Qd _ S L h k => k O M H [] [] (Nxt.refl S) RpA.nil h
theorem snd_cons {t : TE} {u : TA} (h1 : SndE K W t da) (h2 : SndA K W u dr) : SndA K W (tCons t u) (dcons da dr) := fun N O M δ σ H Q Qd w S L h k =>
  h1 N O M δ σ H _ _ w S L h fun O1 M1 H1 x v n1 r1 h => h2 N O1 M1 δ σ H1 _ _ w n1.st (n1.sl L) h fun O2 M2 H2 xs vs n2 r2 h => k O2 M2 H2 _ _ (n1.trans n2) (RpA.cons (n2.rp r1) r2) h
theorem pad_nil : PAD X W [] dnil := ⟨_, pa_nil, snd_nil⟩
theorem pad_cons (ha : PD X W a da) (hr : PAD X W es dr) (hs : starEach (a :: es) X.env = (false, eval a X.env) :: starEach es X.env := by rfl) : PAD X W (a :: es) (dcons da dr) := by
  obtain ⟨t, h1, s1⟩ := ha.ex
  obtain ⟨u, h2, s2⟩ := hr.ex
  exact ⟨_, pa_cons h1 h2 hs, snd_cons s1 s2⟩
/-- what a rule that makes a list gives -/
theorem newl_ok {N : Ent} {O H : Hp} {M : Mu} {m : Bool} {zs : List DL.X} {vs : List V} {Q : VK} {Qd : VKd} (S : Stt K N O M H) (r : RpA K O N.B0 zs vs) (h : newl m zs M Qd)
    (k : ∀ O' M' H' x v, Nxt K N O M H O' M' H' → Rp K O' N.B0 x v → Qd x M' → Q v H') (p : Addr) (hp : H p = none) : Q (.ref p) (upd H p (.lst vs)) := by
  cases m with
  | false =>
    obtain ⟨S', eo, e⟩ := S.own hp (.lst vs)
    refine k _ _ _ (.lst true zs) _ ⟨S', eo⟩ ?_ h
    simp only [Rp]
    exact ⟨p, vs, rfl, e, r.mono eo (Ex.refl _)⟩
  | true =>
    have S' := S.mut hp r
    refine k _ _ _ (.ptr p) _ ⟨S', Ex.refl _⟩ ?_ (h p (S.mnone hp))
    simp only [Rp]
theorem pd_lst (m : Bool) (h : PAD X W es dr) : PD X W (.List es pos) (dlst m dr) := by
  obtain ⟨t, h1, s1⟩ := h.ex
  refine ⟨_, pe_lst h1, fun N O M δ σ H Q Qd w S L h k => s1 N O M δ σ H _ _ w S L h fun O1 M1 H1 xs vs n1 r1 h => ⟨by rw [r1.len]; exact h.1, newl_ok n1.st r1 h.2 fun O' M' H' x v n r q => k O' M' H' x v (n1.trans n) r q⟩⟩
theorem pd_tup {x1} (h : PAD X W es dr) : PD X W (.Tuple es x1 pos) (dtup dr) := by
  obtain ⟨t, h1, s1⟩ := h.ex
  refine ⟨_, pe_tup h1, fun N O M δ σ H Q Qd w S L h k => s1 N O M δ σ H _ _ w S L h fun O1 M1 H1 xs vs n1 r1 h => ⟨by rw [r1.len]; exact h.1, fun p hp => ?_⟩⟩
  obtain ⟨S', eo, e⟩ := n1.st.own hp (.tup vs)
  refine k _ _ _ (.tup xs) _ (n1.trans ⟨S', eo⟩) ?_ h.2
  simp only [Rp]
  exact ⟨p, vs, rfl, st_of' e, r1.mono eo (Ex.refl _)⟩
where st_of' {K : PySem.W.Frag} {H : Hp} {a : Addr} {xs : List V} (h : H a = some (.tup xs)) : SqT K H a xs := .inl (.inl h)
end

/-! ### operations by values -/
def SndOp (K : PySem.W.Frag) (r : R2) (f : X → X → Mu → VKd → Prop) : Prop := ∀ (N : Ent) (O : Hp) (M : Mu) (H : Hp) (x y : X) (v u : V) (Q : VK) (Qd : VKd), Stt K N O M H → Rp K O N.B0 x v → Rp K O N.B0 y u → f x y M Qd →
  (∀ O' M' H' z w, Nxt K N O M H O' M' H' → Rp K O' N.B0 z w → Qd z M' → Q w H') → r v u H Q
def SndU (K : PySem.W.Frag) (r : V → Hp → VK → Prop) (f : X → Mu → VKd → Prop) : Prop := ∀ (N : Ent) (O : Hp) (M : Mu) (H : Hp) (x : X) (v : V) (Q : VK) (Qd : VKd), Stt K N O M H → Rp K O N.B0 x v → f x M Qd →
  (∀ O' M' H' z w, Nxt K N O M H O' M' H' → Rp K O' N.B0 z w → Qd z M' → Q w H') → r v H Q
def SndC (K : PySem.W.Frag) (r : List V → Hp → VK → Prop) (f : List X → Mu → VKd → Prop) : Prop := ∀ (N : Ent) (O : Hp) (M : Mu) (H : Hp) (xs : List X) (vs : List V) (Q : VK) (Qd : VKd), Stt K N O M H → RpA K O N.B0 xs vs → f xs M Qd →
  (∀ O' M' H' z w, Nxt K N O M H O' M' H' → Rp K O' N.B0 z w → Qd z M' → Q w H') → r vs H Q
def dop (f : X → X → Mu → VKd → Prop) (a b : DE) : DE := fun δ M Q => a δ M fun x M1 => b δ M1 fun y M2 => f x y M2 Q
def dun (f : X → Mu → VKd → Prop) (a : DE) : DE := fun δ M Q => a δ M fun x M1 => f x M1 Q
def dcb (f : List X → Mu → VKd → Prop) (a : DA) : DE := fun δ M Q => a δ M fun xs M1 => f xs M1 Q
section
variable {X : Cx} {W : Ent → Prop} {K : PySem.W.Frag} {a b : Expr} {es : List Expr} {pos : Pos} {da db : DE} {dr : DA} {f : DL.X → DL.X → Mu → VKd → Prop}
theorem snd_op {t u : TE} {r : R2} (h1 : SndE K W t da) (h2 : SndE K W u db) (hr : SndOp K r f) : SndE K W (tOp r t u) (dop f da db) := fun N O M δ σ H Q Qd w S L h k =>
  h1 N O M δ σ H _ _ w S L h fun O1 M1 H1 x v n1 r1 h => h2 N O1 M1 δ σ H1 _ _ w n1.st (n1.sl L) h fun O2 M2 H2 y u n2 r2 h =>
    hr N O2 M2 H2 x y v u _ _ n2.st (n2.rp r1) r2 h fun O3 M3 H3 z u3 n3 r3 h => k O3 M3 H3 z u3 ((n1.trans n2).trans n3) r3 h
theorem pd_op {op : Operator} {r : R2} (ho : OpR X (binaryOp op) r) (hr : SndOp X.K r f) (ha : PD X W a da) (hb : PD X W b db) : PD X W (.BinOp a op b pos) (dop f da db) := by
  obtain ⟨t, h1, s1⟩ := ha.ex
  obtain ⟨u, h2, s2⟩ := hb.ex
  exact ⟨_, pe_op ho h1 h2, snd_op s1 s2 hr⟩
theorem pd_cmp {op : CmpOp} {r : R2} (ho : OpR X (compareOp op) r) (hr : SndOp X.K r f) (ha : PD X W a da) (hb : PD X W b db) (hm : behindInMarks op b = false) : PD X W (.Compare a [op] [b] pos) (dop f da db) := by
  obtain ⟨t, h1, s1⟩ := ha.ex
  obtain ⟨u, h2, s2⟩ := hb.ex
  exact ⟨_, pe_cmpR ho h1 h2 hm, snd_op s1 s2 hr⟩
theorem pd_un {op : UnaryOp} {r : V → Hp → VK → Prop} {g : DL.X → Mu → VKd → Prop} (ho : UnR X (unaryOp op) r) (hr : SndU X.K r g) (ha : PD X W a da) : PD X W (.UnaryOp op a pos) (dun g da) := by
  obtain ⟨t, h1, s1⟩ := ha.ex
  exact ⟨_, pe_un ho h1, fun N O M δ σ H Q Qd w S L h k => s1 N O M δ σ H _ _ w S L h fun O1 M1 H1 x v n1 r1 h => hr N O1 M1 H1 x v _ _ n1.st r1 h fun O3 M3 H3 z u3 n3 r3 h => k O3 M3 H3 z u3 (n1.trans n3) r3 h⟩
theorem snd_cb {t : TA} {r : List V → Hp → VK → Prop} {g : List DL.X → Mu → VKd → Prop} (hr : SndC K r g) (s1 : SndA K W t dr) : SndE K W (tCB r t) (dcb g dr) := fun N O M δ σ H Q Qd w S L h k =>
  s1 N O M δ σ H _ _ w S L h fun O1 M1 H1 x v n1 r1 h => hr N O1 M1 H1 x v _ _ n1.st r1 h fun O3 M3 H3 z u3 n3 r3 h => k O3 M3 H3 z u3 (n1.trans n3) r3 h
theorem pd_callB {id : String} {x : Str} {p : Pos} {r : List V → Hp → VK → Prop} {g : List DL.X → Mu → VKd → Prop} (hc : CallR X (.builtin id) r) (hr : SndC X.K r g) (hg : Gl X x) (hm : X.mg x = none) (hv : bootBuiltins x = some (.builtin id)) (ha : PAD X W (a :: es) dr) (hn : x ≠ "__name__" := by decide) (hdb : (x == ("__debug__" : Str)) = false := by decide)
    (he : starEach (a :: es) X.env = (false, eval a X.env) :: starEach es X.env := by rfl) (hpl : (backTo pos (starEach es X.env)).any (·.1) = false := by rfl) : PD X W (.Call (.Name x p) (a :: es) [] pos) (dcb g dr) := by
  obtain ⟨t, h1, s1⟩ := ha.ex
  exact ⟨_, pe_callB hc hg hm hv h1 hn hdb he hpl, snd_cb hr s1⟩
theorem pd_callTy {T : String} {x : Str} {p : Pos} {r : List V → Hp → VK → Prop} {g : List DL.X → Mu → VKd → Prop} (hc : CallR X (.type T) r) (hr : SndC X.K r g) (hg : Gl X x) (hm : X.mg x = none) (hv : bootBuiltins x = some (.type T)) (ha : PAD X W (a :: es) dr) (hn : x ≠ "__name__" := by decide) (hdb : (x == ("__debug__" : Str)) = false := by decide)
    (he : starEach (a :: es) X.env = (false, eval a X.env) :: starEach es X.env := by rfl) (hpl : (backTo pos (starEach es X.env)).any (·.1) = false := by rfl) : PD X W (.Call (.Name x p) (a :: es) [] pos) (dcb g dr) := by
  obtain ⟨t, h1, s1⟩ := ha.ex
  exact ⟨_, pe_callTy hc hg hm hv h1 hn hdb he hpl, snd_cb hr s1⟩
end

/-! ### tests -/
def dtest (d : DE) : DT := fun δ M Q => d δ M fun x M1 => match x with
  | .bl b => Q b M1
  | _ => False
def dand (a b : DT) : DT := fun δ M Q => a δ M fun c M1 => match c with
  | true => b δ M1 Q
  | false => Q false M1
def dor (a b : DT) : DT := fun δ M Q => a δ M fun c M1 => match c with
  | true => Q true M1
  | false => b δ M1 Q
def dnot (a : DT) : DT := fun δ M Q => a δ M fun c M1 => Q (!c) M1
def dif (c : DT) (a b : DE) : DE := fun δ M Q => c δ M fun k M1 => match k with
  | true => a δ M1 Q
  | false => b δ M1 Q
def dandV (a b : DE) : DE := fun δ M Q => a δ M fun x M1 => match x with
  | .bl true => b δ M1 Q
  | .bl false => Q (.bl false) M1
  | _ => False
def dorV (a b : DE) : DE := fun δ M Q => a δ M fun x M1 => match x with
  | .bl true => Q (.bl true) M1
  | .bl false => b δ M1 Q
  | _ => False
def dnotV (a : DE) : DE := fun δ M Q => a δ M fun x M1 => match x with
  | .bl b => Q (.bl (!b)) M1
  | _ => False
section
variable {X : Cx} {W : Ent → Prop} {K : PySem.W.Frag} {a b c : Expr} {rest : List Expr} {pos : Pos} {da db dc' : DE} {dt du : DT} {f g : DL.X → DL.X → Mu → VKd → Prop}
theorem snd_test {t : TE} {u : TT} (h : SndE K W t da) (hu : u = tTest t) : SndT K W u (dtest da) := fun N O M δ σ H Q Qd w S L h0 k => by
  subst hu
  refine h N O M δ σ H _ _ w S L h0 fun O1 M1 H1 x v n1 r1 q => ?_
  split at q
  · rename_i b
    simp only [Rp] at r1
    exact ⟨b, r1, k O1 M1 H1 b n1 q⟩
  · exact q.elim
theorem ptd_cmp {op : CmpOp} {r : R2} (ho : OpR X (compareOp op) r) (hr : SndOp X.K r f) (ha : PD X W a da) (hb : PD X W b db) (hm : behindInMarks op b = false) : PTD X W (.Compare a [op] [b] pos) (dtest (dop f da db)) := by
  obtain ⟨t, h1, s1⟩ := ha.ex
  obtain ⟨u, h2, s2⟩ := hb.ex
  exact ⟨_, pt_cmpR ho h1 h2 hm, snd_test (snd_op s1 s2 hr) rfl⟩
theorem ptd_val {e : Expr} (h : PD X W e da) (he : ∀ whole, isTrue e X.env whole = (do let v ← whole; standAt e.pos; holding [v] (truthy v)) := by intro _; rfl) : PTD X W e (dtest da) := by
  obtain ⟨t, h1, s1⟩ := h.ex
  exact ⟨_, pt_val h1 he, snd_test s1 rfl⟩
theorem pwd_and1 (h : PTD X W a dt) : PWD X W (.BoolOp .And [a] pos) dt := by
  obtain ⟨t, h1, s1⟩ := h.ex
  exact ⟨_, pw_and1 h1, s1⟩
theorem pwd_or1 (h : PTD X W a dt) : PWD X W (.BoolOp .Or [a] pos) dt := by
  obtain ⟨t, h1, s1⟩ := h.ex
  exact ⟨_, pw_or1 h1, s1⟩
theorem pwd_and (ha : PTD X W a dt) (hb : PWD X W (.BoolOp .And (b :: rest) pos) du) : PWD X W (.BoolOp .And (a :: b :: rest) pos) (dand dt du) := by
  obtain ⟨t, h1, s1⟩ := ha.ex
  obtain ⟨u, h2, s2⟩ := hb.ex
  refine ⟨_, pw_and h1 h2, fun N O M δ σ H Q Qd w S L h k => s1 N O M δ σ H _ _ w S L h fun O1 M1 H1 c n1 q => ?_⟩
  cases c with
  | true => exact s2 N O1 M1 δ σ H1 _ _ w n1.st (n1.sl L) q fun O2 M2 H2 b n2 q => k O2 M2 H2 b (n1.trans n2) q
  | false => exact k O1 M1 H1 false n1 q
theorem pwd_or (ha : PTD X W a dt) (hb : PWD X W (.BoolOp .Or (b :: rest) pos) du) : PWD X W (.BoolOp .Or (a :: b :: rest) pos) (dor dt du) := by
  obtain ⟨t, h1, s1⟩ := ha.ex
  obtain ⟨u, h2, s2⟩ := hb.ex
  refine ⟨_, pw_or h1 h2, fun N O M δ σ H Q Qd w S L h k => s1 N O M δ σ H _ _ w S L h fun O1 M1 H1 c n1 q => ?_⟩
  cases c with
  | true => exact k O1 M1 H1 true n1 q
  | false => exact s2 N O1 M1 δ σ H1 _ _ w n1.st (n1.sl L) q fun O2 M2 H2 b n2 q => k O2 M2 H2 b (n1.trans n2) q
theorem PWD.pt (h : PWD X W a dt) : PTD X W a dt := by
  obtain ⟨t, h1, s1⟩ := h.ex
  exact ⟨_, h1.pt, s1⟩
theorem ptd_not (h : PTD X W a dt) : PTD X W (.UnaryOp .Not a pos) (dnot dt) := by
  obtain ⟨t, h1, s1⟩ := h.ex
  exact ⟨_, pt_not h1, fun N O M δ σ H Q Qd w S L h k => s1 N O M δ σ H _ _ w S L h fun O1 M1 H1 c n1 q => k O1 M1 H1 _ n1 q⟩
theorem pd_if (hc : PTD X W c dt) (ha : PD X W a da) (hb : PD X W b db) : PD X W (.IfExp c a b pos) (dif dt da db) := by
  obtain ⟨t, h1, s1⟩ := hc.ex
  obtain ⟨u, h2, s2⟩ := ha.ex
  obtain ⟨u3, h3, s3⟩ := hb.ex
  refine ⟨_, pe_ifExp h1 h2 h3, fun N O M δ σ H Q Qd w S L h k => s1 N O M δ σ H _ _ w S L h fun O1 M1 H1 c n1 q => ?_⟩
  cases c with
  | true => exact s2 N O1 M1 δ σ H1 _ _ w n1.st (n1.sl L) q fun O2 M2 H2 x v n2 r q => k O2 M2 H2 x v (n1.trans n2) r q
  | false => exact s3 N O1 M1 δ σ H1 _ _ w n1.st (n1.sl L) q fun O2 M2 H2 x v n2 r q => k O2 M2 H2 x v (n1.trans n2) r q
theorem pd_one {op} (h : PD X W a da) : PD X W (.BoolOp op [a] pos) da := by
  obtain ⟨t, h1, s1⟩ := h.ex
  exact ⟨_, pe_one h1, s1⟩
theorem pd_and (ha : PD X W a da) (hb : PD X W (.BoolOp .And (b :: rest) pos) db) : PD X W (.BoolOp .And (a :: b :: rest) pos) (dandV da db) := by
  obtain ⟨t, h1, s1⟩ := ha.ex
  obtain ⟨u, h2, s2⟩ := hb.ex
  refine ⟨_, pe_and h1 h2, fun N O M δ σ H Q Qd w S L h k => s1 N O M δ σ H _ _ w S L h fun O1 M1 H1 x v n1 r q => ?_⟩
  split at q
  · simp only [Rp] at r
    exact ⟨true, r, s2 N O1 M1 δ σ H1 _ _ w n1.st (n1.sl L) q fun O2 M2 H2 x v n2 r q => k O2 M2 H2 x v (n1.trans n2) r q⟩
  · simp only [Rp] at r
    exact ⟨false, r, k O1 M1 H1 (.bl false) _ n1 (by simp only [Rp]) q⟩
  · exact q.elim
theorem pd_or (ha : PD X W a da) (hb : PD X W (.BoolOp .Or (b :: rest) pos) db) : PD X W (.BoolOp .Or (a :: b :: rest) pos) (dorV da db) := by
  obtain ⟨t, h1, s1⟩ := ha.ex
  obtain ⟨u, h2, s2⟩ := hb.ex
  refine ⟨_, pe_or h1 h2, fun N O M δ σ H Q Qd w S L h k => s1 N O M δ σ H _ _ w S L h fun O1 M1 H1 x v n1 r q => ?_⟩
  split at q
  · simp only [Rp] at r
    exact ⟨true, r, k O1 M1 H1 (.bl true) _ n1 (by simp only [Rp]) q⟩
  · simp only [Rp] at r
    exact ⟨false, r, s2 N O1 M1 δ σ H1 _ _ w n1.st (n1.sl L) q fun O2 M2 H2 x v n2 r q => k O2 M2 H2 x v (n1.trans n2) r q⟩
  · exact q.elim
theorem pd_not (ha : PD X W a da) : PD X W (.UnaryOp .Not a pos) (dnotV da) := by
  obtain ⟨t, h1, s1⟩ := ha.ex
  refine ⟨_, pe_not h1, fun N O M δ σ H Q Qd w S L h k => s1 N O M δ σ H _ _ w S L h fun O1 M1 H1 x v n1 r q => ?_⟩
  split at q
  · rename_i b
    simp only [Rp] at r
    exact ⟨b, r, k O1 M1 H1 (.bl (!b)) _ n1 (by simp only [Rp]) q⟩
  · exact q.elim
/-- a < b < c -/
def dchain (f g : DL.X → DL.X → Mu → VKd → Prop) (a b c : DE) : DE := fun δ M Q => a δ M fun x M1 => b δ M1 fun y M2 => f x y M2 fun z M3 => match z with
  | .bl true => c δ M3 fun w M4 => g y w M4 Q
  | .bl false => Q (.bl false) M3
  | _ => False
theorem snd_chain {t u s : TE} {r r' : R2} (h1 : SndE K W t da) (h2 : SndE K W u db) (h3 : SndE K W s dc') (hr : SndOp K r f) (hr' : SndOp K r' g) : SndE K W (tChain r r' t u s) (dchain f g da db dc') := fun N O M δ σ H Q Qd w S L h k =>
  h1 N O M δ σ H _ _ w S L h fun O1 M1 H1 x v n1 r1 h => h2 N O1 M1 δ σ H1 _ _ w n1.st (n1.sl L) h fun O2 M2 H2 y u n2 r2 h =>
    hr N O2 M2 H2 x y v u _ _ n2.st (n2.rp r1) r2 h fun O3 M3 H3 z u3 n3 r3 h => by
      split at h
      · simp only [Rp] at r3
        refine ⟨true, r3, ?_⟩
        show s σ H3 _
        exact h3 N O3 M3 δ σ H3 _ _ w n3.st (((n1.trans n2).trans n3).sl L) h fun O4 M4 H4 w4 u4 n4 r4 h => hr' N O4 M4 H4 y w4 u u4 _ _ n4.st ((n3.trans n4).rp r2) r4 h fun O5 M5 H5 z5 u5 n5 r5 h => k O5 M5 H5 z5 u5 ((((n1.trans n2).trans n3).trans n4).trans n5) r5 h
      · simp only [Rp] at r3
        exact ⟨false, r3, k O3 M3 H3 (.bl false) _ ((n1.trans n2).trans n3) (by simp only [Rp]) h⟩
      · exact h.elim
theorem pd_chain {op op' : CmpOp} {r r' : R2} (ho : OpR X (compareOp op) r) (hr : SndOp X.K r f) (ho' : OpR X (compareOp op') r') (hr' : SndOp X.K r' g) (ha : PD X W a da) (hb : PD X W b db) (hc : PD X W c dc') (hm : lastMarks [op, op'] [b, c] = false := by rfl) :
    PD X W (.Compare a [op, op'] [b, c] pos) (dchain f g da db dc') := by
  obtain ⟨t, h1, s1⟩ := ha.ex
  obtain ⟨u, h2, s2⟩ := hb.ex
  obtain ⟨u3, h3, s3⟩ := hc.ex
  exact ⟨_, pe_chain ho ho' h1 h2 h3 hm, snd_chain s1 s2 s3 hr hr'⟩
theorem ptd_chain {op op' : CmpOp} {r r' : R2} (ho : OpR X (compareOp op) r) (hr : SndOp X.K r f) (ho' : OpR X (compareOp op') r') (hr' : SndOp X.K r' g) (ha : PD X W a da) (hb : PD X W b db) (hc : PD X W c dc') (hm : lastMarks [op, op'] [b, c] = false := by rfl) :
    PTD X W (.Compare a [op, op'] [b, c] pos) (dtest (dchain f g da db dc')) := by
  obtain ⟨t, h1, s1⟩ := ha.ex
  obtain ⟨u, h2, s2⟩ := hb.ex
  obtain ⟨u3, h3, s3⟩ := hc.ex
  refine ⟨_, pt_chain ho ho' h1 h2 h3 hm, fun N O M δ σ H Q Qd w S L h k => ?_⟩
  exact snd_test (snd_chain s1 s2 s3 hr hr') rfl N O M δ σ H Q Qd w S L h k
end

/-! ### statements -/
def dnext : DS := fun DD δ M => DD.nx δ M
def dseq (a b : DS) : DS := fun DD δ M => a { DD with nx := b DD } δ M
def dret (e : DE) : DS := fun DD δ M => e δ M DD.rt
def dretN : DS := fun DD _ M => DD.rt .non M
def ddrop (e : DE) : DS := fun DD δ M => e δ M fun _ M1 => DD.nx δ M1
def dasg (e : DE) (i : Nat) : DS := fun DD δ M => e δ M fun x M1 => DD.nx (δ.set i (some x)) M1
def diff (c : DT) (a b : DS) : DS := fun DD δ M => c δ M fun k M1 => match k with
  | true => a DD δ M1
  | false => b DD δ M1
section
variable {X : Cx} {W : Ent → Prop} {K : PySem.W.Frag} {a b c e : Expr} {s : Stmt} {rest as bs : List Stmt} {pos : Pos} {da db dc' : DE} {dt du : DT} {d1 d2 : DS}
theorem Cmp.with {N : Ent} {D : Ends} {DD : EndsD} (C : Cmp K N D DD) {p : L2.St → Hp → Prop} {q : Dl → Mu → Prop} (h : ∀ O M δ σ H, Stt K N O M H → Sl K O N.B0 δ σ → q δ M → p σ H) : Cmp K N { D with nx := p } { DD with nx := q } := ⟨h, C.rt, C.bk, C.ct⟩
theorem pssd_nil : PSsD X W [] dnext := ⟨_, pss_nil, fun N D DD w C O M δ σ H S L h => C.nx O M δ σ H S L h⟩
theorem pssd_cons (h1 : PSD X W s d1) (h2 : PSsD X W rest d2) : PSsD X W (s :: rest) (dseq d1 d2) := by
  obtain ⟨t, h1, s1⟩ := h1.ex
  obtain ⟨u, h2, s2⟩ := h2.ex
  exact ⟨_, pss_cons h1 h2, fun N D DD w C O M δ σ H S L h => s1 N _ { DD with nx := d2 DD } w (C.with fun O M δ σ H S L h => s2 N D DD w C O M δ σ H S L h) O M δ σ H S L h⟩
theorem pssd_one (h1 : PSD X W s d1) : PSsD X W [s] d1 := by
  obtain ⟨t, h1, s1⟩ := h1.ex
  exact ⟨_, pss_one h1, s1⟩
theorem psd_pass : PSD X W (.Pass pos) dnext := ⟨_, ps_pass, fun N D DD w C O M δ σ H S L h => C.nx O M δ σ H S L h⟩
def dbreak : DS := fun DD δ M => DD.bk δ M
def dcont : DS := fun DD δ M => DD.ct δ M
theorem psd_break : PSD X W (.Break pos) dbreak := ⟨_, ps_break, fun N D DD w C O M δ σ H S L h => C.bk O M δ σ H S L h⟩
theorem psd_continue : PSD X W (.Continue pos) dcont := ⟨_, ps_continue, fun N D DD w C O M δ σ H S L h => C.ct O M δ σ H S L h⟩
theorem psd_ret (h : PD X W e da) : PSD X W (.Return (some e) pos) (dret da) := by
  obtain ⟨t, h1, s1⟩ := h.ex
  exact ⟨_, ps_ret h1, fun N D DD w C O M δ σ H S L h => s1 N O M δ σ H _ _ w S L h fun O1 M1 H1 x v n r q => C.rt O1 M1 H1 x v n.st r q⟩
theorem psd_retN : PSD X W (.Return none pos) dretN := ⟨_, ps_retN, fun N D DD w C O M δ σ H S L h => C.rt O M H .non .non S (by simp only [Rp]) h⟩
theorem psd_expr (h : PD X W e da) (hs : swapsWith e none pos.line X.env = pure false := by rfl) : PSD X W (.Expr e pos) (ddrop da) := by
  obtain ⟨t, h1, s1⟩ := h.ex
  exact ⟨_, ps_expr h1 hs, fun N D DD w C O M δ σ H S L h => s1 N O M δ σ H _ _ w S L h fun O1 M1 H1 x v n r q => C.nx O1 M1 δ σ H1 n.st (n.sl L) q⟩
theorem psd_set (i : Nat) {x : Str} {pos' : Pos} (hN : X.N.Nodup) (h : PD X W e da) (hi : X.N[i]? = some x := by rfl) (hx : Loc X.env.scope x := by first | exact Or.inl rfl | exact Or.inr rfl) (hs : swapsWith e (some (.Name x pos')) pos.line X.env = pure false := by rfl) (hf : X.fn x = true ∨ X.env.scope.names.lookup x = some .local := by first | exact .inl rfl | exact .inr rfl | assumption) :
    PSD X W (.Assign [.Name x pos'] e pos) (dasg da i) := by
  obtain ⟨t, h1, s1⟩ := h.ex
  exact ⟨_, ps_set hN hi hx h1 hs hf, fun N D DD w C O M δ σ H S L h => s1 N O M δ σ H _ _ w S L h fun O1 M1 H1 x v n r q => C.nx O1 M1 _ _ H1 n.st ((n.sl L).set r i) q⟩
theorem psd_if (hc : PTD X W c dt) (ha : PSsD X W as d1) (hb : PSsD X W bs d2) : PSD X W (.If c as bs pos) (diff dt d1 d2) := by
  obtain ⟨t, h1, s1⟩ := hc.ex
  obtain ⟨u, h2, s2⟩ := ha.ex
  obtain ⟨u3, h3, s3⟩ := hb.ex
  refine ⟨_, ps_if h1 h2 h3, fun N D DD w C O M δ σ H S L h => s1 N O M δ σ H _ _ w S L h fun O1 M1 H1 k n q => ?_⟩
  cases k with
  | true => exact s2 N D DD w C O1 M1 δ σ H1 n.st (n.sl L) q
  | false => exact s3 N D DD w C O1 M1 δ σ H1 n.st (n.sl L) q
end

/-! ### targets -/
abbrev DG := X → Dl → Mu → (Dl → Mu → Prop) → Prop
abbrev DGs := List X → Dl → Mu → (Dl → Mu → Prop) → Prop
def SndG (K : PySem.W.Frag) (W : Ent → Prop) (t : TG) (d : DG) : Prop := ∀ (N : Ent) (O : Hp) (M : Mu) (δ : Dl) (σ : L2.St) (H : Hp) (x : X) (v : V) (Q : L2.St → Hp → Prop) (Qd : Dl → Mu → Prop), W N → Stt K N O M H → Sl K O N.B0 δ σ → Rp K O N.B0 x v → d x δ M Qd →
  (∀ O' M' H' δ' σ', Nxt K N O M H O' M' H' → Sl K O' N.B0 δ' σ' → Qd δ' M' → Q σ' H') → t v σ H Q
def SndGs (K : PySem.W.Frag) (W : Ent → Prop) (t : TGs) (d : DGs) : Prop := ∀ (N : Ent) (O : Hp) (M : Mu) (δ : Dl) (σ : L2.St) (H : Hp) (xs : List X) (vs : List V) (Q : L2.St → Hp → Prop) (Qd : Dl → Mu → Prop), W N → Stt K N O M H → Sl K O N.B0 δ σ → RpA K O N.B0 xs vs → d xs δ M Qd →
  (∀ O' M' H' δ' σ', Nxt K N O M H O' M' H' → Sl K O' N.B0 δ' σ' → Qd δ' M' → Q σ' H') → t vs σ H Q
structure PGD (X : Cx) (W : Ent → Prop) (e : Expr) (d : DG) : Prop where
  ex : ∃ t, PG X e t ∧ SndG X.K W t d
structure PGsD (X : Cx) (W : Ent → Prop) (es : List Expr) (d : DGs) : Prop where
  ex : ∃ t, PGs X es t ∧ SndGs X.K W t d
def dgname (i : Nat) : DG := fun x δ M Q => Q (δ.set i (some x)) M
def dgnil : DGs := fun xs δ M Q => match xs with
  | [] => Q δ M
  | _ => False
def dgcons (a : DG) (b : DGs) : DGs := fun xs δ M Q => match xs with
  | x :: r => a x δ M fun δ' M' => b r δ' M' Q
  | [] => False
def dgtup (n : Nat) (g : DGs) : DG := fun x δ M Q => match x with
  | .tup xs => xs.length = n ∧ g xs δ M Q
  | _ => False
section
variable {X : Cx} {W : Ent → Prop} {K : PySem.W.Frag} {e o ix : Expr} {es : List Expr} {pos : Pos} {g : DG} {gs : DGs} {da db de : DE}
theorem pgd_name (i : Nat) {x : Str} (hN : X.N.Nodup) (hi : X.N[i]? = some x := by rfl) (hx : Loc X.env.scope x := by first | exact Or.inl rfl | exact Or.inr rfl) (hf : X.fn x = true ∨ X.env.scope.names.lookup x = some .local := by first | exact .inl rfl | exact .inr rfl | assumption) : PGD X W (.Name x pos) (dgname i) :=
  ⟨_, pg_name hN hi hx hf, fun N O M δ σ H x v Q Qd w S L r h k => k O M H _ _ (Nxt.refl S) (L.set r i) h⟩
theorem pgsd_nil : PGsD X W [] dgnil := ⟨_, pgs_nil, fun N O M δ σ H xs vs Q Qd w S L r h k => by
  unfold dgnil at h
  split at h
  · simp only [RpA] at r
    exact ⟨r, k O M H δ σ (Nxt.refl S) L h⟩
  · exact h.elim⟩
theorem pgsd_cons (h1 : PGD X W e g) (h2 : PGsD X W es gs) (hs : (assignEach (e :: es) X.env).map (·.2) = assign e X.env :: (assignEach es X.env).map (·.2) := by rfl) : PGsD X W (e :: es) (dgcons g gs) := by
  obtain ⟨t, h1, s1⟩ := h1.ex
  obtain ⟨u, h2, s2⟩ := h2.ex
  refine ⟨_, pgs_cons h1 h2 hs, fun N O M δ σ H xs vs Q Qd w S L r h k => ?_⟩
  unfold dgcons at h
  split at h
  · simp only [RpA] at r
    obtain ⟨v, vr, e, rv, rr⟩ := r
    exact ⟨v, vr, e, s1 N O M δ σ H _ v _ _ w S L rv h fun O1 M1 H1 δ1 σ1 n1 L1 h => s2 N O1 M1 δ1 σ1 H1 _ vr _ _ w n1.st L1 (n1.rpa rr) h fun O2 M2 H2 δ2 σ2 n2 L2 h => k O2 M2 H2 δ2 σ2 (n1.trans n2) L2 h⟩
  · exact h.elim
theorem pgd_tup {k : Nat} {n : Nat} (hc : X.calm = true) (h : PGsD X W es gs) (hn : (assignEach es X.env).length = n := by rfl) (hst : (assignEach es X.env).findIdx? (·.1) = none := by rfl) : PGD X W (.Tuple es k pos) (dgtup n gs) := by
  obtain ⟨t, h1, s1⟩ := h.ex
  refine ⟨_, pg_tup hc h1 hn hst, fun N O M δ σ H x v Q Qd w S L r h k => ?_⟩
  unfold dgtup at h
  split at h
  · simp only [Rp] at r
    obtain ⟨a, vs, e, q, r⟩ := r
    exact ⟨a, vs, e, ex_sqt S.oh q, by rw [r.len]; exact h.1, s1 N O M δ σ H _ vs _ _ w S L r h.2 k⟩
  · exact h.elim
/-- xs[i] = v by data -/
def setL (o i v : DL.X) (M : Mu) (Q : Mu → Prop) : Prop := match o, i with
  | .ptr p, .int k => (match M p with
    | some (.lst xs) => (match ixN xs.length k with
      | some j => Q (mset M p (.lst (xs.set j v)))
      | none => False)
    | _ => False)
  | _, _ => False
def dgsub (o i : DE) : DG := fun v δ M Q => o δ M fun x M1 => i δ M1 fun y M2 => setL x y v M2 fun M3 => Q δ M3
theorem setL_inv {M : Mu} {x y z : DL.X} {Qd : Mu → Prop} (h : setL x y z M Qd) : ∃ (p : Addr) (k : Int) (xs : List DL.X) (j : Nat), x = .ptr p ∧ y = .int k ∧ M p = some (.lst xs) ∧ ixN xs.length k = some j ∧ Qd (mset M p (.lst (xs.set j z))) := by
  cases x with
  | ptr p =>
    cases y with
    | int k =>
      simp only [setL] at h
      split at h
      · rename_i xs e
        split at h
        · rename_i j ej
          exact ⟨p, k, xs, j, rfl, rfl, e, ej, h⟩
        · exact h.elim
      · exact h.elim
    | _ => simp only [setL] at h
  | _ => simp only [setL] at h
theorem setL_ok {N : Ent} {O H : Hp} {M : Mu} {x y z : DL.X} {v u w : V} {Q : Hp → Prop} {Qd : Mu → Prop} (S : Stt K N O M H) (rx : Rp K O N.B0 x v) (ry : Rp K O N.B0 y u) (rz : Rp K O N.B0 z w) (h : setL x y z M Qd)
    (k : ∀ O' M' H', Nxt K N O M H O' M' H' → Qd M' → Q H') : rSetL v u w H Q := by
  obtain ⟨p, k', xs, j, rfl, rfl, e, ej, h⟩ := setL_inv h
  simp only [Rp] at rx ry
  subst rx ry
  obtain ⟨vs, hp, r⟩ := S.cl _ _ e
  have S' := S.write e (r.set rz j)
  exact ⟨p, vs, k', j, rfl, rfl, hp, by rw [r.len]; exact ej, k O _ _ ⟨S', Ex.refl _⟩ h⟩
theorem pgd_sub (ho : PD X W o da) (hi : PD X W ix db)
    (ha : ∀ v, assign (.Subscript o ix pos) X.env v = (do
      let ov ← holding [v] (eval o X.env)
      let iv ← holding [v, ov] (eval ix X.env)
      standAt pos
      holding [v, ov, iv] (setItem ov iv v)
      release [v, ov, iv] []) := by intro _; rfl) : PGD X W (.Subscript o ix pos) (dgsub da db) := by
  obtain ⟨t, h1, s1⟩ := ho.ex
  obtain ⟨u, h2, s2⟩ := hi.ex
  refine ⟨_, pg_sub h1 h2 set_list ha, fun N O M δ σ H x v Q Qd w S L r h k => s1 N O M δ σ H _ _ w S L h fun O1 M1 H1 x1 v1 n1 r1 h => s2 N O1 M1 δ σ H1 _ _ w n1.st (n1.sl L) h fun O2 M2 H2 x2 v2 n2 r2 h => ?_⟩
  exact setL_ok n2.st (n2.rp r1) r2 ((n1.trans n2).rp r) h fun O3 M3 H3 n3 h => k O3 M3 H3 δ σ ((n1.trans n2).trans n3) (((n1.trans n2).trans n3).sl L) h
/-- target = value -/
def dasgG (e : DE) (g : DG) : DS := fun DD δ M => e δ M fun x M1 => g x δ M1 DD.nx
theorem psd_asg {tg : Expr} (he : PD X W e de) (hg : PGD X W tg g) (hs : swapsWithSole [tg] e pos.line X.env = pure false := by rfl) (hw : swappedStores [tg] e X.env = pure none := by rfl)
    (h1 : (assignEach [tg] X.env).map (·.2) = [assign tg X.env] := by rfl) : PSD X W (.Assign [tg] e pos) (dasgG de g) := by
  obtain ⟨t, q1, s1⟩ := he.ex
  obtain ⟨u, q2, s2⟩ := hg.ex
  exact ⟨_, ps_asg q1 q2 hs hw h1, fun N D DD w C O M δ σ H S L h => s1 N O M δ σ H _ _ w S L h fun O1 M1 H1 x v n r h => s2 N O1 M1 δ σ H1 x v _ _ w n.st (n.sl L) r h fun O2 M2 H2 δ2 σ2 n2 L2 h => C.nx O2 M2 δ2 σ2 H2 n2.st L2 h⟩
/-- a, b = x, y with plain local names -/
def dpar (i j : Nat) (a b : DE) : DS := fun DD δ M => a δ M fun x M1 => b δ M1 fun y M2 => DD.nx ((δ.set i (some x)).set j (some y)) M2
theorem psd_par (i j : Nat) {x y : Str} {a b : Expr} {px py pt : Pos} {kt k2 pt2} (hc : X.calm = true) (hN : X.N.Nodup) (ha : PD X W a da) (hb : PD X W b db)
    (hi : X.N[i]? = some x := by rfl) (hj : X.N[j]? = some y := by rfl) (hij : i ≠ j := by decide) (hx : X.env.scope.names.lookup x = some .local := by rfl) (hy : X.env.scope.names.lookup y = some .local := by rfl)
    (hw : swappedStores [.Tuple [.Name x px, .Name y py] kt pt] (.Tuple [a, b] k2 pt2) X.env = pure (some [x, y]) := by rfl)
    (hs : swapsWithSole [.Tuple [.Name x px, .Name y py] kt pt] (.Tuple [a, b] k2 pt2) pos.line X.env = pure false := by rfl)
    (e1 : starEach (a :: [b]) X.env = (false, eval a X.env) :: starEach [b] X.env := by rfl) (e2 : starEach (b :: []) X.env = (false, eval b X.env) :: starEach [] X.env := by rfl) :
    PSD X W (.Assign [.Tuple [.Name x px, .Name y py] kt pt] (.Tuple [a, b] k2 pt2) pos) (dpar i j da db) := by
  obtain ⟨t, h1, s1⟩ := ha.ex
  obtain ⟨u, h2, s2⟩ := hb.ex
  refine ⟨_, ps_par hc hN hi hj hij hx hy (pa_cons h1 (pa_cons h2 pa_nil e2) e1) hw hs, fun N D DD w C O M δ σ H S L h => s1 N O M δ σ H _ _ w S L h fun O1 M1 H1 x1 v1 n1 r1 h => s2 N O1 M1 δ σ H1 _ _ w n1.st (n1.sl L) h fun O2 M2 H2 x2 v2 n2 r2 h => ?_⟩
  exact ⟨v1, v2, rfl, C.nx O2 M2 _ _ H2 n2.st ((((n1.trans n2).sl L).set (n2.rp r1) i).set r2 j) h⟩
/-- name op= e -/
def SndIp (K : PySem.W.Frag) (t : TIp) (f : DL.X → DL.X → Mu → VKd → Prop) : Prop := SndOp K t f
def daug (i : Nat) (e : DE) (f : DL.X → DL.X → Mu → VKd → Prop) : DS := fun DD δ M => match δ[i]? with
  | some (some x) => e δ M fun y M1 => f x y M1 fun z M2 => DD.nx (δ.set i (some z)) M2
  | _ => False
theorem psd_aug (i : Nat) {x : Str} {op : Operator} {ti : TIp} {pos' : Pos} {f : DL.X → DL.X → Mu → VKd → Prop} (hN : X.N.Nodup) (ho : PIp X op ti) (hr : SndOp X.K ti f) (he : PD X W e de) (hi : X.N[i]? = some x := by rfl) (hx : Loc X.env.scope x := by first | exact Or.inl rfl | exact Or.inr rfl) (hf : X.fn x = true ∨ X.env.scope.names.lookup x = some .local := by first | exact .inl rfl | exact .inr rfl | assumption) :
    PSD X W (.AugAssign (.Name x pos') op e pos) (daug i de f) := by
  obtain ⟨t, h1, s1⟩ := he.ex
  refine ⟨_, ps_aug hN hi hx h1 ho hf, fun N D DD w C O M δ σ H S L h => ?_⟩
  unfold daug at h
  split at h
  · rename_i x0 e0
    obtain ⟨v, ev, r⟩ := L.get e0
    exact ⟨v, ev, s1 N O M δ σ H _ _ w S L h fun O1 M1 H1 y u n1 r1 h => hr N O1 M1 H1 x0 y v u _ _ n1.st (n1.rp r) r1 h fun O2 M2 H2 z w2 n2 r2 h => C.nx O2 M2 _ _ H2 n2.st (((n1.trans n2).sl L).set r2 i) h⟩
  · exact h.elim
end

/-! ### for: the items one after another -/
abbrev DI := Dl → Mu → (List X → (Mu → Prop) → Mu → Prop) → Prop
/-- an iterator that gives the items, while c holds -/
def ItOk (K : PySem.W.Frag) (N0 : Ent) (O : Hp) (M : Mu) (H : Hp) (J : It) (xs : List X) (c : Mu → Prop) : Prop := ∀ (N : Ent) (O1 : Hp) (M1 : Mu) (H1 : Hp) (i : Nat), N.B0 = N0.B0 → Stt K N O1 M1 H1 → Ex O O1 → c M1 →
  (xs.length ≤ i → J.stop i H1) ∧ ∀ x, xs[i]? = some x → J.go i H1 ∧ ∀ v H2, J.yld i H1 v H2 → ∃ O2, Nxt K N O1 M1 H1 O2 M1 H2 ∧ Rp K O2 N.B0 x v
def SndI (K : PySem.W.Frag) (W : Ent → Prop) (t : TI) (d : DI) : Prop := ∀ (N : Ent) (O : Hp) (M : Mu) (δ : Dl) (σ : L2.St) (H : Hp) (Q : It → Hp → Prop) (Qd : List X → (Mu → Prop) → Mu → Prop), W N → Stt K N O M H → Sl K O N.B0 δ σ → d δ M Qd →
  (∀ O' M' H' J xs c, Nxt K N O M H O' M' H' → ItOk K N O' M' H' J xs c → Qd xs c M' → Q J H') → t σ H Q
structure PID (X : Cx) (W : Ent → Prop) (tg e : Expr) (d : DI) : Prop where
  ex : ∃ t, PI X tg e t ∧ SndI X.K W t d
def dfor (g : DG) (b : DS) (c : Mu → Prop) : List X → DS
  | [] => fun DD δ M => c M ∧ DD.nx δ M
  | x :: xs => fun DD δ M => c M ∧ g x δ M fun δ1 M1 => b { DD with nx := dfor g b c xs DD, ct := dfor g b c xs DD, bk := DD.nx } δ1 M1
def dforS (it : DI) (g : DG) (b : DS) : DS := fun DD δ M => it δ M fun xs c M1 => dfor g b c xs DD δ M1
section
variable {X : Cx} {W : Ent → Prop} {K : PySem.W.Frag} {tg iter : Expr} {body : List Stmt} {pos : Pos} {g : DG} {d : DS} {di : DI} {dt : DT} {c : Expr}
theorem psd_for (hW : Anti X.K W) (hp : PassesOwn (model X.prog X.w) X.A X.env X.xe) (hc : X.calm = true) (hi : PID X W tg iter di) (hg : PGD X W tg g) (hb : PSsD X W body d)
    (hs : ∀ x, foldedSetIterable iter X.env x = pure x := by intro _; rfl) : PSD X W (.For tg iter body [] pos) (dforS di g d) := by
  obtain ⟨t1, h1, s1⟩ := hi.ex
  obtain ⟨t2, h2, s2⟩ := hg.ex
  obtain ⟨t3, h3, s3⟩ := hb.ex
  refine ⟨_, ps_for hp hc h1 h2 h3 hs, fun N D DD w C O M δ σ H S L h => s1 N O M δ σ H _ _ w S L h fun O1 M1 H1 J xs cc n1 J1 q => ?_⟩
  refine ⟨fun i m σ' H' => ∃ O' M' δ', m + i = xs.length ∧ Stt X.K N O' M' H' ∧ Ex O1 O' ∧ Sl X.K O' N.B0 δ' σ' ∧ dfor g d cc (xs.drop i) DD δ' M', ⟨xs.length, O1, M1, δ, rfl, n1.st, Ex.refl _, n1.sl L, q⟩, ?_⟩
  rintro i m σ' H' ⟨O', M', δ', em, S', eo, L', q⟩
  by_cases hi : i < xs.length
  · have e : xs.drop i = xs[i] :: xs.drop (i + 1) := List.drop_eq_getElem_cons hi
    rw [e] at q
    obtain ⟨qc, q⟩ := q
    obtain ⟨_, j2⟩ := J1 N O' M' H' i rfl S' eo qc
    obtain ⟨jg, jy⟩ := j2 _ (List.getElem?_eq_getElem hi)
    refine .inr ⟨jg, fun σ2 H2 => ∃ O2 M2 δ2, Stt X.K N O2 M2 H2 ∧ Ex O1 O2 ∧ Sl X.K O2 N.B0 δ2 σ2 ∧ dfor g d cc (xs.drop (i + 1)) DD δ2 M2, ?_, ?_⟩
    · rintro σ2 H2 ⟨O2, M2, δ2, S2, eo2, L2, q2⟩
      exact ⟨m - 1, by omega, O2, M2, δ2, by omega, S2, eo2, L2, q2⟩
    · intro v H2 hy
      obtain ⟨O2, n2, r2⟩ := jy v H2 hy
      refine s2 N O2 M' δ' σ' H2 _ v _ _ w n2.st (n2.sl L') r2 q fun O3 M3 H3 δ3 σ3 n3 L3 q => ?_
      have S3 := (n2.trans n3).st.to (eo.trans (n2.trans n3).eo) n1.st
      refine s3 (N.at O1) _ { DD with nx := dfor g d cc (xs.drop (i + 1)) DD, ct := dfor g d cc (xs.drop (i + 1)) DD, bk := DD.nx } (hW N (N.at O1) rfl (fun _ _ _ z => z.un n1.st) w) ⟨?_, ?_, ?_, ?_⟩ O3 M3 δ3 σ3 H3 S3 L3 q
      · exact fun O4 M4 δ4 σ4 H4 S4 L4 q4 => ⟨O4, M4, δ4, S4.un n1.st, S4.o0, L4, q4⟩
      · exact fun O4 M4 H4 x v S4 r4 q4 => C.rt O4 M4 H4 x v (S4.un n1.st) r4 q4
      · exact fun O4 M4 δ4 σ4 H4 S4 L4 q4 => C.nx O4 M4 δ4 σ4 H4 (S4.un n1.st) L4 q4
      · exact fun O4 M4 δ4 σ4 H4 S4 L4 q4 => ⟨O4, M4, δ4, S4.un n1.st, S4.o0, L4, q4⟩
  · have e : xs.drop i = [] := List.drop_eq_nil_of_le (by omega)
    rw [e] at q
    exact .inl ⟨(J1 N O' M' H' i rfl S' eo q.1).1 (by omega), C.nx O' M' δ' σ' H' S' L' q.2⟩
end
end DL

set_option maxRecDepth 100000
/-! DLc: the operations by data; what is walked; while; comprehensions. -/
namespace DL
open PySem PySem.Spec PyProof.Rows L2

/-! ### ints -/
def fI (C : Int → Int → Prop) (g : Int → Int → X) (x y : X) (M : Mu) (Q : VKd) : Prop := match x, y with
  | .int i, .int j => C i j ∧ Q (g i j) M
  | _, _ => False
def fI0 (g : Int → Int → X) (x y : X) (M : Mu) (Q : VKd) : Prop := match x, y with
  | .int i, .int j => Q (g i j) M
  | _, _ => False
def fU (g : Int → X) (x : X) (M : Mu) (Q : VKd) : Prop := match x with
  | .int i => Q (g i) M
  | _ => False
/-- the list that stands for x -/
def lstOf (M : Mu) : X → Option (List X)
  | .lst _ xs => some xs
  | .ptr p => match M p with
    | some (.lst xs) => some xs
    | _ => none
  | .scr ns => some (ns.map .int)
  | _ => none
/-- .. that may be copied, joined (the script is not) -/
def lstO (M : Mu) : X → Option (List X)
  | .lst _ xs => some xs
  | .ptr p => match M p with
    | some (.lst xs) => some xs
    | _ => none
  | _ => none
section
variable {K : PySem.W.Frag} {N : Ent} {O H : Hp} {M : Mu} {x y : X} {v w : V}
theorem lstO_ok (S : Stt K N O M H) (r : Rp K O N.B0 x v) {xs : List X} (h : lstO M x = some xs) : ∃ a vs, v = .ref a ∧ H a = some (.lst vs) ∧ RpA K O N.B0 xs vs := by
  cases x with
  | lst b ys =>
    simp only [lstO, Option.some.injEq] at h
    subst h
    simp only [Rp] at r
    obtain ⟨a, vs, e, q, r⟩ := r
    cases b with
    | true => exact ⟨a, vs, e, S.oh a _ q, r⟩
    | false => exact ⟨a, vs, e, (of_fz (S.b0 a _ q)).1, r⟩
  | ptr p =>
    simp only [lstO] at h
    split at h
    · rename_i ys e
      cases h
      simp only [Rp] at r
      obtain ⟨vs, hp, rr⟩ := S.cl p _ e
      exact ⟨p, vs, r, hp, rr⟩
    · cases h
  | _ => simp only [lstO] at h; cases h
theorem lstOf_ok (S : Stt K N O M H) (r : Rp K O N.B0 x v) {xs : List X} (h : lstOf M x = some xs) : ∃ a vs, v = .ref a ∧ SqL K H a vs ∧ RpA K O N.B0 xs vs := by
  cases x with
  | scr ns =>
    simp only [lstOf, Option.some.injEq] at h
    subst h
    simp only [Rp] at r
    obtain ⟨a, e, q⟩ := r
    exact ⟨a, _, e, ex_sql (S.b0.trans fz_sub) q, RpA.of_ints ns⟩
  | lst b ys =>
    obtain ⟨a, vs, e, q, r⟩ := lstO_ok S r (xs := xs) h
    exact ⟨a, vs, e, .inl (.inl q), r⟩
  | ptr p =>
    obtain ⟨a, vs, e, q, r⟩ := lstO_ok S r (xs := xs) h
    exact ⟨a, vs, e, .inl (.inl q), r⟩
  | _ => simp only [lstOf] at h; cases h
theorem tup_ok (S : Stt K N O M H) {xs : List X} (r : Rp K O N.B0 (.tup xs) v) : ∃ a vs, v = .ref a ∧ SqT K H a vs ∧ RpA K O N.B0 xs vs := by
  simp only [Rp] at r
  obtain ⟨a, vs, e, q, r⟩ := r
  exact ⟨a, vs, e, ex_sqt S.oh q, r⟩
theorem snd_I {C : Int → Int → Prop} {g : Int → Int → V} {g' : Int → Int → X} (hg : ∀ O B i j, Rp K O B (g' i j) (g i j)) : SndOp K (rI C g) (fI C g') := fun N O M H x y v u Q Qd S rx ry h k => by
  cases x with
  | int i =>
    cases y with
    | int j =>
      simp only [Rp] at rx ry
      exact ⟨i, j, rx, ry, h.1, k O M H _ _ (Nxt.refl S) (hg _ _ i j) h.2⟩
    | _ => exact h.elim
  | _ => exact h.elim
theorem snd_I0 {g : Int → Int → V} {g' : Int → Int → X} (hg : ∀ O B i j, Rp K O B (g' i j) (g i j)) : SndOp K (rI0 g) (fI0 g') := fun N O M H x y v u Q Qd S rx ry h k => by
  cases x with
  | int i =>
    cases y with
    | int j =>
      simp only [Rp] at rx ry
      exact ⟨i, j, rx, ry, k O M H _ _ (Nxt.refl S) (hg _ _ i j) h⟩
    | _ => exact h.elim
  | _ => exact h.elim
theorem snd_ip {f : Int → Int → Int} : SndOp K (ipI f) (fI0 fun i j => .int (f i j)) := snd_I0 (g := fun i j => .int (f i j)) fun _ _ _ _ => by simp only [Rp]
theorem snd_U {g : Int → V} {g' : Int → X} (hg : ∀ O B i, Rp K O B (g' i) (g i)) : SndU K (rU g) (fU g') := fun N O M H x v Q Qd S rx h k => by
  cases x with
  | int i =>
    simp only [Rp] at rx
    exact ⟨i, rx, k O M H _ _ (Nxt.refl S) (hg _ _ i) h⟩
  | _ => exact h.elim
end
abbrev gI (f : Int → Int → Int) : Int → Int → X := fun i j => .int (f i j)
abbrev gB (f : Int → Int → Bool) : Int → Int → X := fun i j => .bl (f i j)
/-- a + b: ints; lists (a new one) -/
def fAdd (m : Bool) (x y : X) (M : Mu) (Q : VKd) : Prop := match x, y with
  | .int i, .int j => Q (.int (i + j)) M
  | _, _ => match lstO M x, lstO M y with
    | some xs, some ys => xs.length + ys.length ≤ sizeLine ∧ newl m (xs ++ ys) M Q
    | _, _ => False
/-- a * b: ints; a list and an int -/
def fMul (m : Bool) (x y : X) (M : Mu) (Q : VKd) : Prop := match x, y with
  | .int i, .int j => CMul i j ∧ Q (.int (i * j)) M
  | _, .int k => (match lstO M x with
    | some xs => k < 2 ^ 60 ∧ -(2 ^ 60) < k ∧ xs.length * k.toNat ≤ sizeLine ∧ newl m (List.replicate k.toNat xs).flatten M Q
    | none => False)
  | _, _ => False
def rAddO : R2 := fun x y H Q => (∃ i j, x = .int i ∧ y = .int j ∧ Q (.int (i + j)) H) ∨ rCat x y H Q
def rMulO : R2 := fun x y H Q => rI CMul (fun i j => .int (i * j)) x y H Q ∨ rRep x y H Q
section
variable {Y : Cx} {K : PySem.W.Frag} {W : Ent → Prop} {a b : Expr} {pos : Pos} {da db : DE}
theorem snd_add (m : Bool) : SndOp K rAddO (fAdd m) := fun N O M H x y v u Q Qd S rx ry h k => by
  have lists : ∀ {xs ys : List X}, lstO M x = some xs → lstO M y = some ys → xs.length + ys.length ≤ sizeLine ∧ newl m (xs ++ ys) M Qd → rAddO v u H Q := fun {xs ys} ex ey h => by
    obtain ⟨p, vs, e1, q1, r1⟩ := lstO_ok S rx ex
    obtain ⟨p2, ws, e2, q2, r2⟩ := lstO_ok S ry ey
    exact .inr ⟨p, p2, vs, ws, e1, e2, q1, q2, by rw [r1.len, r2.len]; exact h.1, newl_ok S (r1.append r2) h.2 k⟩
  unfold fAdd at h
  split at h
  · rename_i i j
    simp only [Rp] at rx ry
    exact .inl ⟨i, j, rx, ry, k O M H _ _ (Nxt.refl S) (by simp only [Rp]) h⟩
  · split at h
    · rename_i ex ey
      exact lists ex ey h
    · exact h.elim
theorem rep_flat {xs : List V} {vs : List V} : True := trivial
theorem snd_mul (m : Bool) : SndOp K rMulO (fMul m) := fun N O M H x y v u Q Qd S rx ry h k => by
  unfold fMul at h
  split at h
  · rename_i i j
    simp only [Rp] at rx ry
    exact .inl ⟨i, j, rx, ry, h.1, k O M H _ _ (Nxt.refl S) (by simp only [Rp]) h.2⟩
  · rename_i x' n hne
    split at h
    · rename_i xs ex
      obtain ⟨p, vs, e1, q1, r1⟩ := lstO_ok S rx ex
      simp only [Rp] at ry
      exact .inr ⟨p, n, vs, e1, ry, q1, by omega, by omega, by rw [r1.len]; exact h.2.2.1, newl_ok S (r1.rep n.toNat) h.2.2.2 k⟩
    · exact h.elim
  · exact h.elim
theorem op_addO : OpR Y (binaryOp .Add) rAddO := OpR.or (r := fun x y H Q => ∃ i j, x = .int i ∧ y = .int j ∧ Q (.int (i + j)) H) op_add op_cat
theorem op_mulO : OpR Y (binaryOp .Mult) rMulO := OpR.or op_mul op_rep
theorem pd_add (m : Bool) (ha : PD Y W a da) (hb : PD Y W b db) : PD Y W (.BinOp a .Add b pos) (dop (fAdd m) da db) := pd_op op_addO (snd_add m) ha hb
theorem pd_mul (m : Bool) (ha : PD Y W a da) (hb : PD Y W b db) : PD Y W (.BinOp a .Mult b pos) (dop (fMul m) da db) := pd_op op_mulO (snd_mul m) ha hb
theorem pd_sub (ha : PD Y W a da) (hb : PD Y W b db) : PD Y W (.BinOp a .Sub b pos) (dop (fI0 (gI fun i j => i - j)) da db) := pd_op op_sub (snd_I0 fun _ _ _ _ => by simp only [Rp]) ha hb
theorem pd_fdiv (ha : PD Y W a da) (hb : PD Y W b db) : PD Y W (.BinOp a .FloorDiv b pos) (dop (fI CDiv (gI fun i j => i / j)) da db) := pd_op op_fdiv (snd_I fun _ _ _ _ => by simp only [Rp]) ha hb
theorem pd_mod (ha : PD Y W a da) (hb : PD Y W b db) : PD Y W (.BinOp a .Mod b pos) (dop (fI (fun _ j => 0 < j) (gI fun i j => i % j)) da db) := pd_op op_mod (snd_I fun _ _ _ _ => by simp only [Rp]) ha hb
theorem pd_pow (ha : PD Y W a da) (hb : PD Y W b db) : PD Y W (.BinOp a .Pow b pos) (dop (fI CPow (gI fun i j => i ^ j.toNat)) da db) := pd_op op_pow (snd_I fun _ _ _ _ => by simp only [Rp]) ha hb
theorem pd_neg (ha : PD Y W a da) : PD Y W (.UnaryOp .USub a pos) (dun (fU fun i => .int (-i)) da) := pd_un un_neg (snd_U fun _ _ _ => by simp only [Rp]) ha
end

/-! ### comparisons -/
/-- scalars: == by what they are -/
def scalX : X → X → Bool
  | .non, _ => true | _, .non => true
  | .bl _, .bl _ => true | .int _, .int _ => true | .str _, .str _ => true
  | _, _ => false
def eqX : X → X → Bool
  | .non, .non => true
  | .bl a, .bl b => a == b
  | .int a, .int b => a == b
  | .str a, .str b => decide (a = b)
  | _, _ => false
def fEq (n : Bool) (x y : X) (M : Mu) (Q : VKd) : Prop := match x, y with
  | .int i, .int j => Q (.bl (n != decide (i = j))) M
  | .bl i, .bl j => Q (.bl (n != decide (i = j))) M
  | .str i, .str j => Q (.bl (n != decide (i = j))) M
  | _, _ => False
section
variable {Y : Cx} {K : PySem.W.Frag} {W : Ent → Prop} {a b : Expr} {pos : Pos} {da db : DE}
theorem snd_eq : SndOp K rEq (fEq false) := fun N O M H x y v u Q Qd S rx ry h k => by
  unfold fEq at h
  split at h <;> first
    | exact h.elim
    | (simp only [Rp] at rx ry
       subst rx ry
       refine ⟨rfl, k O M H _ _ (Nxt.refl S) ?_ h⟩
       simp [Rp])
theorem snd_ne : SndOp K rNe (fEq true) := fun N O M H x y v u Q Qd S rx ry h k => by
  unfold fEq at h
  split at h <;> first
    | exact h.elim
    | (simp only [Rp] at rx ry
       subst rx ry
       refine ⟨rfl, k O M H _ _ (Nxt.refl S) ?_ h⟩
       simp [Rp])
abbrev fLt := fI0 (gB fun i j => decide (i < j))
abbrev fLe := fI0 (gB fun i j => decide (i ≤ j))
abbrev fGt := fI0 (gB fun i j => decide (j < i))
abbrev fGe := fI0 (gB fun i j => decide (j ≤ i))
theorem snd_B {g : Int → Int → Bool} : SndOp K (rI0 fun i j => .bl (g i j)) (fI0 (gB g)) := snd_I0 fun _ _ _ _ => by simp only [Rp]
/-- is None, is not None -/
def fIsN (n : Bool) (x y : X) (M : Mu) (Q : VKd) : Prop := match y with
  | .non => (match x with
    | .non => Q (.bl (!n)) M
    | _ => Q (.bl n) M)
  | _ => False
theorem rp_non {O B : Hp} {x : X} (r : Rp K O B x .non) : x = .non := by
  cases x with
  | non => rfl
  | bl _ => simp only [Rp] at r; cases r
  | int _ => simp only [Rp] at r; cases r
  | str _ => simp only [Rp] at r; cases r
  | ptr _ => simp only [Rp] at r; cases r
  | ref _ => simp only [Rp] at r; cases r
  | scr _ => simp only [Rp] at r; obtain ⟨_, e, _⟩ := r; cases e
  | lst _ _ => simp only [Rp] at r; obtain ⟨_, _, e, _⟩ := r; cases e
  | tup _ => simp only [Rp] at r; obtain ⟨_, _, e, _⟩ := r; cases e
  | obj _ _ _ _ => simp only [Rp] at r; obtain ⟨_, _, _, e, _⟩ := r; cases e
  | exn _ _ _ => simp only [Rp] at r; obtain ⟨_, _, e, _⟩ := r; cases e
theorem snd_isN (n : Bool) : SndOp K (fun x y H Q => y = .non ∧ Q (.bl (n != decide (x = .non))) H) (fIsN n) := fun N O M H x y v u Q Qd S rx ry h k => by
  cases y with
  | non =>
    simp only [Rp] at ry
    refine ⟨ry, ?_⟩
    by_cases e : v = .non
    · subst e
      have ex := rp_non rx
      subst ex
      rw [decide_eq_true rfl]
      refine k O M H (.bl (!n)) _ (Nxt.refl S) ?_ h
      cases n <;> simp [Rp]
    · rw [decide_eq_false e]
      have ex : x ≠ .non := fun z => by subst z; simp only [Rp] at rx; exact e rx
      have h' : Qd (.bl n) M := by
        cases x <;> first | exact absurd rfl ex | exact h
      refine k O M H (.bl n) _ (Nxt.refl S) ?_ h'
      cases n <;> simp [Rp]
  | _ => exact h.elim
theorem op_isN' : OpR Y (compareOp .Is) (fun x y H Q => y = .non ∧ Q (.bl (false != decide (x = .non))) H) := by
  have e : (fun (x y : V) (H : Hp) (Q : VK) => y = .non ∧ Q (.bl (false != decide (x = .non))) H) = fun x y H Q => y = .non ∧ Q (.bl (decide (x = .non))) H := by
    funext x y H Q; simp
  rw [e]; exact op_isN
theorem op_notN' : OpR Y (compareOp .IsNot) (fun x y H Q => y = .non ∧ Q (.bl (true != decide (x = .non))) H) := by
  have e : (fun (x y : V) (H : Hp) (Q : VK) => y = .non ∧ Q (.bl (true != decide (x = .non))) H) = fun x y H Q => y = .non ∧ Q (.bl (!decide (x = .non))) H := by
    funext x y H Q; simp
  rw [e]; exact op_notN
/-- x in xs: flat things -/
def flatX : X → Bool
  | .non => true | .bl _ => true | .int _ => true | .str _ => true
  | _ => false
def toV : X → V
  | .bl b => .bl b | .int i => .int i | .str s => .str s
  | _ => .non
def fIn (n : Bool) (x y : X) (M : Mu) (Q : VKd) : Prop := match (match y with | .tup ys => some ys | _ => lstOf M y) with
  | some ys => flatX x = true ∧ ys.all flatX = true ∧ Q (.bl (n != inV (toV x) (ys.map toV))) M
  | none => False
theorem rp_flat {O B : Hp} {x : X} {v : V} (r : Rp K O B x v) (f : flatX x = true) : v = toV x ∧ flatV v = true := by
  cases x with
  | non => simp only [Rp] at r; subst r; exact ⟨rfl, rfl⟩
  | bl _ => simp only [Rp] at r; subst r; exact ⟨rfl, rfl⟩
  | int _ => simp only [Rp] at r; subst r; exact ⟨rfl, rfl⟩
  | str _ => simp only [Rp] at r; subst r; exact ⟨rfl, rfl⟩
  | _ => cases f
theorem rpa_flat {O B : Hp} : ∀ {xs : List X} {vs : List V}, RpA K O B xs vs → xs.all flatX = true → vs = xs.map toV ∧ vs.all flatV = true
  | [], _, r, _ => by simp only [RpA] at r; subst r; exact ⟨rfl, rfl⟩
  | x :: xs, _, r, f => by
    simp only [RpA] at r
    obtain ⟨v, t, e, q, u⟩ := r
    rw [List.all_cons, Bool.and_eq_true] at f
    obtain ⟨e1, f1⟩ := rp_flat q f.1
    obtain ⟨e2, f2⟩ := rpa_flat u f.2
    subst e e2
    rw [e1]
    refine ⟨rfl, ?_⟩
    rw [List.all_cons, ← e1, f1, f2]; rfl
theorem snd_in (n : Bool) : SndOp K (rIn K n) (fIn n) := fun N O M H x y v u Q Qd S rx ry h k => by
  have go : ∀ {a : Addr} {ys : List X} {vs : List V}, u = .ref a → (SqL K H a vs ∨ SqT K H a vs) → RpA K O N.B0 ys vs → (flatX x = true ∧ ys.all flatX = true ∧ Qd (.bl (n != inV (toV x) (ys.map toV))) M) → rIn K n v u H Q := fun {a ys vs} e1 q1 r1 h => by
    obtain ⟨e2, f2⟩ := rp_flat rx h.1
    obtain ⟨e3, f3⟩ := rpa_flat r1 h.2.1
    refine ⟨a, vs, e1, q1, f2, f3, ?_⟩
    refine k O M H (.bl (n != inV (toV x) (ys.map toV))) _ (Nxt.refl S) ?_ h.2.2
    rw [e2, e3]
    cases n <;> simp [Rp]
  unfold fIn at h
  split at h
  · rename_i ys e
    split at e
    · cases e
      obtain ⟨a, vs, e1, q1, r1⟩ := tup_ok S ry
      exact go e1 (.inr q1) r1 h
    · obtain ⟨a, vs, e1, q1, r1⟩ := lstOf_ok S ry e
      exact go e1 (.inl q1) r1 h
  · exact h.elim
end

/-! ### subscripts, slices -/
def fIx (x y : X) (M : Mu) (Q : VKd) : Prop := match y with
  | .int i => (match (match x with | .tup ys => some ys | _ => lstOf M x) with
    | some xs => (match atI xs i with
      | some z => Q z M
      | none => False)
    | none => False)
  | _ => False
def rIxO (K : PySem.W.Frag) : R2 := fun x y H Q => rIxL K x y H Q ∨ rIxT K x y H Q
def fSl (m : Bool) (x : X) (lo hi : Option Int) (M : Mu) (Q : VKd) : Prop := match lstOf M x with
  | some xs => newl m ((xs.drop (HT.sIx xs.length 0 lo)).take (HT.sIx xs.length xs.length hi - HT.sIx xs.length 0 lo)) M Q
  | none => False
abbrev DO := Dl → Mu → (Option Int → Mu → Prop) → Prop
def dno : DO := fun _ M Q => Q none M
def dpart (e : DE) : DO := fun δ M Q => e δ M fun x M1 => match x with
  | .int i => Q (some i) M1
  | _ => False
def dsl (m : Bool) (e : DE) (l h : DO) : DE := fun δ M Q => e δ M fun x M1 => l δ M1 fun i M2 => h δ M2 fun j M3 => fSl m x i j M3 Q
section
variable {Y : Cx} {K : PySem.W.Frag} {W : Ent → Prop} {a b e : Expr} {pos p2 : Pos} {da db : DE} {lo hi : Option Expr} {dl dh : DO}
theorem atI_rp {O B : Hp} {xs : List X} {vs : List V} {i : Int} {z : X} (r : RpA K O B xs vs) (h : atI xs i = some z) : ∃ w, atI vs i = some w ∧ Rp K O B z w := by
  unfold atI at h ⊢
  rw [← r.len] at h
  cases e : ixN vs.length i with
  | none => rw [e] at h; cases h
  | some j =>
    rw [e] at h
    exact r.get h
theorem snd_ix : SndOp K (rIxO K) fIx := fun N O M H x y v u Q Qd S rx ry h k => by
  cases y with
  | int i =>
    simp only [Rp] at ry
    simp only [fIx] at h
    split at h
    · rename_i xs e
      split at h
      · rename_i z ez
        split at e
        · cases e
          obtain ⟨a, vs, e1, q1, r1⟩ := tup_ok S rx
          obtain ⟨w, ew, rw'⟩ := atI_rp r1 ez
          exact .inr ⟨a, vs, i, w, e1, ry, q1, ew, k O M H z w (Nxt.refl S) rw' h⟩
        · obtain ⟨a, vs, e1, q1, r1⟩ := lstOf_ok S rx e
          obtain ⟨w, ew, rw'⟩ := atI_rp r1 ez
          exact .inl ⟨a, vs, i, w, e1, ry, q1, ew, k O M H z w (Nxt.refl S) rw' h⟩
      · exact h.elim
    · exact h.elim
  | _ => exact h.elim
theorem pd_ix (ha : PD Y W a da) (hb : PD Y W b db) (hs : PlainIx b := by exact fun _ _ => rfl) : PD Y W (.Subscript a b pos) (dop fIx da db) := by
  obtain ⟨t, h1, s1⟩ := ha.ex
  obtain ⟨u, h2, s2⟩ := hb.ex
  exact ⟨_, pe_ix (ix_list.or ix_tup) h1 h2 hs, snd_op s1 s2 snd_ix⟩
structure POD (Y : Cx) (W : Ent → Prop) (e : Option Expr) (d : DO) : Prop where
  ex : ∃ t, PO Y e t ∧ ∀ (N : Ent) (O : Hp) (M : Mu) (δ : Dl) (σ : L2.St) (H : Hp) (Q : Option Int → Hp → Prop) (Qd : Option Int → Mu → Prop), W N → Stt Y.K N O M H → Sl Y.K O N.B0 δ σ → d δ M Qd →
    (∀ O' M' H' i, Nxt Y.K N O M H O' M' H' → Qd i M' → Q i H') → t σ H Q
theorem pod_none : POD Y W none dno := ⟨_, po_none, fun N O M δ σ H Q Qd w S L h k => k O M H none (Nxt.refl S) h⟩
theorem pod_some (h : PD Y W e da) : POD Y W (some e) (dpart da) := by
  obtain ⟨t, h1, s1⟩ := h.ex
  refine ⟨_, po_some h1, fun N O M δ σ H Q Qd w S L h k => s1 N O M δ σ H _ _ w S L h fun O1 M1 H1 x v n r h => ?_⟩
  split at h
  · rename_i i
    simp only [Rp] at r
    exact ⟨i, r, k O1 M1 H1 (some i) n h⟩
  · exact h.elim
theorem pd_slice (m : Bool) (he : PD Y W e da) (hl : POD Y W lo dl) (hh : POD Y W hi dh) : PD Y W (.Subscript e (.Slice lo hi none p2) pos) (dsl m da dl dh) := by
  obtain ⟨t, h1, s1⟩ := he.ex
  obtain ⟨u, h2, s2⟩ := hl.ex
  obtain ⟨u3, h3, s3⟩ := hh.ex
  refine ⟨_, pe_slice sl_list h1 h2 h3, fun N O M δ σ H Q Qd w S L h k => s1 N O M δ σ H _ _ w S L h fun O1 M1 H1 x v n1 r1 h => s2 N O1 M1 δ σ H1 _ _ w n1.st (n1.sl L) h fun O2 M2 H2 i n2 h => s3 N O2 M2 δ σ H2 _ _ w n2.st ((n1.trans n2).sl L) h fun O3 M3 H3 j n3 h => ?_⟩
  unfold fSl at h
  split at h
  · rename_i xs ex
    obtain ⟨a, vs, e1, q1, r1⟩ := lstOf_ok n3.st ((n2.trans n3).rp r1) ex
    refine ⟨a, vs, e1, q1, fun p hp => ?_⟩
    refine newl_ok n3.st (zs := (xs.drop (HT.sIx xs.length 0 i)).take (HT.sIx xs.length xs.length j - HT.sIx xs.length 0 i)) ?_ h (fun O' M' H' x v n r q => k O' M' H' x v (((n1.trans n2).trans n3).trans n) r q) p hp
    unfold cutV
    rw [r1.len]
    exact (r1.drop _).take _
  · exact h.elim
end

/-! ### built-in calls -/
def fLen (xs : List X) (M : Mu) (Q : VKd) : Prop := match xs with
  | [x] => (match (match x with | .tup ys => some ys | _ => lstOf M x) with
    | some ys => Q (.int ys.length) M
    | none => False)
  | _ => False
def fAbs (xs : List X) (M : Mu) (Q : VKd) : Prop := match xs with
  | [.int i] => Q (.int (if i < 0 then -i else i)) M
  | _ => False
def fInt (xs : List X) (M : Mu) (Q : VKd) : Prop := match xs with
  | [.int i] => Q (.int i) M
  | _ => False
def fMin2 (xs : List X) (M : Mu) (Q : VKd) : Prop := match xs with
  | [.int i, .int j] => Q (.int (if j < i then j else i)) M
  | _ => False
def fList (m : Bool) (xs : List X) (M : Mu) (Q : VKd) : Prop := match xs with
  | [x] => (match (match x with | .tup ys => some ys | _ => lstOf M x) with
    | some ys => newl m ys M Q
    | none => False)
  | _ => False
section
variable {Y : Cx} {K : PySem.W.Frag}
theorem rpa1 {O B : Hp} {x : X} {vs : List V} (r : RpA K O B [x] vs) : ∃ v, vs = [v] ∧ Rp K O B x v := by
  simp only [RpA] at r
  obtain ⟨v, t, e, q, rfl⟩ := r
  exact ⟨v, e, q⟩
theorem rpa2 {O B : Hp} {x y : X} {vs : List V} (r : RpA K O B [x, y] vs) : ∃ v w, vs = [v, w] ∧ Rp K O B x v ∧ Rp K O B y w := by
  simp only [RpA] at r
  obtain ⟨v, t, e, q, w, t2, rfl, q2, rfl⟩ := r
  exact ⟨v, w, e, q, q2⟩
theorem snd_len : SndC K (fun xs H Q => ∃ p ys, xs = [.ref p] ∧ (SqL K H p ys ∨ SqT K H p ys) ∧ Q (.int ys.length) H) fLen := fun N O M H xs vs Q Qd S r h k => by
  match xs, h with
  | [x], h =>
    obtain ⟨v, e, q⟩ := rpa1 r
    simp only [fLen] at h
    split at h
    · rename_i ys ey
      split at ey
      · cases ey
        obtain ⟨a, ws, e1, q1, r1⟩ := tup_ok S q
        exact ⟨a, ws, by rw [e, e1], .inr q1, k O M H _ _ (Nxt.refl S) (by simp [Rp, r1.len]) h⟩
      · obtain ⟨a, ws, e1, q1, r1⟩ := lstOf_ok S q ey
        exact ⟨a, ws, by rw [e, e1], .inl q1, k O M H _ _ (Nxt.refl S) (by simp [Rp, r1.len]) h⟩
    · exact h.elim
theorem snd_abs : SndC K (fun xs H Q => ∃ i, xs = [.int i] ∧ Q (.int (if i < 0 then -i else i)) H) fAbs := fun N O M H xs vs Q Qd S r h k => by
  match xs, h with
  | [.int i], h =>
    obtain ⟨v, e, q⟩ := rpa1 r
    simp only [Rp] at q
    exact ⟨i, by rw [e, q], k O M H _ _ (Nxt.refl S) (by simp only [Rp]) h⟩
theorem snd_int : SndC K (fun xs H Q => (∃ i, xs = [.int i] ∧ Q (.int i) H) ∨ ∃ k, xs = [.bl k] ∧ Q (.int (if k then 1 else 0)) H) fInt := fun N O M H xs vs Q Qd S r h k => by
  match xs, h with
  | [.int i], h =>
    obtain ⟨v, e, q⟩ := rpa1 r
    simp only [Rp] at q
    exact .inl ⟨i, by rw [e, q], k O M H _ _ (Nxt.refl S) (by simp only [Rp]) h⟩
theorem snd_min2 : SndC K (fun xs H Q => ∃ i j, xs = [.int i, .int j] ∧ Q (.int (if j < i then j else i)) H) fMin2 := fun N O M H xs vs Q Qd S r h k => by
  match xs, h with
  | [.int i, .int j], h =>
    obtain ⟨v, w, e, q, q2⟩ := rpa2 r
    simp only [Rp] at q q2
    exact ⟨i, j, by rw [e, q, q2], k O M H _ _ (Nxt.refl S) (by simp only [Rp]) h⟩
theorem snd_list (m : Bool) : SndC K (fun xs H Q => ∃ p ys, xs = [.ref p] ∧ (SqL K H p ys ∨ SqT K H p ys) ∧ ∀ l, H l = none → Q (.ref l) (upd H l (.lst ys))) (fList m) := fun N O M H xs vs Q Qd S r h k => by
  match xs, h with
  | [x], h =>
    obtain ⟨v, e, q⟩ := rpa1 r
    simp only [fList] at h
    split at h
    · rename_i ys ey
      split at ey
      · cases ey
        obtain ⟨a, ws, e1, q1, r1⟩ := tup_ok S q
        exact ⟨a, ws, by rw [e, e1], .inr q1, newl_ok S r1 h k⟩
      · obtain ⟨a, ws, e1, q1, r1⟩ := lstOf_ok S q ey
        exact ⟨a, ws, by rw [e, e1], .inl q1, newl_ok S r1 h k⟩
    · exact h.elim
end

/-! ### methods of lists -/
def dbm (f : X → List X → Mu → VKd → Prop) (o : DE) (a : DA) : DE := fun δ M Q => o δ M fun x M1 => (lstOf M1 x).isSome ∧ a δ M1 fun xs M2 => f x xs M2 Q
def SndM (K : PySem.W.Frag) (r : V → List V → Hp → VK → Prop) (f : X → List X → Mu → VKd → Prop) : Prop := ∀ (N : Ent) (O : Hp) (M : Mu) (H : Hp) (x : X) (v : V) (xs : List X) (vs : List V) (Q : VK) (Qd : VKd), Stt K N O M H → Rp K O N.B0 x v → RpA K O N.B0 xs vs → f x xs M Qd →
  (∀ O' M' H' z w, Nxt K N O M H O' M' H' → Rp K O' N.B0 z w → Qd z M' → Q w H') → r v vs H Q
def fAppend (x : X) (xs : List X) (M : Mu) (Q : VKd) : Prop := match x, xs with
  | .ptr p, [y] => (match M p with
    | some (.lst zs) => zs.length < sizeLine ∧ Q .non (mset M p (.lst (zs ++ [y])))
    | _ => False)
  | _, _ => False
def fPop (x : X) (xs : List X) (M : Mu) (Q : VKd) : Prop := match x, xs with
  | .ptr p, [] => (match M p with
    | some (.lst zs) => (match zs[zs.length - 1]? with
      | some y => Q y (mset M p (.lst zs.dropLast))
      | none => False)
    | _ => False)
  | _, _ => False
section
variable {Y : Cx} {K : PySem.W.Frag} {W : Ent → Prop} {o e : Expr} {es : List Expr} {apos cpos : Pos} {do' : DE} {dr : DA}
theorem snd_bm {t : TE} {u : TA} {r : V → List V → Hp → VK → Prop} {f : X → List X → Mu → VKd → Prop} (h1 : SndE K W t do') (h2 : SndA K W u dr) (hr : SndM K r f) : SndE K W (tBM K "list" r t u) (dbm f do' dr) := fun N O M δ σ H Q Qd w S L h k =>
  h1 N O M δ σ H _ _ w S L h fun O1 M1 H1 x v n1 r1 h => by
    obtain ⟨hs, h⟩ := h
    obtain ⟨ys, ey⟩ := Option.isSome_iff_exists.mp hs
    obtain ⟨a, ws, e1, q1, _⟩ := lstOf_ok n1.st r1 ey
    refine ⟨by rw [e1]; exact .inl ⟨rfl, ws, q1⟩, ?_⟩
    exact h2 N O1 M1 δ σ H1 _ _ w n1.st (n1.sl L) h fun O2 M2 H2 xs vs n2 r2 h => hr N O2 M2 H2 x v xs vs _ _ n2.st (n2.rp r1) r2 h fun O3 M3 H3 z w3 n3 r3 h => k O3 M3 H3 z w3 ((n1.trans n2).trans n3) r3 h
theorem snd_append : SndM K rAppend fAppend := fun N O M H x v xs vs Q Qd S rx r h k => by
  cases x with
  | ptr p =>
    match xs, h with
    | [y], h =>
      simp only [fAppend] at h
      split at h
      · rename_i zs e
        obtain ⟨v1, e1, ry⟩ := rpa1 r
        simp only [Rp] at rx
        obtain ⟨ws, hp, rr⟩ := S.cl p _ e
        have S' := S.write e (rr.append (RpA.cons ry RpA.nil))
        exact ⟨p, ws, v1, rx, e1, hp, by rw [rr.len]; exact h.1, k O _ _ .non _ ⟨S', Ex.refl _⟩ (by simp only [Rp]) h.2⟩
      · exact h.elim
  | _ => exact h.elim
theorem snd_pop : SndM K rPop fPop := fun N O M H x v xs vs Q Qd S rx r h k => by
  cases x with
  | ptr p =>
    match xs, h with
    | [], h =>
      simp only [fPop] at h
      split at h
      · rename_i zs e
        split at h
        · rename_i y ey
          simp only [RpA] at r
          simp only [Rp] at rx
          obtain ⟨ws, hp, rr⟩ := S.cl p _ e
          obtain ⟨w, ew, rw'⟩ := rr.get ey
          have S' := S.write e rr.dropLast
          exact ⟨p, ws, w, rx, r, hp, by rw [rr.len]; exact ew, k O _ _ y w ⟨S', Ex.refl _⟩ rw' h⟩
        · exact h.elim
      · exact h.elim
  | _ => exact h.elim
theorem pd_bm {id : String} {name : Str} {r : V → List V → Hp → VK → Prop} {f : X → List X → Mu → VKd → Prop} (slot : Slot "list" name id) (hty : typeOf (.builtin id) = pure (.type "method_descriptor")) (hm : MtR Y id r) (hr : SndM Y.K r f) (ho : PD Y W o do') (ha : PAD Y W (e :: es) dr)
    (hbase : attributeBase o name Y.env (eval o Y.env) = eval o Y.env := by rfl)
    (hfew : ((backTo cpos (starEach (e :: es) Y.env)).all (fun x => !x.1) && (backToKw cpos (keywordEach [] Y.env)).all (fun x => x.1.isSome)
      && decide ((e :: es).length + ([] : List Keyword).length + (if ([] : List Keyword).isEmpty then 0 else 1) < 30)) = true := by rfl)
    (hline : (apos.endLine == cpos.line) = true := by rfl) (hs : starEach (e :: es) Y.env = (false, eval e Y.env) :: starEach es Y.env := by rfl) (hplain : (backTo cpos (starEach es Y.env)).any (·.1) = false := by rfl) :
    PD Y W (.Call (.Attribute o name apos) (e :: es) [] cpos) (dbm f do' dr) := by
  obtain ⟨t, h1, s1⟩ := ho.ex
  obtain ⟨u, h2, s2⟩ := ha.ex
  exact ⟨_, pe_bm PySem.F.plainAttrs_list slot hty hm h1 h2 hbase hfew hline hs hplain, snd_bm s1 s2 hr⟩
theorem pd_bm0 {id : String} {name : Str} {r : V → List V → Hp → VK → Prop} {f : X → List X → Mu → VKd → Prop} (slot : Slot "list" name id) (hty : typeOf (.builtin id) = pure (.type "method_descriptor")) (hm : MtR Y id r) (hr : SndM Y.K r f) (ho : PD Y W o do')
    (hbase : attributeBase o name Y.env (eval o Y.env) = eval o Y.env := by rfl) (hline : (apos.endLine == cpos.line) = true := by rfl) :
    PD Y W (.Call (.Attribute o name apos) [] [] cpos) (dbm f do' dnil) := by
  obtain ⟨t, h1, s1⟩ := ho.ex
  refine ⟨_, pe_bm0 PySem.F.plainAttrs_list slot hty hm h1 hbase hline, fun N O M δ σ H Q Qd w S L h k => ?_⟩
  exact snd_bm s1 snd_nil hr N O M δ σ H Q Qd w S L h k
end

/-! ### what is walked -/
def dirng1 (a : DA) : DI := fun δ M Q => a δ M fun xs M1 => match xs with
  | [.int j] => j < 2 ^ 60 ∧ -(2 ^ 60) < j ∧ Q ((List.range j.toNat).map fun i => .int (i : Nat)) (fun _ => True) M1
  | _ => False
def dirng2 (a : DA) : DI := fun δ M Q => a δ M fun xs M1 => match xs with
  | [.int i, .int j] => (j < 2 ^ 60 ∧ -(2 ^ 60) < j ∧ i < 2 ^ 60 ∧ -(2 ^ 60) < i) ∧ Q ((List.range (j - i).toNat).map fun k => .int (i + (k : Nat))) (fun _ => True) M1
  | _ => False
/-- a list stays as it is where it is mutable -/
def stays (x : X) (xs : List X) (M : Mu) : Prop := match x with
  | .ptr p => M p = some (.lst xs)
  | _ => True
def dilst (e : DE) : DI := fun δ M Q => e δ M fun x M1 => match lstOf M1 x with
  | some xs => Q xs (stays x xs) M1
  | none => False
def ditup (e : DE) : DI := fun δ M Q => e δ M fun x M1 => match x with
  | .tup xs => Q xs (fun _ => True) M1
  | _ => False
def enumX (n : Nat) : List X → List X
  | [] => []
  | x :: xs => .tup [.int n, x] :: enumX (n + 1) xs
def dienum (a : DA) : DI := fun δ M Q => a δ M fun xs M1 => match xs with
  | [x] => (match lstOf M1 x with
    | some ys => Q (enumX 0 ys) (stays x ys) M1
    | none => False)
  | _ => False
def zipX : List X → List X → List X
  | x :: xs, y :: ys => .tup [x, y] :: zipX xs ys
  | _, _ => []
def dizip (a : DA) : DI := fun δ M Q => a δ M fun xs M1 => match xs with
  | [x, y] => (match lstOf M1 x, lstOf M1 y with
    | some xs, some ys => Q (zipX xs ys) (fun M => stays x xs M ∧ stays y ys M) M1
    | _, _ => False)
  | _ => False
section
variable {Y : Cx} {K : PySem.W.Frag} {W : Ent → Prop} {tg a b : Expr} {es : List Expr} {p pos tpos : Pos} {da : DE} {dr : DA} {kk : Nat}
theorem itok_rng {N : Ent} {O H : Hp} {M : Mu} (lo : Int) (n : Nat) : ItOk K N O M H (Itr lo n) ((List.range n).map fun k => .int (lo + (k : Nat))) (fun _ => True) := fun N O1 M1 H1 i _ S1 eo _ => by
  refine ⟨fun h => by
    have h' : n ≤ i := by simpa using h
    exact h', fun x e => ?_⟩
  have hi : i < n := by
    have := (List.getElem?_eq_some_iff.mp e).1
    simpa using this
  have ex : x = .int (lo + i) := by
    rw [List.getElem?_map, List.getElem?_range hi] at e
    exact (Option.some.inj e).symm
  refine ⟨hi, fun v H2 y => ?_⟩
  obtain ⟨rfl, rfl⟩ := y
  exact ⟨O1, Nxt.refl S1, by rw [ex]; simp only [Rp]⟩
theorem pid_range1 (hg : Gl Y "range") (hm : Y.mg "range" = none) (ha : PAD Y W [a] dr) (hs : starEach [a] Y.env = [(false, eval a Y.env)] := by rfl) : PID Y W tg (.Call (.Name "range" p) [a] [] pos) (dirng1 dr) := by
  obtain ⟨t, h1, s1⟩ := ha.ex
  refine ⟨_, pi_range1 hg hm h1 hs, fun N O M δ σ H Q Qd w S L h k => s1 N O M δ σ H _ _ w S L h fun O1 M1 H1 xs vs n1 r1 h => ?_⟩
  match xs, h with
  | [.int j], h =>
    obtain ⟨v, e, q⟩ := rpa1 r1
    simp only [Rp] at q
    subst q
    obtain ⟨h1, h2, h3⟩ := h
    refine ⟨j, e, by omega, by omega, k O1 M1 H1 _ _ _ n1 (itok_rng 0 j.toNat) ?_⟩
    simpa using h3
theorem pid_range2 (hg : Gl Y "range") (hm : Y.mg "range" = none) (ha : PAD Y W [a, b] dr) (hs : starEach [a, b] Y.env = [(false, eval a Y.env), (false, eval b Y.env)] := by rfl) (hs2 : starEach [b] Y.env = [(false, eval b Y.env)] := by rfl) : PID Y W tg (.Call (.Name "range" p) [a, b] [] pos) (dirng2 dr) := by
  obtain ⟨t, h1, s1⟩ := ha.ex
  refine ⟨_, pi_range2 hg hm h1 hs hs2, fun N O M δ σ H Q Qd w S L h k => s1 N O M δ σ H _ _ w S L h fun O1 M1 H1 xs vs n1 r1 h => ?_⟩
  match xs, h with
  | [.int i, .int j], h =>
    obtain ⟨v, v2, e, q, q2⟩ := rpa2 r1
    simp only [Rp] at q q2
    subst q q2
    obtain ⟨⟨h1, h2, h3, h4⟩, h5⟩ := h
    exact ⟨i, j, e, ⟨by omega, by omega, by omega, by omega⟩, k O1 M1 H1 _ _ _ n1 (itok_rng i (j - i).toNat) h5⟩
/-- the list of x at a later state -/
theorem stays_ok {N N1 : Ent} {O O1 H H1 : Hp} {M M1 : Mu} {x : X} {v : V} {xs : List X} (S : Stt K N O M H) (r : Rp K O N.B0 x v) (h : lstOf M x = some xs) (eN : N1.B0 = N.B0) (S1 : Stt K N1 O1 M1 H1) (eo : Ex O O1) (c : stays x xs M1) :
    ∃ a vs, v = .ref a ∧ SqL K H1 a vs ∧ RpA K O1 N1.B0 xs vs := by
  have r1 := r.mono eo (Ex.refl _)
  rw [← eN] at r1
  refine lstOf_ok S1 r1 ?_
  cases x with
  | ptr p => simp only [stays] at c; simp only [lstOf, c]
  | lst b ys => exact h
  | scr ns => exact h
  | _ => simp only [lstOf] at h; cases h
theorem sql_one {O H : Hp} {M : Mu} {N : Ent} {a : Addr} {xs ys : List V} (I : True) : True := trivial
theorem pid_list (ha : PD Y W a da) : PID Y W tg a (dilst da) := by
  obtain ⟨t, h1, s1⟩ := ha.ex
  refine ⟨_, pi_list h1, fun N O M δ σ H Q Qd w S L h k => s1 N O M δ σ H _ _ w S L h fun O1 M1 H1 x v n1 r1 h => ?_⟩
  split at h
  · rename_i xs ex
    obtain ⟨p, vs, e, q, r⟩ := lstOf_ok n1.st r1 ex
    refine ⟨p, e, ⟨vs, q⟩, k O1 M1 H1 _ xs _ n1 (fun N2 O2 M2 H2 i eN S2 eo c => ?_) h⟩
    obtain ⟨p', ws, e', q', r'⟩ := stays_ok n1.st r1 ex eN S2 eo c
    rw [e] at e'
    cases e'
    refine ⟨fun hi => ⟨ws, q', by rw [r'.len]; exact hi⟩, fun y ey => ?_⟩
    obtain ⟨w, ew, rw'⟩ := r'.get ey
    refine ⟨⟨ws, w, q', ew⟩, fun v2 H3 hy => ?_⟩
    obtain ⟨rfl, fy⟩ := hy
    have ev : v2 = w := Option.some.inj ((fy ws q').symm.trans ew)
    subst ev
    exact ⟨O2, Nxt.refl S2, rw'⟩
  · exact h.elim
theorem pid_tup (ha : PD Y W a da) : PID Y W tg a (ditup da) := by
  obtain ⟨t, h1, s1⟩ := ha.ex
  refine ⟨_, pi_tup h1, fun N O M δ σ H Q Qd w S L h k => s1 N O M δ σ H _ _ w S L h fun O1 M1 H1 x v n1 r1 h => ?_⟩
  split at h
  · rename_i xs
    obtain ⟨p, vs, e, q, r⟩ := tup_ok n1.st r1
    refine ⟨p, e, ⟨vs, q⟩, k O1 M1 H1 _ xs _ n1 (fun N2 O2 M2 H2 i eN S2 eo _ => ?_) h⟩
    obtain ⟨p', ws, e', q', r'⟩ := tup_ok S2 (by rw [eN]; exact r1.mono eo (Ex.refl _))
    rw [e] at e'
    cases e'
    refine ⟨fun hi => ⟨ws, q', by rw [r'.len]; exact hi⟩, fun y ey => ?_⟩
    obtain ⟨w, ew, rw'⟩ := r'.get ey
    refine ⟨⟨ws, w, q', ew⟩, fun v2 H3 hy => ?_⟩
    obtain ⟨rfl, fy⟩ := hy
    have ev : v2 = w := Option.some.inj ((fy ws q').symm.trans ew)
    subst ev
    exact ⟨O2, Nxt.refl S2, rw'⟩
  · exact h.elim
theorem enumX_get : ∀ {xs : List X} {n i : Nat} {y : X}, (enumX n xs)[i]? = some y → ∃ x, xs[i]? = some x ∧ y = .tup [.int (n + i : Nat), x]
  | [], _, _, _, h => by simp [enumX] at h
  | x :: xs, n, 0, y, h => by
    simp [enumX] at h
    exact ⟨x, rfl, by rw [← h]; simp⟩
  | x :: xs, n, i + 1, y, h => by
    have h' : (enumX (n + 1) xs)[i]? = some y := by simpa [enumX] using h
    obtain ⟨z, e1, e2⟩ := enumX_get h'
    refine ⟨z, by simpa using e1, ?_⟩
    rw [e2, show n + 1 + i = n + (i + 1) by omega]
theorem enumX_len : ∀ (xs : List X) (n : Nat), (enumX n xs).length = xs.length
  | [], _ => rfl
  | x :: xs, n => by simp [enumX, enumX_len xs]
theorem zipX_get : ∀ {xs ys : List X} {i : Nat} {z : X}, (zipX xs ys)[i]? = some z → ∃ x y, xs[i]? = some x ∧ ys[i]? = some y ∧ z = .tup [x, y]
  | [], _, _, _, h => by simp [zipX] at h
  | _ :: _, [], _, _, h => by simp [zipX] at h
  | x :: xs, y :: ys, 0, z, h => by
    simp [zipX] at h
    exact ⟨x, y, rfl, rfl, h.symm⟩
  | x :: xs, y :: ys, i + 1, z, h => by
    have h' : (zipX xs ys)[i]? = some z := by simpa [zipX] using h
    obtain ⟨a, b, e1, e2, e3⟩ := zipX_get h'
    exact ⟨a, b, by simpa using e1, by simpa using e2, e3⟩
theorem zipX_len : ∀ (xs ys : List X), (zipX xs ys).length = min xs.length ys.length
  | [], _ => by simp [zipX]
  | _ :: _, [] => by simp [zipX]
  | x :: xs, y :: ys => by
    rw [zipX, List.length_cons, zipX_len xs ys, List.length_cons, List.length_cons, Nat.succ_min_succ]
theorem new_pair {N : Ent} {O1 H1 : Hp} {M1 : Mu} {x y : X} {v w : V} {T : Addr} (S : Stt K N O1 M1 H1) (hT : H1 T = none) (rx : Rp K O1 N.B0 x v) (ry : Rp K O1 N.B0 y w) :
    ∃ O2, Nxt K N O1 M1 H1 O2 M1 (upd H1 T (.tup [v, w])) ∧ Rp K O2 N.B0 (.tup [x, y]) (.ref T) := by
  obtain ⟨S', eo, e⟩ := S.own hT (.tup [v, w])
  refine ⟨_, ⟨S', eo⟩, ?_⟩
  simp only [Rp]
  exact ⟨T, _, rfl, .inl (.inl e), RpA.cons (rx.mono eo (Ex.refl _)) (RpA.cons (ry.mono eo (Ex.refl _)) RpA.nil)⟩
theorem pid_enum {elts : List Expr} (hg : Gl Y "enumerate") (hm : Y.mg "enumerate" = none) (ha : PAD Y W [a] dr) (hs : starEach [a] Y.env = [(false, eval a Y.env)] := by rfl) : PID Y W (.Tuple elts kk tpos) (.Call (.Name "enumerate" p) [a] [] pos) (dienum dr) := by
  obtain ⟨t, h1, s1⟩ := ha.ex
  refine ⟨_, pi_enum hg hm h1 hs, fun N O M δ σ H Q Qd w S L h k => s1 N O M δ σ H _ _ w S L h fun O1 M1 H1 xs vs n1 r1 h => ?_⟩
  match xs, h with
  | [x], h =>
    obtain ⟨v, e0, r1⟩ := rpa1 r1
    simp only at h
    split at h
    · rename_i ys ex
      obtain ⟨p', vs', e, q, r⟩ := lstOf_ok n1.st r1 ex
      subst e
      refine ⟨p', vs', e0, q, k O1 M1 H1 _ (enumX 0 ys) _ n1 (fun N2 O2 M2 H2 i eN S2 eo c => ?_) h⟩
      obtain ⟨p2, ws, e', q', r'⟩ := stays_ok n1.st r1 ex eN S2 eo c
      cases e'
      refine ⟨fun hi => ⟨ws, q', by rw [r'.len]; rw [enumX_len] at hi; exact hi⟩, fun y ey => ?_⟩
      obtain ⟨z, ez, rfl⟩ := enumX_get ey
      obtain ⟨w, ew, rw'⟩ := r'.get ez
      refine ⟨⟨ws, w, q', ew⟩, fun v2 H3 hy => ?_⟩
      obtain ⟨T, x2, rfl, nT, rfl, fy⟩ := hy
      have ev : x2 = w := Option.some.inj ((fy ws q').symm.trans ew)
      subst ev
      have r0 : Rp Y.K O2 N2.B0 (.int ((0 + i : Nat) : Int)) (.int (i : Int)) := by simp [Rp]
      exact new_pair S2 nT r0 rw'
    · exact h.elim
theorem pid_zip {elts : List Expr} (hg : Gl Y "zip") (hm : Y.mg "zip" = none) (ha : PAD Y W [a, b] dr)
    (hs : starEach [a, b] Y.env = (false, eval a Y.env) :: starEach [b] Y.env := by rfl) (hpl : (backTo pos (starEach [b] Y.env)).any (·.1) = false := by rfl) : PID Y W (.Tuple elts kk tpos) (.Call (.Name "zip" p) [a, b] [] pos) (dizip dr) := by
  obtain ⟨t, h1, s1⟩ := ha.ex
  refine ⟨_, pi_zip hg hm h1 hs hpl, fun N O M δ σ H Q Qd w S L h k => s1 N O M δ σ H _ _ w S L h fun O1 M1 H1 xs vs n1 r1 h => ?_⟩
  match xs, h with
  | [x, y], h =>
    obtain ⟨v, v', e0, r1, r2⟩ := rpa2 r1
    simp only at h
    split at h
    · rename_i xs ys ex ey
      obtain ⟨p1, vs1, e1, q1, _⟩ := lstOf_ok n1.st r1 ex
      obtain ⟨p2, vs2, e2, q2, _⟩ := lstOf_ok n1.st r2 ey
      subst e1 e2
      refine ⟨p1, p2, vs1, vs2, e0, q1, q2, k O1 M1 H1 _ (zipX xs ys) _ n1 (fun N2 O2 M2 H2 i eN S2 eo c => ?_) h⟩
      obtain ⟨p3, ws, e3, q3, r3⟩ := stays_ok n1.st r1 ex eN S2 eo c.1
      obtain ⟨p4, ws', e4, q4, r4⟩ := stays_ok n1.st r2 ey eN S2 eo c.2
      cases e3
      cases e4
      refine ⟨fun hi => ⟨ws, ws', q3, q4, ?_⟩, fun z ez => ?_⟩
      · rw [r3.len, r4.len]
        rw [zipX_len] at hi
        omega
      · obtain ⟨z1, z2, ez1, ez2, rfl⟩ := zipX_get ez
        obtain ⟨w1, ew1, rw1⟩ := r3.get ez1
        obtain ⟨w2, ew2, rw2⟩ := r4.get ez2
        refine ⟨⟨ws, ws', w1, w2, q3, q4, ew1, ew2⟩, fun v2 H3 hy => ?_⟩
        obtain ⟨T, x2, y2, rfl, nT, rfl, fx, fy⟩ := hy
        have ev : x2 = w1 := Option.some.inj ((fx ws q3).symm.trans ew1)
        have ev2 : y2 = w2 := Option.some.inj ((fy ws' q4).symm.trans ew2)
        subst ev ev2
        exact new_pair S2 nT rw1 rw2
    · exact h.elim
end

/-! ### while -/
def dwhile (c : DT) (b : DS) : DS := fun DD δ M => ∃ Wd : Nat → Dl → Mu → Prop, (∃ m, Wd m δ M) ∧ ∀ m δ M, Wd m δ M → c δ M fun k M1 => match k with
  | true => ∃ Nd : Dl → Mu → Prop, (∀ δ' M', Nd δ' M' → ∃ m', m' < m ∧ Wd m' δ' M') ∧ b { DD with nx := Nd, ct := Nd, bk := DD.nx } δ M1
  | false => DD.nx δ M1
section
variable {Y : Cx} {W : Ent → Prop} {c : Expr} {body : List Stmt} {pos : Pos} {d : DS} {dt : DT}
theorem psd_while (hp : PassesOwn (model Y.prog Y.w) Y.A Y.env Y.xe) (hc : PTD Y W c dt) (hb : PSsD Y W body d) : PSD Y W (.While c body [] pos) (dwhile dt d) := by
  obtain ⟨t1, h1, s1⟩ := hc.ex
  obtain ⟨t2, h2, s2⟩ := hb.ex
  refine ⟨_, ps_while hp h1 h2, fun N D DD w C O M δ σ H S L h => ?_⟩
  obtain ⟨Wd, ⟨m0, w0⟩, turn⟩ := h
  refine ⟨fun m σ' H' => ∃ O' M' δ', Stt Y.K N O' M' H' ∧ Sl Y.K O' N.B0 δ' σ' ∧ Wd m δ' M', ⟨m0, O, M, δ, S, L, w0⟩, ?_⟩
  rintro m σ' H' ⟨O', M', δ', S', L', w'⟩
  refine s1 N O' M' δ' σ' H' _ _ w S' L' (turn m δ' M' w') fun O1 M1 H1 k n1 q => ?_
  cases k with
  | true =>
    obtain ⟨Nd, hN, q⟩ := q
    refine ⟨fun σ2 H2 => ∃ O2 M2 δ2, Stt Y.K N O2 M2 H2 ∧ Sl Y.K O2 N.B0 δ2 σ2 ∧ Nd δ2 M2, ?_, ?_⟩
    · rintro σ2 H2 ⟨O2, M2, δ2, S2, L2, n2⟩
      obtain ⟨m', hm, w2⟩ := hN δ2 M2 n2
      exact ⟨m', hm, O2, M2, δ2, S2, L2, w2⟩
    · refine s2 N { D with nx := fun σ2 H2 => ∃ O2 M2 δ2, Stt Y.K N O2 M2 H2 ∧ Sl Y.K O2 N.B0 δ2 σ2 ∧ Nd δ2 M2, ct := fun σ2 H2 => ∃ O2 M2 δ2, Stt Y.K N O2 M2 H2 ∧ Sl Y.K O2 N.B0 δ2 σ2 ∧ Nd δ2 M2, bk := D.nx } { DD with nx := Nd, ct := Nd, bk := DD.nx } w (Cmp.mk ?_ C.rt C.nx ?_) O1 M1 δ' σ' H1 n1.st (n1.sl L') q
      · exact fun O2 M2 δ2 σ2 H2 S2 L2 q2 => ⟨O2, M2, δ2, S2, L2, q2⟩
      · exact fun O2 M2 δ2 σ2 H2 S2 L2 q2 => ⟨O2, M2, δ2, S2, L2, q2⟩
  | false => exact C.nx O1 M1 δ' σ' H1 n1.st (n1.sl L') q
end
end DL

set_option maxRecDepth 100000
/-! DLz: promises of defs that are called with no repr under way (repr asks what is under way). -/
namespace DL
open PySem PySem.Spec PyProof.Rows L2
/-- room, and no guard on the stack -/
structure RoomG (k : Nat) (A : Around) : Prop extends Room k A where
  gd : A.guards = some []
theorem RoomG.mono {j k : Nat} {A : Around} (r : RoomG k A) (h : j ≤ k) : RoomG j A := ⟨r.toRoom.mono h, r.gd⟩
theorem RoomG.deeper {k : Nat} {A : Around} (r : RoomG (k + 1) A) (env : Env) : RoomG k (A.deeper env) := ⟨r.toRoom.deeper env, r.gd⟩
structure FnOkG (P : Program) (w : World) (K : PySem.W.Frag) (mg : Str → Option Value) (base : Heap) (CX : CXT) (k : Nat) (f : Addr) (fd : FuncData) (ps : List Str) (sp : Sp) : Prop where
  len : ∀ vs H Q E, sp vs H Q E → vs.length = ps.length
  run : ∀ (A : Around) (outer : List Env) (s : Shared) (H : Hp) (args : Args) (us : List Value) (vs : List V) (Q : VK) (E : XK), RoomG k A → Env0 P w K mg base A outer s H → BindsTo s fd args (ps.zip us) → Vals vs us → sp vs H Q E →
    codeAny (model P w) A (.call (.ref f) args) (CR CX outer P w H s Q E) s
section
variable {CX : CXT} {P : Program} {w : World} {K : PySem.W.Frag} {mg : Str → Option Value} {base : Heap} {k : Nat} {f : Addr} {fd : FuncData} {ps : List Str} {sp sp' : Sp}
theorem FnOkG.of (F : FnOk P w K mg base CX k f fd ps sp) : FnOkG P w K mg base CX k f fd ps sp := ⟨F.len, fun A outer s H args us vs Q E hr => F.run A outer s H args us vs Q E hr.toRoom⟩
theorem FnOkG.imp (F : FnOkG P w K mg base CX k f fd ps sp) (h : ∀ vs H Q E, sp' vs H Q E → sp vs H Q E) : FnOkG P w K mg base CX k f fd ps sp' :=
  ⟨fun vs H Q E q => F.len vs H Q E (h _ _ _ _ q), fun A outer s H args us vs Q E hr he hb hv hs => F.run A outer s H args us vs Q E hr he hb hv (h _ _ _ _ hs)⟩
/-- a def by its body, no guard on the stack -/
theorem fn_ofG {name qual : Str} {params : Arguments} {body : List Stmt} {scope : Scope} {dV kV doc pm cdv ct oc : Value} {an od : Option Addr} {osl : Array (Option Value)} {N : List Str}
    (lk : K.lookup f = some ⟨oc, od, .func (PySem.W.fnOf name qual params body scope dV kV doc pm an cdv ct), osl⟩) (hcd : PySem.W.codeIn K cdv qual = true) (S : FnScope N ps scope)
    (len : ∀ vs H Q E, sp vs H Q E → vs.length = ps.length)
    (hbody : ∀ (A : Around) (outer : List Env) (s : Shared) (H : Hp) (vs : List V) (Q : VK) (E : XK), RoomG k (A.deeper (envOfC qual scope s.heap.objs.size f cdv)) → sp vs H Q E →
      ∃ t, PSs (cxOf CX P w K mg base N qual scope f cdv A outer s H E) body t ∧ t { nx := fun _ H' => Q .non H', rt := Q } (start N vs) H) :
    FnOkG P w K mg base CX (k + 1) f (PySem.W.fnOf name qual params body scope dV kV doc pm an cdv ct) ps sp := by
  refine ⟨len, fun A outer s H args us vs Q E hr e0 hb r hsp => ?_⟩
  have keepB : ∀ b o, base.get? b = some o → s.heap.get? b = some o := fun b o e => (e0.bs b o e).1
  have KX : K.In s.heap := e0.mod.kin.keeps keepB
  have hkind : ∀ y ∈ ps.zip us, scope.names.lookup y.1 = some .local ∨ (scope.names.lookup y.1 = some .cell ∧ ((cellsFrom (s.heap.objs.size + 1) scope.names []).lookup y.1).isSome = true) := fun ⟨n, v⟩ hy =>
    (S.par n (List.of_mem_zip hy).1).imp id fun q => ⟨q, PySem.W.cellsFrom_some _ _ _ (.inl q)⟩
  refine codeAny_call_function hr.depth (KX _ _ lk) rfl S.co S.gen rfl (PySem.W.codeRec_of KX hcd) (hb _ _ _ _ (wpAny_newFunctionEnv_cells S.kind hkind fun env he s1 x => ?_))
  subst he
  refine ⟨(e0.mod.nolimit.keeps keepB).keeps x.toInCall.keep, codeAny_func ?_⟩
  obtain ⟨t, ht, hq⟩ := hbody A outer s H vs Q E (hr.deeper _) hsp
  have I : Inv (cxOf CX P w K mg base N qual scope f cdv A outer s H E) [] (start N vs) H s1 := inv_start S hr.hd e0 (len _ _ _ _ hsp) r x
  refine wpAny_mono (ht.run [] s1 (start N vs) H _ I hq) (fun fl s' hs => ?_) fun e s' hs => hs
  match fl, hs with
  | .ret u, ⟨v, σ', H', J, rv, q⟩ => exact (⟨v, H', J.os, J.bare, J.base, J.hok, rv, q⟩ : CE outer P w H s Q u s')
  | .next, ⟨σ', H', J, q⟩ => exact (⟨.non, H', J.os, J.bare, J.base, J.hok, rfl, q⟩ : CE outer P w H s Q .none s')
  | .brk, ⟨_, _, _, q⟩ => exact q.elim
  | .cont, ⟨_, _, _, q⟩ => exact q.elim
theorem okG {x qual : Str} {st : Stmt} {N : List Str} (F : Fun K x qual st f fd) (S : FnScope N ps (defScope st)) (len : ∀ vs H Q E, sp vs H Q E → vs.length = ps.length)
    (hbody : ∀ (cdv : Value) (A : Around) (outer : List Env) (s : Shared) (H : Hp) (vs : List V) (Q : VK) (E : XK), RoomG k (A.deeper (envOfC qual (defScope st) s.heap.objs.size f cdv)) → sp vs H Q E →
      ∃ t, PSs (cxOf CX P w K mg base N qual (defScope st) f cdv A outer s H E) (defBody st) t ∧ t { nx := fun _ H' => Q .non H', rt := Q } (start N vs) H) : FnOkG P w K mg base CX (k + 1) f fd ps sp := by
  obtain ⟨oc, od, kV, doc, pm, an, cdv, ct, osl, rfl, lk, hcd⟩ := F.ex
  exact fn_ofG lk hcd S len fun A outer s H vs Q E hr hsp => hbody cdv A outer s H vs Q E hr hsp
end
section
variable {X : Cx} {CX' : CXT} {k : Nat} {f : Addr} {fd : FuncData} {ps : List Str} {sp : Sp} {E : XK} {x : Str} {e : Expr} {es : List Expr} {p pos : Pos} {t : TA}
theorem run_fnG {pins : List (Addr × Obj)} {σ : L2.St} {H : Hp} {s : Shared} {Q : VK} {us : List Value} {vs : List V} (F : FnOkG X.prog X.w X.K X.mg X.base CX' k f fd ps sp) (hr : RoomG k X.A) (hb : Binds X.K fd ps []) (hx : Passes CX' X E)
    (I : Inv X pins σ H s) (r : Vals vs us) (h : sp vs H Q E) : wpAny (model X.prog X.w) X.A (call (.ref f) us) (EP X pins σ Q) X.xe s := by
  have hl : (us ++ []).length = ps.length := by rw [List.append_nil, ← r.length]; exact F.len _ _ _ _ h
  have hbb := hb s us I.kIn hl
  rw [List.append_nil] at hbb
  refine wpAny_call (codeAny_mono (F.run X.A X.stack s H ⟨us, []⟩ us vs Q E hr I.env0 hbb r h) fun r s' hq => ?_)
  match r, hq with
  | .error e, hq => exact hx pins σ H s e s' I hq
  | .ok (.ret u), hq => exact I.after hq
  | .ok .next, hq => exact hq.elim
  | .ok .brk, hq => exact hq.elim
  | .ok .cont, hq => exact hq.elim
theorem pe_callG (F : FnOkG X.prog X.w X.K X.mg X.base CX' k f fd ps sp) (hr : RoomG k X.A) (hg : Gl X x) (hm : X.mg x = some (.ref f)) (hk : PySem.W.keepIn X.K (.ref f) = true) (hb : Binds X.K fd ps []) (hx : Passes CX' X E)
    (ha : PA X (e :: es) t) (hdb : (x == ("__debug__" : Str)) = false := by decide) (he : starEach (e :: es) X.env = (false, eval e X.env) :: starEach es X.env := by rfl) (hpl : (backTo pos (starEach es X.env)).any (·.1) = false := by rfl) :
    PE X (.Call (.Name x p) (e :: es) [] pos) (tCall sp [] E t) := by
  refine ⟨fun pins s σ H Q I h => wpAny_Call_Name_kw (ld_glob I hg hm ?_ hdb)⟩
  refine PySem.W.callWith_K (h₀ := X.base) I.ok.mod.kin hk (thn (ha.run pos pins s σ H _ I h) fun us s1 ⟨vs, H1, I1, r, q⟩ => ⟨I1.kIn, ?_⟩) he hpl
  have q : sp (vs ++ []) H1 Q E := q
  rw [List.append_nil] at q
  exact run_fnG F hr hb hx I1 r q
end
section
/-- the law's promise, met at its call: no guard on the stack there -/
theorem law_callG {P : Program} {w : World} {K : PySem.W.Frag} {mg mb : Str → Option Value} {CX : CXT} {k : Nat} {fa a : Addr} {fd : FuncData} {x : Str} {sp : Sp} {s₁ : Shared} {vs : List Value} {ns : List Int}
    (KX : K.In s₁.heap) (hns : s₁.heap.Ns mainGlobals mg) (hb : s₁.heap.Ns builtinsNs mb) (hbb : ∀ x : Str, x ≠ "__name__" → mb x = bootBuiltins x) (hlim : s₁.heap.NoLimit) (hg : s₁.gens = #[])
    (ha : s₁.heap.get? a = some { cls := .type "list", data := .seq vs.toArray }) (hi : IntsAre vs ns) (hl : ns.length ≤ sizeLine) (hr : Room k callerA)
    (F : ∀ base : Heap, K.In base → base.Ns mainGlobals mg → FnOkG P w K mg base CX k fa fd [x] sp) (hbind : ∀ (s : Shared) (u : Value), BindsTo s fd ⟨[u], []⟩ [(x, u)])
    (hsp : ∀ H : Hp, Only H → SqL K H a (ns.map V.int) → sp [.ref a] H (fun v _ => v = .bl true) fun _ _ _ => False)
    (hCX : ∀ H e s', CX [] H s₁ (fun _ _ _ => False) e s' → False) :
    codeAny (model P w) callerA (.call (.ref fa) ⟨[.ref a], []⟩) (fun r s' => r = .ok (.ret (.bool true)) ∧ OldK s₁.heap s'.heap ∧ s'.os = s₁.os ∧ AllBare s'.gens) s₁ := by
  have rv := vals_ints hi
  have lenV := hi.length
  have core : ∀ H : Hp, Only H → SqL K H a (ns.map V.int) → HOk P w H s₁.heap → (∀ b, H b ≠ none → b = a) → (H a ≠ none → K.lookup a = none) →
      codeAny (model P w) callerA (.call (.ref fa) ⟨[.ref a], []⟩) (fun r s' => r = .ok (.ret (.bool true)) ∧ OldK s₁.heap s'.heap ∧ s'.os = s₁.os ∧ AllBare s'.gens) s₁ := by
    intro H hO hS hok hA hK
    have isA : ∀ {b : Addr} {u : HO}, H b = some u → b = a := fun {b u} q => hA b (by rw [q]; exact fun z => nomatch z)
    have noA : ∀ {b : Addr} {o : Obj} {es : Array DictEntry} {ep : Nat}, s₁.heap.get? b = some o → o.data = .dict es ep → H b = none := fun {b o es ep} e d => by
      cases q : H b with
      | none => rfl
      | some u =>
        cases isA q
        rw [ha] at e
        cases e
        exact nomatch (show Data.seq vs.toArray _ = Data.dict es ep from d)
    have nsK : ∀ {b : Addr} {m : Str → Option Value}, s₁.heap.Ns b m → (hidT s₁.heap H).Ns b m := fun {b m} ⟨o, es, ep, e, d, r⟩ => ⟨o, es, ep, hidT_get e (noA e d), d, r⟩
    have hKb : K.In (hidT s₁.heap H) := fun b o e => hidT_get (KX b o e) (by
      cases q : H b with
      | none => rfl
      | some u =>
        cases isA q
        rw [hK (by rw [q]; exact fun z => nomatch z)] at e
        cases e)
    have hM : Mod K mg (hidT s₁.heap H) := ⟨hKb, nsK hns, ⟨mb, nsK hb, hbb⟩, hlim.imp fun mc h => ⟨nsK h.1, h.2⟩⟩
    have e0 : Env0 P w K mg (hidT s₁.heap H) callerA [] s₁ H := ⟨rfl, hM, fun b o e => of_hidT e, Nat.le_of_eq (hidT_size _ _), trivial, (fun b hb => absurd (show b ∈ ([] : List Addr) from hb) (by simp)), hok, .of_eq hg⟩
    refine codeAny_mono ((F _ hKb (nsK hns)).run callerA [] s₁ H ⟨[.ref a], []⟩ [.ref a] [.ref a] _ _ ⟨hr, rfl⟩ e0 (hbind s₁ (.ref a)) (.cons rfl .nil) (hsp H hO hS)) fun r s' h => ?_
    match r, h with
    | .error e, h => exact (hCX H e s' h).elim
    | .ok .next, h => exact h.elim
    | .ok .brk, h => exact h.elim
    | .ok .cont, h => exact h.elim
    | .ok (.ret u), ⟨v, H', os, bare, un, hok', r', q⟩ =>
      obtain rfl : v = .bl true := q
      obtain rfl : u = Value.bool true := r'
      refine ⟨rfl, OldK.of_keep fun b o e => ?_, os, bare⟩
      rcases hO b with z | ⟨ob, xs, z⟩
      · exact un.keep b o e z (fun z => absurd (show b ∈ ([] : List Addr) from z) (by simp)) (by simp)
      · have e1 := (hok b _ z).1
        have e2 := (hok' b _ (un.frzs b ob _ z)).1
        rw [e] at e1
        cases e1
        exact e2
  cases hk : K.lookup a with
  | some o =>
    have e := KX a o hk
    rw [ha] at e
    cases e
    exact core (fun _ => none) (fun _ => .inl rfl) (.inr ⟨_, vs.toArray, _, hk, rfl, rfl, rfl, by rw [List.size_toArray, lenV]; exact hl, by simpa using rv⟩) (fun b u z => nomatch (show (none : Option HO) = some u from z)) (fun b z => absurd rfl z) fun z => absurd rfl z
  | none =>
    have at_ : ∀ {b : Addr} {u : HO}, (if b = a then some (HO.frz { cls := .type "list", data := .seq vs.toArray } (.lst (ns.map V.int))) else none) = some u → b = a ∧ u = HO.frz { cls := .type "list", data := .seq vs.toArray } (.lst (ns.map V.int)) := fun {b u} z => by
      by_cases hb : b = a
      · rw [if_pos hb] at z
        exact ⟨hb, (Option.some.inj z).symm⟩
      · rw [if_neg hb] at z
        cases z
    refine core (fun b => if b = a then some (.frz { cls := .type "list", data := .seq vs.toArray } (.lst (ns.map V.int))) else none) (fun b => ?_) (.inl (.inr ⟨{ cls := .type "list", data := .seq vs.toArray }, if_pos rfl⟩)) (fun b u z => ?_) (fun b z => ?_) fun _ => hk
    · by_cases hb : b = a
      · exact .inr ⟨_, _, if_pos hb⟩
      · exact .inl (if_neg hb)
    · obtain ⟨hb, hu⟩ := at_ z
      subst hb hu
      exact ⟨ha, by rw [List.length_map]; exact hl, vs, _, rv, ha⟩
    · by_cases hb : b = a
      · exact hb
      · exact absurd (if_neg hb) z
/-- a law: F gives the written part, the function object, the promise over every base -/
theorem walk_ofG {l : PySem.W.OpenLaw} {n k : Nat} {q : Program} {loose : List Str} {XP : (Str → Option Value) → Heap → Prop} {YP : World → Heap → Prop} {d : DefRec} {CX : World → CXT} {x : Str}
    (hn : l.most = some n) (hn2 : n ≤ sizeLine) (hdf : d.params.defaults = []) (hr : Room k callerA)
    (F : ∀ (w : World) (mg : Str → Option Value) (fa : Addr) (h : Heap), YP w h → h.Ns mainGlobals mg → mg d.name = some (.ref fa) →
      ∃ (K : PySem.W.Frag) (fd : FuncData) (sp : Sp), K.In h ∧ (∀ (s : Shared) (u : Value), BindsTo s fd ⟨[u], []⟩ [(x, u)]) ∧
        (∀ (H : Hp) (a : Addr) (ns : List Int), ns.length ≤ n → Only H → SqL K H a (ns.map V.int) → sp [.ref a] H (fun v _ => v = .bl true) fun _ _ _ => False) ∧
        ∀ base : Heap, K.In base → base.Ns mainGlobals mg → FnOkG l.prog w K mg base (CX w) k fa fd [x] sp)
    (hCX : ∀ (w : World) (H : Hp) (s : Shared) (e : Value) (s' : Shared), CX w [] H s (fun _ _ _ => False) e s' → False) :
    PySem.W.WalkO q loose XP YP l.row.toRowW d [] (fun f vs => PySem.call f vs) := by
  refine Att.attach_call hn hdf fun w s₀ s₁ mg mb fa o pm cd doc a vs ns G Y ho hd hcd hmg hobj hints hlen hg => ?_
  obtain ⟨K, fd, sp, KX, hb, hsp, hF⟩ := F w mg fa _ Y G.T.g hmg
  exact law_callG KX G.T.g G.T.b G.T.builtins G.T.nolimit hg hobj hints (Nat.le_trans hlen hn2) hr hF hb (fun H hO hS => hsp H a ns hlen hO hS) fun H e s' => hCX w H s₁ e s'
end
end DL

set_option maxRecDepth 100000
/-! DLd: what is owned; defs and their calls; freezing; comprehensions. -/
namespace DL
open PySem PySem.Spec PyProof.Rows L2

mutual
def own : X → Bool
  | .lst b xs => b && ownA xs
  | .tup xs => ownA xs
  | .obj b _ _ xs => b && ownA xs
  | .exn _ _ xs => ownA xs
  | .scr _ => false
  | .non => true | .bl _ => true | .int _ => true | .str _ => true | .ptr _ => true | .ref _ => true
def ownA : List X → Bool
  | [] => true
  | x :: xs => own x && ownA xs
end
section
variable {K : PySem.W.Frag} {O B B' : Hp}
mutual
theorem Rp.own : ∀ (x : X) {v : V}, DL.own x = true → Rp K O B x v → Rp K O B' x v
  | .non, _, _, h => by simpa only [Rp] using h
  | .bl b, _, _, h => by simpa only [Rp] using h
  | .int i, _, _, h => by simpa only [Rp] using h
  | .str s, _, _, h => by simpa only [Rp] using h
  | .ptr a, _, _, h => by simpa only [Rp] using h
  | .ref a, _, _, h => by simpa only [Rp] using h
  | .scr ns, _, o, h => by simp only [DL.own] at o; cases o
  | .lst b xs, _, o, h => by
    simp only [DL.own, Bool.and_eq_true] at o
    obtain ⟨rfl, o⟩ := o
    simp only [Rp] at h ⊢
    obtain ⟨a, vs, e, q, r⟩ := h
    exact ⟨a, vs, e, q, RpA.own xs o r⟩
  | .tup xs, _, o, h => by
    simp only [DL.own] at o
    simp only [Rp] at h ⊢
    obtain ⟨a, vs, e, q, r⟩ := h
    exact ⟨a, vs, e, q, RpA.own xs o r⟩
  | .obj b C ns xs, _, o, h => by
    simp only [DL.own, Bool.and_eq_true] at o
    obtain ⟨rfl, o⟩ := o
    simp only [Rp] at h ⊢
    obtain ⟨a, dx, vs, e, q1, q2, q3, r⟩ := h
    exact ⟨a, dx, vs, e, q1, q2, q3, RpA.own xs o r⟩
  | .exn C ns xs, _, o, h => by
    simp only [DL.own] at o
    simp only [Rp] at h ⊢
    obtain ⟨a, vs, e, q1, q3, r⟩ := h
    exact ⟨a, vs, e, q1, q3, RpA.own xs o r⟩
theorem RpA.own : ∀ (xs : List X) {vs : List V}, ownA xs = true → RpA K O B xs vs → RpA K O B' xs vs
  | [], _, _, h => by simpa only [RpA] using h
  | x :: xs, _, o, h => by
    simp only [ownA, Bool.and_eq_true] at o
    simp only [RpA] at h ⊢
    obtain ⟨v, r, e, q, t⟩ := h
    exact ⟨v, r, e, Rp.own x o.1 q, RpA.own xs o.2 t⟩
end
end
@[simp] theorem ownA_map {α : Type} (f : α → X) (h : ∀ a, own (f a) = true) : ∀ xs : List α, ownA (xs.map f) = true
  | [] => rfl
  | x :: xs => by simp only [List.map_cons, ownA, h, ownA_map f h xs, Bool.and_self]
theorem ownA_of : ∀ {xs : List X}, (∀ x ∈ xs, own x = true) → ownA xs = true
  | [], _ => rfl
  | x :: xs, h => by simp only [ownA, h x List.mem_cons_self, ownA_of fun y hy => h y (List.mem_cons_of_mem _ hy), Bool.and_self]
theorem of_ownA : ∀ {xs : List X}, ownA xs = true → ∀ x ∈ xs, own x = true
  | [], _, _, h => nomatch h
  | x :: xs, h, y, hy => by
    simp only [ownA, Bool.and_eq_true] at h
    rcases List.mem_cons.mp hy with rfl | hy
    · exact h.1
    · exact of_ownA h.2 y hy
def ownC : Cell → Bool
  | .lst xs => ownA xs
  | .dK kvs => ownA (kvs.map (·.2))
  | .dT kvs => ownA (kvs.map (·.2))
  | .ins _ _ xs => ownA xs
theorem RpC.own {K : PySem.W.Frag} {O B B' H : Hp} {a : Addr} : ∀ {c : Cell}, ownC c = true → RpC K O B H a c → RpC K O B' H a c
  | .lst xs, o, ⟨vs, e, r⟩ => ⟨vs, e, RpA.own xs o r⟩
  | .dK kvs, o, ⟨vs, e, l, r⟩ => ⟨vs, e, l, RpA.own _ o r⟩
  | .dT kvs, o, ⟨vs, e, l, r⟩ => ⟨vs, e, l, RpA.own _ o r⟩
  | .ins C ns xs, o, ⟨dx, vs, e, e2, l, r⟩ => ⟨dx, vs, e, e2, l, RpA.own xs o r⟩

/-! ### a def's meaning -/
abbrev ErrK := Addr → List Str → List X → Mu → Prop
abbrev FD := List X → Mu → VKd → ErrK → Prop
def entN (O : Hp) (M : Mu) (H : Hp) : Ent := ⟨H, O, fz H M, fz H M, fun a => M a ≠ none⟩
def ErrRep (K : PySem.W.Frag) (O B H : Hp) (d : Option Addr) (ns : List Str) (xs : List X) : Prop := match ns with
  | [] => xs = []
  | _ => ∃ a vs, d = some a ∧ H a = some (.xd (ns.zip vs)) ∧ ns.length = vs.length ∧ RpA K O B xs vs
def ownM (M : Mu) : Prop := ∀ a c, M a = some c → ownC c = true
/-- what is wanted of a def's error -/
def WE (K : PySem.W.Frag) (E : XK) (Er : ErrK) (N : Ent) : Prop := ∀ O M H C d ns ys, Stt K N O M H → ErrRep K O N.B0 H d ns ys → Er C ns ys M → E (.ref C) d H
def W0 (_ : Ent) : Prop := True
theorem anti0 {K : PySem.W.Frag} : Anti K W0 := fun _ _ _ _ _ => trivial
theorem antiE {K : PySem.W.Frag} {E : XK} {Er : ErrK} : Anti K (WE K E Er) := fun _ _ hb h w O M H C d ns ys S r => w O M H C d ns ys (h O M H S) (by rw [← hb]; exact r)
def spG (K : PySem.W.Frag) (fd : FD) : Sp := fun vs H Q E => ∃ (O : Hp) (Mc : Mu) (xs : List X) (Qd : VKd) (Ed : ErrK), Stt K (entN O Mc H) O Mc H ∧ RpA K O (fz H Mc) xs vs ∧ fd xs Mc Qd Ed ∧
  (∀ O' M' H' y v, Stt K (entN O Mc H) O' M' H' → Rp K O' (fz H Mc) y v → own y = true → ownM M' → Qd y M' → Q v H') ∧
  (∀ O' M' H' C d ns ys, Stt K (entN O Mc H) O' M' H' → ErrRep K O' (fz H Mc) H' d ns ys → ownA ys = true → ownM M' → Ed C ns ys M' → E (.ref C) d H')
def startD (N : List Str) (xs : List X) : Dl := xs.map some ++ List.replicate (N.length - xs.length) none
def Sub (M' M : Mu) : Prop := ∀ a c, M' a = some c → M a = some c
/-- a def's end: what is not told is mutable no more -/
def rtK (Qd : VKd) : VKd := fun y M' => ∃ M2, Sub M2 M' ∧ own y = true ∧ ownM M2 ∧ Qd y M2
def erK (Ed : ErrK) : ErrK := fun C ns ys M' => ∃ M2, Sub M2 M' ∧ ownA ys = true ∧ ownM M2 ∧ Ed C ns ys M2
def endD (Qd : VKd) : EndsD := { nx := fun _ M' => rtK Qd .non M', rt := rtK Qd }
section
variable {K : PySem.W.Frag} {N : Ent} {O H : Hp} {M M2 : Mu}
theorem Stt.drop (S : Stt K N O M H) (sub : Sub M2 M) : Stt K N O M2 H := by
  have eb : Ex (fz H M) (fz H M2) := fun a u q => by
    obtain ⟨q1, q2⟩ := of_fz q
    rw [fz_of]
    · exact q1
    · cases e : M2 a with
      | none => rfl
      | some c => rw [sub a c e] at q2; cases q2
  exact ⟨S.oh, fun a c q => S.om a c (sub a c q), S.tp, fun a c q => S.cl a c (sub a c q), S.b0.trans eb, S.c0.trans eb, S.o0, S.nw, S.dm, fun a c q => S.mf a c (sub a c q)⟩
theorem sl_start {B : Hp} : ∀ {xs : List X} {vs : List V} (n : Nat), RpA K O B xs vs → Sl K O B (xs.map some ++ List.replicate n none) (vs.map some ++ List.replicate n none)
  | [], _, n, r => by
    simp only [RpA] at r
    subst r
    show Sl K O B (List.replicate n none) (List.replicate n none)
    induction n with
    | zero => exact rfl
    | succ n ih =>
      simp only [List.replicate_succ, Sl]
      exact ⟨none, _, rfl, ih⟩
  | x :: xs, _, n, r => by
    simp only [RpA] at r
    obtain ⟨v, t, e, q, u⟩ := r
    subst e
    simp only [List.map_cons, List.cons_append, Sl]
    exact ⟨v, _, rfl, q, sl_start n u⟩
end
section
variable {P : Program} {w : World} {K : PySem.W.Frag} {mg : Str → Option Value} {base : Heap}
/-- THE RULE for a def from which no error goes out -/
theorem fnD {x qual : Str} {st : Stmt} {f : Addr} {fdt : FuncData} {N ps : List Str} {k : Nat} {fd : FD} (F : Fun K x qual st f fdt) (S : FnScope N ps (defScope st))
    (len : ∀ xs M Q E, fd xs M Q E → xs.length = ps.length)
    (body : ∀ (cdv : Value) (A : Around) (outer : List Env) (s : Shared) (H : Hp) (E : XK), RoomG k (A.deeper (envOfC qual (defScope st) s.heap.objs.size f cdv)) →
      ∃ d, PSsD (cxOf CX0 P w K mg base N qual (defScope st) f cdv A outer s H E).nox W0 (defBody st) d ∧ ∀ xs M Qd Ed, fd xs M Qd Ed → d (endD Qd) (startD N xs) M) : FnOkG P w K mg base CX0 (k + 1) f fdt ps (spG K fd) := by
  refine okG F S (fun vs H Q E h => ?_) (fun cdv A outer s H vs Q E hr h => ?_)
  · obtain ⟨O, Mc, xs, Qd, Ed, S0, r, hf, _⟩ := h
    rw [r.len]; exact len _ _ _ _ hf
  · obtain ⟨O, Mc, xs, Qd, Ed, S0, r, hf, hq, he⟩ := h
    obtain ⟨d, hd, rd⟩ := body cdv A outer s H E hr
    obtain ⟨t, ht, hs⟩ := hd.ex
    refine ⟨t, PSs.nox ht, hs (entN O Mc H) _ (endD Qd) trivial ?_ O Mc (startD N xs) _ H S0 ?_ (rd xs Mc Qd Ed hf)⟩
    · have fin : ∀ O' M' H' y v, Stt K (entN O Mc H) O' M' H' → Rp K O' (fz H Mc) y v → rtK Qd y M' → Q v H' := fun O' M' H' y v S' r' q => by
        obtain ⟨M2, sub, oy, om, q⟩ := q
        exact hq O' M2 H' y v (S'.drop sub) r' oy om q
      exact ⟨fun O' M' δ σ H' S' _ q => fin O' M' H' .non .non S' (by simp only [Rp]) q, fin, fun _ _ _ _ _ _ _ z => z.elim, fun _ _ _ _ _ _ _ z => z.elim⟩
    · unfold startD L2.start
      rw [r.len]
      exact sl_start _ r
/-- .. that may raise -/
theorem fnDX {x qual : Str} {st : Stmt} {f : Addr} {fdt : FuncData} {N ps : List Str} {k : Nat} {fd : FD} (F : Fun K x qual st f fdt) (S : FnScope N ps (defScope st))
    (len : ∀ xs M Q E, fd xs M Q E → xs.length = ps.length)
    (body : ∀ (cdv : Value) (A : Around) (outer : List Env) (s : Shared) (H : Hp) (E : XK) (Ed : ErrK), RoomG k (A.deeper (envOfC qual (defScope st) s.heap.objs.size f cdv)) →
      ∃ d, PSsD (cxOf (L2.CX P w) P w K mg base N qual (defScope st) f cdv A outer s H E) (WE K E (erK Ed)) (defBody st) d ∧ ∀ xs M Qd, fd xs M Qd Ed → d (endD Qd) (startD N xs) M) : FnOkG P w K mg base (L2.CX P w) (k + 1) f fdt ps (spG K fd) := by
  refine okG F S (fun vs H Q E h => ?_) (fun cdv A outer s H vs Q E hr h => ?_)
  · obtain ⟨O, Mc, xs, Qd, Ed, S0, r, hf, _⟩ := h
    rw [r.len]; exact len _ _ _ _ hf
  · obtain ⟨O, Mc, xs, Qd, Ed, S0, r, hf, hq, he⟩ := h
    obtain ⟨d, hd, rd⟩ := body cdv A outer s H E Ed hr
    obtain ⟨t, ht, hs⟩ := hd.ex
    refine ⟨t, ht, hs (entN O Mc H) _ (endD Qd) ?_ ?_ O Mc (startD N xs) _ H S0 ?_ (rd xs Mc Qd hf)⟩
    · intro O' M' H' C d ns ys S' r' q
      obtain ⟨M2, sub, oy, om, q⟩ := q
      exact he O' M2 H' C d ns ys (S'.drop sub) r' oy om q
    · have fin : ∀ O' M' H' y v, Stt K (entN O Mc H) O' M' H' → Rp K O' (fz H Mc) y v → rtK Qd y M' → Q v H' := fun O' M' H' y v S' r' q => by
        obtain ⟨M2, sub, oy, om, q⟩ := q
        exact hq O' M2 H' y v (S'.drop sub) r' oy om q
      exact ⟨fun O' M' δ σ H' S' _ q => fin O' M' H' .non .non S' (by simp only [Rp]) q, fin, fun _ _ _ _ _ _ _ z => z.elim, fun _ _ _ _ _ _ _ z => z.elim⟩
    · unfold startD L2.start
      rw [r.len]
      exact sl_start _ r
end

/-! ### calls -/
/-- the caller's mutable lists, seen by a callee that gets Mc alone -/
def vw (Mc M : Mu) : Nat → X → X
  | n + 1, .ptr p => match Mc p with
    | some _ => .ptr p
    | none => match M p with
      | some (.lst zs) => .lst false (zs.map (vw Mc M n))
      | some (.ins C ns zs) => .obj false C ns (zs.map (vw Mc M n))
      | _ => .ptr p
  | _, x => x
/-- what a call leaves of the caller's mutable objects -/
def mun (M Mc M' : Mu) : Mu := fun a => match M' a with
  | some c => some c
  | none => match Mc a with
    | some _ => none
    | none => M a
theorem mun_m0 {M : Mu} : mun M m0 m0 = M := by funext a; rfl
theorem mun_new {M : Mu} {p : Addr} {c : Cell} : mun M m0 (mset m0 p c) = mset M p c := by
  funext a
  simp only [mun, mset, m0]
  split
  · rename_i h
    split at h
    · rename_i e
      rw [if_pos e]; exact h.symm
    · cases h
  · rename_i h
    split at h
    · cases h
    · rename_i e
      rw [if_neg e]
def one (M : Mu) (p : Addr) : Mu := fun a => if a = p then M p else none
theorem one_sub {M : Mu} {p : Addr} : Sub (one M p) M := fun a c h => by
  unfold one at h
  split at h
  · rename_i e; rw [e]; exact h
  · cases h
theorem one_same {M : Mu} {p : Addr} : one M p p = M p := by simp [one]
theorem mun_one {M : Mu} {p : Addr} {c : Cell} : mun M (one M p) (mset (one M p) p c) = mset M p c := by
  funext a
  by_cases e : a = p
  · subst e; simp [mun, mset]
  · simp [mun, mset, one, e]
section
variable {K : PySem.W.Frag} {N : Ent} {O O' H H' : Hp} {M Mc Mc' : Mu}
theorem fz_to (sub : Sub Mc M) (S : Stt K N O M H) : Ex N.B0 (fz H Mc) := fun a u q => by
  replace q := S.b0 a u q
  obtain ⟨q1, q2⟩ := of_fz q
  rw [fz_of]
  · exact q1
  · cases e : Mc a with
    | none => rfl
    | some c => rw [sub a c e] at q2; cases q2
theorem vw_ok (S : Stt K N O M H) (sub : Sub Mc M) : ∀ (n : Nat) {x : X} {v : V}, Rp K O N.B0 x v → Rp K O (fz H Mc) (vw Mc M n x) v := by
  intro n
  induction n with
  | zero =>
    intro x v r
    have e : vw Mc M 0 x = x := by cases x <;> rfl
    rw [e]
    exact r.mono (Ex.refl _) (fz_to sub S)
  | succ n ih =>
    intro x v r
    have all : ∀ {zs : List X} {vs : List V}, RpA K O N.B0 zs vs → RpA K O (fz H Mc) (zs.map (vw Mc M n)) vs := by
      intro zs
      induction zs with
      | nil => intro vs r; simp only [RpA] at r; subst r; exact RpA.nil
      | cons z zs ihz =>
        intro vs r
        simp only [RpA] at r
        obtain ⟨v, t, e, q, u⟩ := r
        subst e
        exact RpA.cons (ih q) (ihz u)
    cases x with
    | ptr p =>
      have rv : v = .ref p := by simpa only [Rp] using r
      unfold vw
      split
      · simp only [Rp]; exact rv
      · rename_i hc
        split
        · rename_i zs e
          obtain ⟨vs, hp, rr⟩ := S.cl p _ e
          simp only [Rp]
          refine ⟨p, vs, rv, ?_, all rr⟩
          show fz H Mc p = _
          rw [fz_of hc, hp]
        · rename_i C ns zs e
          obtain ⟨dx, vs, hp, hd, hl, rr⟩ := S.cl p _ e
          simp only [Rp]
          refine ⟨p, dx, vs, rv, ?_, ?_, hl, all rr⟩
          · show fz H Mc p = _
            rw [fz_of hc, hp]
          · show fz H Mc dx = _
            rw [fz_of, hd]
            cases ed : Mc dx with
            | none => rfl
            | some cc =>
              obtain ⟨o, q, mu⟩ := (S.cl dx cc (sub dx cc ed)).there
              rw [hd] at q; cases q; exact mu.elim
        · simp only [Rp]; exact rv
    | _ => exact r.mono (Ex.refl _) (fz_to sub S)
theorem vwA_ok (S : Stt K N O M H) (sub : Sub Mc M) (n : Nat) : ∀ {zs : List X} {vs : List V}, RpA K O N.B0 zs vs → RpA K O (fz H Mc) (zs.map (vw Mc M n)) vs
  | [], _, r => by simp only [RpA] at r; subst r; exact RpA.nil
  | z :: zs, _, r => by
    simp only [RpA] at r
    obtain ⟨v, t, e, q, u⟩ := r
    subst e
    exact RpA.cons (vw_ok S sub n q) (vwA_ok S sub n u)
/-- the entry of a callee -/
theorem Stt.enter (S : Stt K N O M H) (sub : Sub Mc M) : Stt K (entN O Mc H) O Mc H :=
  ⟨S.oh, fun a c q => S.om a c (sub a c q), S.tp, fun a c q => (S.cl a c (sub a c q)).mono (Ex.refl _) (fz_to sub S) fun _ _ _ z => z, Ex.refl _, Ex.refl _, Ex.refl _, fun _ _ q => .inl q, fun _ q => q, fun a c q => .inr (show Mc a ≠ none by rw [q]; exact fun z => nomatch z)⟩
/-- behind a call -/
theorem Stt.back (S : Stt K N O M H) (sub : Sub Mc M) (S' : Stt K (entN O Mc H) O' Mc' H') (ow : ownM Mc') : Nxt K N O M H O' (mun M Mc Mc') H' := by
  have cases' : ∀ {a : Addr} {c : Cell}, mun M Mc Mc' a = some c → Mc' a = some c ∨ (Mc' a = none ∧ Mc a = none ∧ M a = some c) := fun {a c} h => by
    unfold mun at h
    split at h
    · rename_i c' e; cases h; exact .inl e
    · rename_i e
      split at h
      · cases h
      · rename_i e2; exact .inr ⟨e, e2, h⟩
  have eb : Ex (fz H M) (fz H' (mun M Mc Mc')) := fun a u q => by
    obtain ⟨q1, q2⟩ := of_fz q
    have hm : Mc a = none := by
      cases e : Mc a with
      | none => rfl
      | some c => rw [sub a c e] at q2; cases q2
    have q3 : fz H' Mc' a = some u := S'.b0 a u (show fz H Mc a = some u by rw [fz_of hm]; exact q1)
    obtain ⟨q4, q5⟩ := of_fz q3
    rw [fz_of (by unfold mun; rw [q5, hm]; exact q2)]
    exact q4
  have fwd : ∀ {b : Addr} {o : HO}, Mc b = none → H b = some o → H' b = some o := fun {b o} hm hb => (of_fz (S'.b0 b o (show fz H Mc b = some o by rw [fz_of hm]; exact hb))).1
  have own_no : ∀ {b a : Addr}, H b = some (.own a) → Mc b = none := fun {b a} hb => by
    cases e : Mc b with
    | none => rfl
    | some c =>
      obtain ⟨o, q, mu⟩ := (S.cl b c (sub b c e)).there
      rw [hb] at q; cases q; exact mu.elim
  refine ⟨⟨S'.oh, fun a c q => ?_, S'.tp, fun a c q => ?_, S.b0.trans eb, S.c0.trans eb, S.o0.trans S'.o0, fun a o q => ?_, fun a q => S.dm a (S'.dm a q), fun a c q => ?_⟩, S'.o0⟩
  · rcases cases' q with q | ⟨q1, q2, q3⟩
    · exact S'.om a c q
    · cases e : O' a with
      | none => rfl
      | some o =>
        rcases S'.nw a o e with z | z | z
        · have z' : O a = some o := z
          rw [S.om a c q3] at z'; cases z'
        · obtain ⟨o', z', _⟩ := (S.cl a c q3).there
          rw [show H a = none from z] at z'; cases z'
        · exact absurd q2 z
  · rcases cases' q with q | ⟨q1, q2, q3⟩
    · exact (S'.cl a c q).own (ow a c q)
    · refine (S.cl a c q3).mono S'.o0 (Ex.refl _) fun b o hb z => ?_
      rcases hb with rfl | hb
      · exact fwd q2 z
      · exact fwd (own_no hb) z
  · rcases S'.nw a o q with z | z | z
    · exact S.nw a o z
    · exact .inr (.inl (S.dm a z))
    · have z' : Mc a ≠ none := z
      cases e : Mc a with
      | none => exact absurd e z'
      | some c => exact .inr (S.mf a c (sub a c e))
  · rcases cases' q with q | ⟨q1, q2, q3⟩
    · rcases S'.mf a c q with z | z
      · exact .inl (S.dm a z)
      · have z' : Mc a ≠ none := z
        cases e : Mc a with
        | none => exact absurd e z'
        | some c => exact S.mf a c (sub a c e)
    · exact S.mf a c q3
end
abbrev SelM := List X → Mu → Mu
def dcall (n : Nat) (se : SelM) (fd : FD) (Er : ErrK) (a : DA) : DE := fun δ M Q => a δ M fun xs M1 => fd (xs.map (vw (se xs M1) M1 n)) (se xs M1)
  (fun y M' => (∀ p, se xs M1 p = none → M' p ≠ none → M1 p = none) → Q y (mun M1 (se xs M1) M'))
  (fun C ns ys M' => (∀ p, se xs M1 p = none → M' p ≠ none → M1 p = none) → Er C ns ys (mun M1 (se xs M1) M'))
section
variable {Y : Cx} {W : Ent → Prop} {K : PySem.W.Frag} {k : Nat} {f : Addr} {fdt : FuncData} {ps : List Str} {CX' : CXT} {fd : FD} {Er : ErrK} {E : XK} {x : Str} {p pos : Pos} {e : Expr} {es : List Expr} {dr : DA}
theorem snd_call {t : TA} {n : Nat} {se : SelM} (hse : ∀ xs M, Sub (se xs M) M) (hW : ∀ N, W N → WE K E Er N) (s1 : SndA K W t dr) : SndE K W (tCall (spG K fd) [] E t) (dcall n se fd Er dr) := fun N O M δ σ H Q Qd w S L h k =>
  s1 N O M δ σ H _ _ w S L h fun O1 M1 H1 xs vs n1 r1 h => by
    have S1 := n1.st
    have fresh : ∀ {O' : Hp} {M' : Mu} {H' : Hp}, Stt K (entN O1 (se xs M1) H1) O' M' H' → ∀ p, se xs M1 p = none → M' p ≠ none → M1 p = none := fun {O' M' H'} S' p hp hm => by
      cases e : M' p with
      | none => exact absurd e hm
      | some c =>
        rcases S'.mf p c e with z | z
        · exact S1.mnone z
        · exact absurd hp z
    refine ⟨O1, se xs M1, _, _, _, S1.enter (hse xs M1), by rw [List.append_nil]; exact vwA_ok S1 (hse xs M1) n r1, h, ?_, ?_⟩
    · intro O' M' H' y v S' r' oy om q
      have n2 := S1.back (hse xs M1) S' om
      exact k O' _ H' y v (n1.trans n2) (r'.own y oy) (q (fresh S'))
    · intro O' M' H' C d ns ys S' r' oy om q
      have n2 := S1.back (hse xs M1) S' om
      refine hW N w O' _ H' C d ns ys n2.st ?_ (q (fresh S'))
      unfold ErrRep at r' ⊢
      split at r'
      · exact r'
      · obtain ⟨a, vs', e1, e2, e3, r'⟩ := r'
        exact ⟨a, vs', e1, e2, e3, r'.own ys oy⟩
theorem pd_call {n : Nat} {se : SelM} (hse : ∀ xs M, Sub (se xs M) M) (hW : ∀ N, W N → WE Y.K E Er N) (F : FnOkG Y.prog Y.w Y.K Y.mg Y.base CX' k f fdt ps (spG Y.K fd)) (hr : RoomG k Y.A) (hg : Gl Y x) (hm : Y.mg x = some (.ref f)) (hk : PySem.W.keepIn Y.K (.ref f) = true) (hb : Binds Y.K fdt ps []) (hx : Passes CX' Y E)
    (ha : PAD Y W (e :: es) dr) (hdb : (x == ("__debug__" : Str)) = false := by decide) (he : starEach (e :: es) Y.env = (false, eval e Y.env) :: starEach es Y.env := by rfl) (hpl : (backTo pos (starEach es Y.env)).any (·.1) = false := by rfl) :
    PD Y W (.Call (.Name x p) (e :: es) [] pos) (dcall n se fd Er dr) := by
  obtain ⟨t, h1, s1⟩ := ha.ex
  exact ⟨_, pe_callG F hr hg hm hk hb hx h1 hdb he hpl, snd_call hse hW s1⟩
end

/-! ### kinds of defs -/
abbrev PF := List X → (X → Prop) → (Addr → List Str → List X → Prop) → Prop
abbrev NF := List X → (List X → Prop) → (Addr → List Str → List X → Prop) → Prop
/-- a pure def -/
def PFd (f : PF) : FD := fun xs M Q E => M = m0 ∧ f xs (fun y => Q y M) fun C ns ys => E C ns ys M
/-- .. that makes a list, mutable for its caller -/
def NFd (f : NF) : FD := fun xs M Q E => M = m0 ∧ f xs (fun zs => ∀ p, M p = none → Q (.ptr p) (mset M p (.lst zs))) fun C ns ys => E C ns ys M
def MonoN (f : NF) : Prop := ∀ xs P P' E, (∀ zs, P zs → P' zs) → f xs P E → f xs P' E
def selP : SelM := fun _ _ => m0
theorem selP_sub : ∀ xs M, Sub (selP xs M) M := fun _ _ _ _ h => nomatch h
/-- a state: a list of a list of ints and a place -/
def stC (nums : List Int) (k : Int) : Cell := .lst [.lst true (nums.map .int), .int k]
abbrev SF := List Int → Int → List X → (X → Int → Prop) → Prop
def SFd (f : SF) : FD := fun xs M Q _ => ∃ st nums k r, xs = .ptr st :: r ∧ (∀ a, a ≠ st → M a = none) ∧ M st = some (stC nums k) ∧ f nums k r fun y k' => Q y (mset M st (stC nums k'))
def selS : SelM := fun xs M => match xs with
  | .ptr p :: _ => one M p
  | _ => m0
theorem selS_sub : ∀ xs M, Sub (selS xs M) M := fun xs M => by
  unfold selS
  split
  · exact one_sub
  · exact fun _ _ h => nomatch h
def dcallP (n : Nat) (f : PF) (Er : ErrK) (a : DA) : DE := fun δ M Q => a δ M fun xs M1 => f (xs.map (vw m0 M1 n)) (fun y => Q y M1) fun C ns ys => Er C ns ys M1
def dcallN (n : Nat) (m : Bool) (f : NF) (Er : ErrK) (a : DA) : DE := fun δ M Q => a δ M fun xs M1 => f (xs.map (vw m0 M1 n)) (fun zs => newl m zs M1 Q) fun C ns ys => Er C ns ys M1
/-- a list made, owned from here on -/
def fzK (x : X) (M : Mu) (Q : VKd) : Prop := match x with
  | .ptr p => (match M p with
    | some (.lst zs) => Q (.lst true zs) (mdel M p)
    | _ => False)
  | x => Q x M
def dfz (d : DE) : DE := fun δ M Q => d δ M fun x M1 => fzK x M1 Q
section
variable {Y : Cx} {W : Ent → Prop} {K : PySem.W.Frag} {k : Nat} {f : Addr} {fdt : FuncData} {ps : List Str} {CX' : CXT} {Er : ErrK} {E : XK} {x : Str} {p pos : Pos} {e : Expr} {es : List Expr} {dr : DA} {d : DE}
theorem SndE.imp {t : TE} {d' : DE} (h : SndE K W t d) (hd : ∀ δ M Q, d' δ M Q → d δ M Q) : SndE K W t d' := fun N O M δ σ H Q Qd w S L q k => h N O M δ σ H Q Qd w S L (hd _ _ _ q) k
theorem PD.imp {d' : DE} (h : PD Y W e d) (hd : ∀ δ M Q, d' δ M Q → d δ M Q) : PD Y W e d' := by
  obtain ⟨t, h1, s1⟩ := h.ex
  exact ⟨t, h1, s1.imp hd⟩
theorem snd_fz {t : TE} (h : SndE K W t d) : SndE K W t (dfz d) := fun N O M δ σ H Q Qd w S L q k => h N O M δ σ H _ _ w S L q fun O1 M1 H1 x v n1 r1 q => by
  unfold fzK at q
  split at q
  · rename_i p
    split at q
    · rename_i zs e
      obtain ⟨O2, S2, eo, r2⟩ := n1.st.freeze e
      have rv : v = .ref p := by simpa only [Rp] using r1
      subst rv
      exact k O2 _ H1 _ _ (n1.trans ⟨S2, eo⟩) r2 q
    · exact q.elim
  · exact k O1 M1 H1 x v n1 r1 q
theorem pd_fz (h : PD Y W e d) : PD Y W e (dfz d) := by
  obtain ⟨t, h1, s1⟩ := h.ex
  exact ⟨t, h1, snd_fz s1⟩
theorem m0_true {M : Mu} : (∀ p : Addr, (m0 : Mu) p = none → (m0 : Mu) p ≠ none → M p = none) = True := eq_true fun p h h' => absurd h h'
theorem dcallP_eq {n : Nat} {g : PF} : dcall n selP (PFd g) Er dr = dcallP n g Er dr := by
  funext δ M Q
  unfold dcall dcallP
  refine congrArg (dr δ M) ?_
  funext xs M1
  show (PFd g (xs.map (vw m0 M1 n)) m0 _ _) = _
  unfold PFd
  rw [show (m0 = m0) = True from eq_true rfl, true_and]
  show g _ (fun y => (∀ p : Addr, (m0 : Mu) p = none → (m0 : Mu) p ≠ none → M1 p = none) → Q y (mun M1 m0 m0)) (fun C ns ys => (∀ p : Addr, (m0 : Mu) p = none → (m0 : Mu) p ≠ none → M1 p = none) → Er C ns ys (mun M1 m0 m0)) = _
  simp only [m0_true, true_implies, mun_m0]
theorem dcallN_eq {n : Nat} {g : NF} : dcall n selP (NFd g) Er dr = dcallN n true g Er dr := by
  funext δ M Q
  unfold dcall dcallN
  refine congrArg (dr δ M) ?_
  funext xs M1
  show (NFd g (xs.map (vw m0 M1 n)) m0 _ _) = _
  unfold NFd
  rw [show (m0 = m0) = True from eq_true rfl, true_and]
  show g _ (fun zs => ∀ p : Addr, (m0 : Mu) p = none → (∀ p' : Addr, (m0 : Mu) p' = none → mset m0 p (.lst zs) p' ≠ none → M1 p' = none) → Q (.ptr p) (mun M1 m0 (mset m0 p (.lst zs)))) (fun C ns ys => (∀ p : Addr, (m0 : Mu) p = none → (m0 : Mu) p ≠ none → M1 p = none) → Er C ns ys (mun M1 m0 m0)) = _
  simp only [m0_true, true_implies, mun_m0, mun_new]
  refine congrArg (fun P => g _ P _) ?_
  funext zs
  refine propext ⟨fun h p hp => h p rfl fun p' _ hn => ?_, fun h p _ hf => h p (hf p rfl (by rw [mset_same]; exact fun z => nomatch z))⟩
  by_cases e : p' = p
  · rw [e]; exact hp
  · exact absurd (mset_ne e) hn
/-- what a call of a def with a state asks -/
def fS (n : Nat) (g : SF) (xs : List DL.X) (M : Mu) (Q : VKd) : Prop := match xs with
  | .ptr st :: r => ∃ nums k, M st = some (stC nums k) ∧ g nums k (r.map (vw (one M st) M n)) fun y k' => Q y (mset M st (stC nums k'))
  | _ => False
theorem vw_ptr {Mc M : Mu} {n : Nat} {x : DL.X} {p : Addr} (h : vw Mc M n x = .ptr p) : x = .ptr p := by
  cases n with
  | zero => cases x <;> simpa [vw] using h
  | succ n =>
    cases x with
    | ptr q =>
      unfold vw at h
      split at h
      · exact h
      · split at h
        · cases h
        · cases h
        · exact h
    | _ => simpa [vw] using h
theorem vw_one {M : Mu} {n : Nat} {p : Addr} {c : Cell} (h : M p = some c) : vw (one M p) M n (.ptr p) = .ptr p := by
  cases n with
  | zero => rfl
  | succ n => unfold vw; rw [one_same, h]
theorem dcallS_eq {n : Nat} {g : SF} : dcall n selS (SFd g) Er dr = dcb (fS n g) dr := by
  funext δ M Q
  unfold dcall dcb
  refine congrArg (dr δ M) ?_
  funext xs M1
  have other : (∀ st r, xs ≠ .ptr st :: r) → SFd g (xs.map (vw (selS xs M1) M1 n)) (selS xs M1) (fun y M' => (∀ p, selS xs M1 p = none → M' p ≠ none → M1 p = none) → Q y (mun M1 (selS xs M1) M'))
      (fun C ns ys M' => (∀ p, selS xs M1 p = none → M' p ≠ none → M1 p = none) → Er C ns ys (mun M1 (selS xs M1) M')) = False := fun hn => by
    refine eq_false fun h => ?_
    obtain ⟨st, nums, k, r, e, _⟩ := h
    cases xs with
    | nil => cases e
    | cons x r' =>
      rw [List.map_cons, List.cons.injEq] at e
      exact hn st r' (by rw [vw_ptr e.1])
  by_cases hx : ∃ st r, xs = .ptr st :: r
  · obtain ⟨st, r, rfl⟩ := hx
    refine propext ⟨fun h => ?_, fun h => ?_⟩
    · obtain ⟨st', nums, k, r', e, _, hM, hg⟩ := h
      rw [List.map_cons, List.cons.injEq] at e
      obtain ⟨e1, e2⟩ := e
      have e3 := vw_ptr e1
      cases e3
      have hM' : M1 st = some (stC nums k) := by
        have : one M1 st st = some (stC nums k) := hM
        rwa [one_same] at this
      refine ⟨nums, k, hM', ?_⟩
      subst e2
      have fr : ∀ k' : Int, (∀ p : Addr, one M1 st p = none → mset (one M1 st) st (stC nums k') p ≠ none → M1 p = none) = True := fun k' => eq_true fun p hp hn => by
        by_cases e : p = st
        · rw [e, one_same, hM'] at hp; cases hp
        · rw [mset_ne e] at hn; exact absurd hp hn
      have hg' : g nums k (r.map (vw (one M1 st) M1 n)) (fun y k' => (∀ p : Addr, one M1 st p = none → mset (one M1 st) st (stC nums k') p ≠ none → M1 p = none) → Q y (mun M1 (one M1 st) (mset (one M1 st) st (stC nums k')))) := hg
      simp only [fr, true_implies, mun_one] at hg'
      exact hg'
    · obtain ⟨nums, k, hM', hg⟩ := h
      refine ⟨st, nums, k, r.map (vw (one M1 st) M1 n), ?_, fun a ha => ?_, ?_, ?_⟩
      · rw [List.map_cons]
        show vw (one M1 st) M1 n (.ptr st) :: _ = _
        rw [vw_one hM']; rfl
      · show one M1 st a = none
        unfold one; rw [if_neg ha]
      · show one M1 st st = _
        rw [one_same]; exact hM'
      · have fr : ∀ k' : Int, (∀ p : Addr, one M1 st p = none → mset (one M1 st) st (stC nums k') p ≠ none → M1 p = none) = True := fun k' => eq_true fun p hp hn => by
          by_cases e : p = st
          · rw [e, one_same, hM'] at hp; cases hp
          · rw [mset_ne e] at hn; exact absurd hp hn
        show g nums k (r.map (vw (one M1 st) M1 n)) (fun y k' => (∀ p : Addr, one M1 st p = none → mset (one M1 st) st (stC nums k') p ≠ none → M1 p = none) → Q y (mun M1 (one M1 st) (mset (one M1 st) st (stC nums k'))))
        simp only [fr, true_implies, mun_one]
        exact hg
  · have hn : ∀ st r, xs ≠ .ptr st :: r := fun st r e => hx ⟨st, r, e⟩
    rw [other hn]
    unfold fS
    split
    · rename_i st r
      exact absurd rfl (hn st r)
    · rfl
theorem pd_callS (n : Nat) {g : SF} (hW : ∀ N, W N → WE Y.K E Er N) (F : FnOkG Y.prog Y.w Y.K Y.mg Y.base CX' k f fdt ps (spG Y.K (SFd g))) (hr : RoomG k Y.A) (hm : Y.mg x = some (.ref f)) (hk : PySem.W.keepIn Y.K (.ref f) = true) (hb : Binds Y.K fdt ps []) (hx : Passes CX' Y E)
    (ha : PAD Y W (e :: es) dr) (hg : Gl Y x := by rfl) (hdb : (x == ("__debug__" : Str)) = false := by decide) (he : starEach (e :: es) Y.env = (false, eval e Y.env) :: starEach es Y.env := by rfl) (hpl : (backTo pos (starEach es Y.env)).any (·.1) = false := by rfl) :
    PD Y W (.Call (.Name x p) (e :: es) [] pos) (dcb (fS n g) dr) := by
  rw [← dcallS_eq (Er := Er)]
  exact pd_call selS_sub hW F hr hg hm hk hb hx ha hdb he hpl
theorem pd_callP (n : Nat) {g : PF} (hW : ∀ N, W N → WE Y.K E Er N) (F : FnOkG Y.prog Y.w Y.K Y.mg Y.base CX' k f fdt ps (spG Y.K (PFd g))) (hr : RoomG k Y.A) (hm : Y.mg x = some (.ref f)) (hk : PySem.W.keepIn Y.K (.ref f) = true) (hb : Binds Y.K fdt ps []) (hx : Passes CX' Y E)
    (ha : PAD Y W (e :: es) dr) (hg : Gl Y x := by rfl) (hdb : (x == ("__debug__" : Str)) = false := by decide) (he : starEach (e :: es) Y.env = (false, eval e Y.env) :: starEach es Y.env := by rfl) (hpl : (backTo pos (starEach es Y.env)).any (·.1) = false := by rfl) :
    PD Y W (.Call (.Name x p) (e :: es) [] pos) (dcallP n g Er dr) := by
  rw [← dcallP_eq]
  exact pd_call selP_sub hW F hr hg hm hk hb hx ha hdb he hpl
theorem pd_callN (n : Nat) {g : NF} (hW : ∀ N, W N → WE Y.K E Er N) (F : FnOkG Y.prog Y.w Y.K Y.mg Y.base CX' k f fdt ps (spG Y.K (NFd g))) (hr : RoomG k Y.A) (hm : Y.mg x = some (.ref f)) (hk : PySem.W.keepIn Y.K (.ref f) = true) (hb : Binds Y.K fdt ps []) (hx : Passes CX' Y E)
    (ha : PAD Y W (e :: es) dr) (hg : Gl Y x := by rfl) (hdb : (x == ("__debug__" : Str)) = false := by decide) (he : starEach (e :: es) Y.env = (false, eval e Y.env) :: starEach es Y.env := by rfl) (hpl : (backTo pos (starEach es Y.env)).any (·.1) = false := by rfl) :
    PD Y W (.Call (.Name x p) (e :: es) [] pos) (dcallN n true g Er dr) := by
  rw [← dcallN_eq]
  exact pd_call selP_sub hW F hr hg hm hk hb hx ha hdb he hpl
end
end DL

set_option maxRecDepth 100000
/-! DLe: comprehensions. -/
namespace DL
open PySem PySem.Spec PyProof.Rows L2

def wipeD (δ : Dl) : List Nat → Dl
  | [] => δ
  | v :: vs => (wipeD δ vs).set v none
def Only (t : TG) (vs : List Nat) : Prop := ∀ v σ H Q, t v σ H Q → t v σ H fun σ' H' => wipe σ' vs = wipe σ vs ∧ Q σ' H'
def Onlys (t : TGs) (vs : List Nat) : Prop := ∀ v σ H Q, t v σ H Q → t v σ H fun σ' H' => wipe σ' vs = wipe σ vs ∧ Q σ' H'
def MonoG (t : TG) : Prop := ∀ v σ H Q Q', (∀ σ' H', Q σ' H' → Q' σ' H') → t v σ H Q → t v σ H Q'
def MonoGs (t : TGs) : Prop := ∀ v σ H Q Q', (∀ σ' H', Q σ' H' → Q' σ' H') → t v σ H Q → t v σ H Q'
structure PGL (X : Cx) (W : Ent → Prop) (e : Expr) (vs : List Nat) (d : DG) : Prop where
  ex : ∃ t, PG X e t ∧ SndG X.K W t d ∧ Only t vs ∧ MonoG t
structure PGsL (X : Cx) (W : Ent → Prop) (e : List Expr) (vs : List Nat) (d : DGs) : Prop where
  ex : ∃ t, PGs X e t ∧ SndGs X.K W t d ∧ Onlys t vs ∧ MonoGs t
theorem wipe_set_out {σ : L2.St} {i : Nat} {x : Option V} : ∀ {vs : List Nat}, i ∉ vs → wipe (σ.set i x) vs = (wipe σ vs).set i x
  | [], _ => rfl
  | v :: vs, h => by
    have h1 : i ≠ v := fun e => h (by rw [e]; exact List.mem_cons_self)
    have h2 : i ∉ vs := fun e => h (List.mem_cons_of_mem _ e)
    show (wipe (σ.set i x) vs).set v none = ((wipe σ vs).set v none).set i x
    rw [wipe_set_out h2, List.set_comm _ _ h1]
theorem wipe_set_in {σ : L2.St} {i : Nat} {x : Option V} : ∀ {vs : List Nat}, i ∈ vs → wipe (σ.set i x) vs = wipe σ vs
  | v :: vs, h => by
    show (wipe (σ.set i x) vs).set v none = (wipe σ vs).set v none
    by_cases h2 : i ∈ vs
    · rw [wipe_set_in h2]
    · have e : i = v := (List.mem_cons.mp h).resolve_right h2
      rw [wipe_set_out h2, e, List.set_set]
theorem wipe_wipe {σ : L2.St} {us : List Nat} : ∀ {vs : List Nat}, (∀ v ∈ vs, v ∈ us) → wipe (wipe σ vs) us = wipe σ us
  | [], _ => rfl
  | v :: vs, h => by
    show wipe ((wipe σ vs).set v none) us = wipe σ us
    rw [wipe_set_in (h v List.mem_cons_self), wipe_wipe fun w hw => h w (List.mem_cons_of_mem _ hw)]
section
variable {X : Cx} {W : Ent → Prop} {K : PySem.W.Frag} {e : Expr} {es : List Expr} {pos : Pos} {g : DG} {gs : DGs} {vs : List Nat} {O B : Hp}
theorem only_name {i : Nat} (h : i ∈ vs) : Only (gName i) vs := fun v σ H Q q => ⟨wipe_set_in h, q⟩
theorem pgl_name (i : Nat) {x : Str} (hN : X.N.Nodup) (hv : i ∈ vs := by decide) (hi : X.N[i]? = some x := by rfl) (hx : Loc X.env.scope x := by first | exact Or.inl rfl | exact Or.inr rfl) (hf : X.fn x = true ∨ X.env.scope.names.lookup x = some .local := by first | exact .inl rfl | exact .inr rfl | assumption) : PGL X W (.Name x pos) vs (dgname i) :=
  ⟨_, pg_name hN hi hx hf, fun N O M δ σ H x v Q Qd w S L r h k => k O M H _ _ (Nxt.refl S) (L.set r i) h, only_name hv, fun _ _ _ _ _ h q => h _ _ q⟩
theorem pgsl_nil : PGsL X W [] vs dgnil := by
  obtain ⟨t, h1, s1⟩ := (pgsd_nil (X := X) (W := W)).ex
  refine ⟨gNil, pgs_nil, fun N O M δ σ H xs vs Q Qd w S L r h k => ?_, fun v σ H Q q => ⟨q.1, rfl, q.2⟩, fun _ _ _ _ _ h q => ⟨q.1, h _ _ q.2⟩⟩
  unfold dgnil at h
  split at h
  · simp only [RpA] at r
    exact ⟨r, k O M H δ σ (Nxt.refl S) L h⟩
  · exact h.elim
theorem onlys_cons {t : TG} {u : TGs} (h1 : Only t vs) (h2 : Onlys u vs) (m1 : MonoG t) (m2 : MonoGs u) : Onlys (gCons t u) vs := fun v σ H Q q => by
  obtain ⟨x, r, e, q⟩ := q
  refine ⟨x, r, e, m1 _ _ _ _ _ (fun σ' H' z => ?_) (h1 _ _ _ _ q)⟩
  exact m2 _ _ _ _ _ (fun σ2 H2 z2 => ⟨z2.1.trans z.1, z2.2⟩) (h2 _ _ _ _ z.2)
theorem mono_cons {t : TG} {u : TGs} (m1 : MonoG t) (m2 : MonoGs u) : MonoGs (gCons t u) := fun v σ H Q Q' h q => by
  obtain ⟨x, r, e, q⟩ := q
  exact ⟨x, r, e, m1 _ _ _ _ _ (fun σ' H' z => m2 _ _ _ _ _ h z) q⟩
theorem snd_gcons {t : TG} {u : TGs} (s1 : SndG K W t g) (s2 : SndGs K W u gs) : SndGs K W (gCons t u) (dgcons g gs) := fun N O M δ σ H xs vs Q Qd w S L r h k => by
  unfold dgcons at h
  split at h
  · simp only [RpA] at r
    obtain ⟨v, vr, e, rv, rr⟩ := r
    exact ⟨v, vr, e, s1 N O M δ σ H _ v _ _ w S L rv h fun O1 M1 H1 δ1 σ1 n1 L1 h => s2 N O1 M1 δ1 σ1 H1 _ vr _ _ w n1.st L1 (n1.rpa rr) h fun O2 M2 H2 δ2 σ2 n2 L2 h => k O2 M2 H2 δ2 σ2 (n1.trans n2) L2 h⟩
  · exact h.elim
theorem pgsl_cons (h1 : PGL X W e vs g) (h2 : PGsL X W es vs gs) (hs : (assignEach (e :: es) X.env).map (·.2) = assign e X.env :: (assignEach es X.env).map (·.2) := by rfl) : PGsL X W (e :: es) vs (dgcons g gs) := by
  obtain ⟨t, h1, s1, o1, m1⟩ := h1.ex
  obtain ⟨u, h2, s2, o2, m2⟩ := h2.ex
  exact ⟨_, pgs_cons h1 h2 hs, snd_gcons s1 s2, onlys_cons o1 o2 m1 m2, mono_cons m1 m2⟩
theorem pgl_tup {k : Nat} {n : Nat} (hc : X.calm = true) (h : PGsL X W es vs gs) (hn : (assignEach es X.env).length = n := by rfl) (hst : (assignEach es X.env).findIdx? (·.1) = none := by rfl) : PGL X W (.Tuple es k pos) vs (dgtup n gs) := by
  obtain ⟨t, h1, s1, o1, m1⟩ := h.ex
  refine ⟨_, pg_tup hc h1 hn hst, fun N O M δ σ H x v Q Qd w S L r h k => ?_, fun v σ H Q q => ?_, fun v σ H Q Q' h q => ?_⟩
  · unfold dgtup at h
    split at h
    · simp only [Rp] at r
      obtain ⟨a, vs, e, q, r⟩ := r
      exact ⟨a, vs, e, ex_sqt S.oh q, by rw [r.len]; exact h.1, s1 N O M δ σ H _ vs _ _ w S L r h.2 k⟩
    · exact h.elim
  · obtain ⟨a, xs, e, q, l, z⟩ := q
    exact ⟨a, xs, e, q, l, o1 _ _ _ _ z⟩
  · obtain ⟨a, xs, e, q, l, z⟩ := q
    exact ⟨a, xs, e, q, l, m1 _ _ _ _ _ h z⟩
theorem Sl.wipe1 : ∀ {δ : Dl} {σ : L2.St} (i : Nat), Sl K O B δ σ → Sl K O B (δ.set i none) (σ.set i none)
  | [], _, _, t => by simp only [Sl] at t; subst t; simp only [List.set_nil, Sl]
  | none :: δ, _, 0, t => by
    simp only [Sl] at t
    obtain ⟨o, r, e, u⟩ := t
    subst e
    simp only [List.set_cons_zero, Sl]
    exact ⟨none, r, rfl, u⟩
  | some y :: δ, _, 0, t => by
    simp only [Sl] at t
    obtain ⟨w, r, e, q, u⟩ := t
    subst e
    simp only [List.set_cons_zero, Sl]
    exact ⟨none, r, rfl, u⟩
  | none :: δ, _, i + 1, t => by
    simp only [Sl] at t
    obtain ⟨o, r, e, u⟩ := t
    subst e
    simp only [List.set_cons_succ, Sl]
    exact ⟨o, _, rfl, Sl.wipe1 i u⟩
  | some y :: δ, _, i + 1, t => by
    simp only [Sl] at t
    obtain ⟨w, r, e, q, u⟩ := t
    subst e
    simp only [List.set_cons_succ, Sl]
    exact ⟨w, _, rfl, q, Sl.wipe1 i u⟩
theorem Sl.wipe {δ : Dl} {σ : L2.St} (h : Sl K O B δ σ) : ∀ vs : List Nat, Sl K O B (wipeD δ vs) (L2.wipe σ vs)
  | [] => h
  | v :: vs => Sl.wipe1 v (Sl.wipe h vs)
end

/-! ### an entry at a turn -/
def Ent.inn (N : Ent) (O : Hp) (M : Mu) (H : Hp) : Ent := ⟨H, O, N.B0, fz H M, fun a => M a ≠ none⟩
section
variable {K : PySem.W.Frag} {N : Ent} {O O1 H H1 : Hp} {M M1 : Mu} {D : Addr}
theorem Stt.inn (S : Stt K N O M H) : Stt K (N.inn O M H) O M H :=
  ⟨S.oh, S.om, S.tp, S.cl, S.b0, Ex.refl _, Ex.refl _, fun _ _ q => .inl q, fun _ q => q, fun a c q => .inr (show M a ≠ none by rw [q]; exact fun z => nomatch z)⟩
theorem Stt.out (S1 : Stt K (N.inn O M H) O1 M1 H1) (S : Stt K N O M H) : Stt K N O1 M1 H1 :=
  ⟨S1.oh, S1.om, S1.tp, S1.cl, S1.b0, S.c0.trans S1.c0, S.o0.trans S1.o0, fun a o q => by
    rcases S1.nw a o q with z | z | z
    · exact S.nw a o z
    · exact .inr (.inl (S.dm a z))
    · have z' : M a ≠ none := z
      cases e : M a with
      | none => exact absurd e z'
      | some c => exact .inr (S.mf a c e), fun a q => S.dm a (S1.dm a q), fun a c q => by
    rcases S1.mf a c q with z | z
    · exact .inl (S.dm a z)
    · have z' : M a ≠ none := z
      cases e : M a with
      | none => exact absurd e z'
      | some c => exact S.mf a c e⟩
theorem sub_mset {c : Cell} (h : M D = none) : Sub M (mset M D c) := fun a d q => by
  by_cases e : a = D
  · rw [e, h] at q; cases q
  · rw [mset_ne e]; exact q
/-- the list at D, hidden through a turn, is mutable again -/
theorem Stt.remut {acc acc' : List X} {ws ws' : List V} (S : Stt K N O (mset M D (.lst acc)) H) (hD : M D = none) (hH : H D = some (.lst ws)) (S1 : Stt K (N.inn O M H) O1 M1 H1) (r : RpA K O1 N.B0 acc' ws') :
    M1 D = none ∧ H1 D = some (.lst ws) ∧ Stt K N O1 (mset M1 D (.lst acc')) (upd H1 D (.lst ws')) := by
  have S0 : Stt K N O M H := S.drop (sub_mset hD)
  have od : O D = none := S.om D _ mset_same
  have h1 : M1 D = none := by
    cases e : M1 D with
    | none => rfl
    | some c =>
      rcases S1.mf D c e with z | z
      · rw [show H D = none from z] at hH; cases hH
      · exact absurd hD z
  have h2 : O1 D = none := by
    cases e : O1 D with
    | none => rfl
    | some o =>
      rcases S1.nw D o e with z | z | z
      · rw [show O D = some o from z] at od; cases od
      · rw [show H D = none from z] at hH; cases hH
      · exact absurd hD z
  have h3 : H1 D = some (.lst ws) := (of_fz (S1.c0 D _ (show fz H M D = some (.lst ws) by rw [fz_of hD]; exact hH))).1
  have T := S1.out S0
  have bD : ∀ {B : Hp}, Ex B (fz H (mset M D (.lst acc))) → B D = none := fun {B} e => by
    cases q : B D with
    | none => rfl
    | some o =>
      have := (of_fz (e D o q)).2
      rw [mset_same] at this; cases this
  have keep : ∀ {B : Hp}, B D = none → Ex B (fz H1 M1) → Ex B (fz (upd H1 D (.lst ws')) (mset M1 D (.lst acc'))) := fun {B} hb e a u q => by
    have ne : a ≠ D := fun z => by rw [z, hb] at q; cases q
    obtain ⟨q1, q2⟩ := of_fz (e a u q)
    rw [fz_of (by rw [mset_ne ne]; exact q2), upd_ne ne]
    exact q1
  refine ⟨h1, h3, ⟨fun a u q => ?_, fun a c q => ?_, fun a xs q => ?_, fun a c q => ?_, keep (bD S.b0) T.b0, keep (bD S.c0) T.c0, T.o0, T.nw, fun a q => ?_, fun a c q => ?_⟩⟩
  · have ne : a ≠ D := fun z => by rw [z, h2] at q; cases q
    rw [upd_ne ne]; exact T.oh a u q
  · by_cases e : a = D
    · rw [e]; exact h2
    · rw [mset_ne e] at q; exact T.om a c q
  · by_cases e : a = D
    · rw [e, upd_same] at q; cases q
    · rw [upd_ne e] at q; exact T.tp a xs q
  · by_cases e : a = D
    · subst e
      rw [mset_same] at q
      cases q
      exact ⟨ws', upd_same, r⟩
    · rw [mset_ne e] at q
      refine (T.cl a c q).mono (Ex.refl _) (Ex.refl _) fun b u hb z => ?_
      have ne : b ≠ D := by
        rcases hb with rfl | hb
        · exact e
        · intro z; rw [z, h3] at hb; cases hb
      rw [upd_ne ne]; exact z
  · by_cases e : a = D
    · rw [e, upd_same] at q; cases q
    · rw [upd_ne e] at q; exact T.dm a q
  · by_cases e : a = D
    · rw [e]; exact S.mf D _ mset_same
    · rw [mset_ne e] at q; exact T.mf a c q
end

/-! ### comprehensions -/
def dlcGo (g : DG) (t : DT) (e : DE) (c : Mu → Prop) (δ0 : Dl) : List X → List X → Mu → (List X → Mu → Prop) → Prop
  | [], acc, M, Q => c M ∧ Q acc M
  | x :: xs, acc, M, Q => c M ∧ g x δ0 M fun δ1 M1 => t δ1 M1 fun b M2 => match b with
    | true => e δ1 M2 fun y M3 => acc.length < sizeLine ∧ dlcGo g t e c δ0 xs (acc ++ [y]) M3 Q
    | false => dlcGo g t e c δ0 xs acc M2 Q
def dlc (m : Bool) (it : DI) (g : DG) (t : DT) (e : DE) (vs : List Nat) : DE := fun δ M Q => it δ M fun xs c M1 => dlcGo g t e c (wipeD δ vs) xs [] M1 fun zs M2 => newl m zs M2 Q
def dyes : DT := fun _ M Q => Q true M
theorem snd_lc {K : PySem.W.Frag} {W : Ent → Prop} (hW : Anti K W) {wi : TI} {g' : TG} {tt : TT} {te : TE} {vs : List Nat} {it : DI} {g : DG} {t : DT} {e : DE} {m : Bool} (s1 : SndI K W wi it) (s2 : SndG K W g' g) (o2 : Only g' vs) (m2 : MonoG g') (s3 : SndT K W tt t) (s4 : SndE K W te e) :
    SndE K W (tLc wi g' tt te vs) (dlc m it g t e vs) := fun N O M δ σ H Q Qd w S L h k => s1 N O M δ σ H _ _ w S L h fun O1 M1 H1 J xs cc n1 J1 q => fun D hD => by
  have S1 := n1.st
  have L1 := n1.sl L
  refine ⟨fun i n H' => ∃ O' M' acc, n + i = xs.length ∧ Stt K N O' (mset M' D (.lst acc)) H' ∧ M' D = none ∧ Ex O1 O' ∧ dlcGo g t e cc (wipeD δ vs) (xs.drop i) acc M' fun zs M2 => newl m zs M2 Qd,
    ⟨xs.length, O1, M1, [], rfl, S1.mut hD RpA.nil, S1.mnone hD, Ex.refl _, q⟩, ?_⟩
  rintro i n H' ⟨O', M', acc, en, S', hM, eo, q⟩
  obtain ⟨ws, hH, rr⟩ := S'.cl D _ mset_same
  have S0 : Stt K N O' M' H' := S'.drop (sub_mset hM)
  by_cases hi : i < xs.length
  · have ed : xs.drop i = xs[i] :: xs.drop (i + 1) := List.drop_eq_getElem_cons hi
    rw [ed] at q
    obtain ⟨qc, q⟩ := q
    obtain ⟨_, j2⟩ := J1 (N.inn O' M' H') O' M' H' i rfl S0.inn eo qc
    obtain ⟨jg, jy⟩ := j2 _ (List.getElem?_eq_getElem hi)
    refine .inr ⟨jg, fun H2 => ∃ O2 M2 acc2, n - 1 + (i + 1) = xs.length ∧ Stt K N O2 (mset M2 D (.lst acc2)) H2 ∧ M2 D = none ∧ Ex O1 O2 ∧ dlcGo g t e cc (wipeD δ vs) (xs.drop (i + 1)) acc2 M2 fun zs M2 => newl m zs M2 Qd, fun H2 z => ⟨n - 1, by omega, z⟩, fun v H2 hy => ?_⟩
    obtain ⟨O2, n2, r2⟩ := jy v H2 hy
    have w' : W (N.inn O' M' H') := hW N (N.inn O' M' H') rfl (fun _ _ _ z => z.out S0) w
    have Lw : Sl K O2 N.B0 (wipeD δ vs) (L2.wipe σ vs) := (L1.mono (eo.trans n2.eo) (Ex.refl _)).wipe vs
    have Lw' : Sl K O2 (N.inn O' M' H').B0 (wipeD δ vs) (L2.wipe σ vs) := Lw
    have ww : ∀ {σ2 : L2.St}, L2.wipe σ2 vs = L2.wipe (L2.wipe σ vs) vs → L2.wipe σ2 vs = L2.wipe σ vs := fun {σ2} z => z.trans (wipe_wipe fun v hv => hv)
    have s2' : g' v (L2.wipe σ vs) H2 fun σ2 H3 => tt σ2 H3 fun b H4 => if b = true then te σ2 H4 fun y H5 => ∃ a, H5 D = some (.lst a) ∧ a.length < sizeLine ∧ (fun H2 => ∃ O2 M2 acc2, n - 1 + (i + 1) = xs.length ∧ Stt K N O2 (mset M2 D (.lst acc2)) H2 ∧ M2 D = none ∧ Ex O1 O2 ∧ dlcGo g t e cc (wipeD δ vs) (xs.drop (i + 1)) acc2 M2 fun zs M2 => newl m zs M2 Qd) (upd H5 D (.lst (a ++ [y]))) else (fun H2 => ∃ O2 M2 acc2, n - 1 + (i + 1) = xs.length ∧ Stt K N O2 (mset M2 D (.lst acc2)) H2 ∧ M2 D = none ∧ Ex O1 O2 ∧ dlcGo g t e cc (wipeD δ vs) (xs.drop (i + 1)) acc2 M2 fun zs M2 => newl m zs M2 Qd) H4 := by
      refine s2 (N.inn O' M' H') O2 M' (wipeD δ vs) _ H2 _ v _ _ w' n2.st Lw' r2 q fun O3 M3 H3 δ3 σ3 n3 L3 q => ?_
      refine s3 (N.inn O' M' H') O3 M3 δ3 σ3 H3 _ _ w' n3.st L3 q fun O4 M4 H4 b n4 q => ?_
      cases b with
      | true =>
        show te σ3 H4 _
        refine s4 (N.inn O' M' H') O4 M4 δ3 σ3 H4 _ _ w' n4.st (n4.sl L3) q fun O5 M5 H5 y v5 n5 r5 q => ?_
        have rr' : RpA K O5 N.B0 (acc ++ [y]) (ws ++ [v5]) := (rr.mono ((n2.eo.trans n3.eo).trans (n4.eo.trans n5.eo)) (Ex.refl _)).append (RpA.cons r5 RpA.nil)
        obtain ⟨h1, h3, T⟩ := S'.remut hM hH n5.st rr'
        exact ⟨ws, h3, by rw [rr.len]; exact q.1, O5, M5, acc ++ [y], by omega, T, h1, (eo.trans n2.eo).trans (n3.eo.trans (n4.eo.trans n5.eo)), q.2⟩
      | false =>
        show ∃ O2 M2 acc2, _
        have rr' : RpA K O4 N.B0 acc ws := rr.mono (n2.eo.trans (n3.eo.trans n4.eo)) (Ex.refl _)
        obtain ⟨h1, h3, T⟩ := S'.remut hM hH n4.st rr'
        have eH : upd H4 D (.lst ws) = H4 := by
          funext a
          by_cases e : a = D
          · rw [e, upd_same, h3]
          · rw [upd_ne e]
        rw [eH] at T
        exact ⟨O4, M4, acc, by omega, T, h1, (eo.trans n2.eo).trans (n3.eo.trans n4.eo), q⟩
    have fin := o2 v (L2.wipe σ vs) H2 _ s2'
    exact m2 _ _ _ _ _ (fun σ2 H3 z => ⟨ww z.1, z.2⟩) fin
  · have ed : xs.drop i = [] := List.drop_eq_nil_of_le (by omega)
    rw [ed] at q
    obtain ⟨j1, _⟩ := J1 N O' M' H' i rfl S0 eo q.1
    refine .inl ⟨j1 (by omega), ?_⟩
    obtain ⟨_, q⟩ := q
    cases m with
    | true =>
      exact k O' _ H' (.ptr D) _ (n1.trans ⟨S', eo⟩) (by simp only [Rp]) (q D hM)
    | false =>
      obtain ⟨O2, T, eo2, r2⟩ := S'.freeze (p := D) mset_same
      have eM : mdel (mset M' D (.lst acc)) D = M' := by rw [mdel_mset, mdel_of hM]
      rw [eM] at T
      exact k O2 M' H' (.lst true acc) _ (n1.trans ⟨T, eo.trans eo2⟩) r2 q

structure PTsD (X : Cx) (W : Ent → Prop) (ifs : List Expr) (d : DT) : Prop where
  ex : ∃ t, PTs X ifs t ∧ SndT X.K W t d
section
variable {X : Cx} {W : Ent → Prop} {tg iter elt c : Expr} {ifs : List Expr} {scope : Scope} {pos : Pos} {it : DI} {g : DG} {t : DT} {e : DE} {vs : List Nat}
theorem ptsd_nil : PTsD X W [] dyes := ⟨_, pts_nil, fun N O M δ σ H Q Qd w S L h k => k O M H true (Nxt.refl S) h⟩
theorem ptsd_one (h : PTD X W c t) : PTsD X W [c] t := by
  obtain ⟨u, h1, s1⟩ := h.ex
  exact ⟨_, pts_one h1, s1⟩
theorem fam_E (h : ∀ (s : Shared) (H : Hp) (C : Addr) (cl : List (Str × Addr)) (fp : List Addr), PD (X.blk s H scope (compEnvC scope cl C X.env) fp) W elt e) :
    ∃ u, (∀ (s : Shared) (H : Hp) (C : Addr) (cl : List (Str × Addr)) (fp : List Addr), PE (X.blk s H scope (compEnvC scope cl C X.env) fp) elt u) ∧ SndE X.K W u e :=
  ⟨fun σ H0 Q => ∀ s H C cl fp, Classical.choose (h s H C cl fp).ex σ H0 Q,
    fun s H C cl fp => ⟨fun pins s' σ H0 Q I z => (Classical.choose_spec (h s H C cl fp).ex).1.run pins s' σ H0 Q I (z s H C cl fp)⟩,
    fun N O M δ σ H0 Q Qd w S L q k s H C cl fp => (Classical.choose_spec (h s H C cl fp).ex).2 N O M δ σ H0 Q Qd w S L q k⟩
theorem fam_T (h : ∀ (s : Shared) (H : Hp) (C : Addr) (cl : List (Str × Addr)) (fp : List Addr), PTsD (X.blk s H scope (compEnvC scope cl C X.env) fp) W ifs t) :
    ∃ u, (∀ (s : Shared) (H : Hp) (C : Addr) (cl : List (Str × Addr)) (fp : List Addr), PTs (X.blk s H scope (compEnvC scope cl C X.env) fp) ifs u) ∧ SndT X.K W u t :=
  ⟨fun σ H0 Q => ∀ s H C cl fp, Classical.choose (h s H C cl fp).ex σ H0 Q,
    fun s H C cl fp => ⟨fun pins s' σ H0 Q I z => (Classical.choose_spec (h s H C cl fp).ex).1.run pins s' σ H0 Q I (z s H C cl fp)⟩,
    fun N O M δ σ H0 Q Qd w S L q k s H C cl fp => (Classical.choose_spec (h s H C cl fp).ex).2 N O M δ σ H0 Q Qd w S L q k⟩
theorem fam_G (h : ∀ (s : Shared) (H : Hp) (C : Addr) (cl : List (Str × Addr)) (fp : List Addr), PGL (X.blk s H scope (compEnvC scope cl C X.env) fp) W tg vs g) :
    ∃ u, (∀ (s : Shared) (H : Hp) (C : Addr) (cl : List (Str × Addr)) (fp : List Addr), PG (X.blk s H scope (compEnvC scope cl C X.env) fp) tg u) ∧ SndG X.K W u g ∧ Only u vs ∧ MonoG u :=
  ⟨fun v σ H0 Q => ∀ s H C cl fp, Classical.choose (h s H C cl fp).ex v σ H0 Q,
    fun s H C cl fp => ⟨fun pins s' σ H0 v u Q I r z => (Classical.choose_spec (h s H C cl fp).ex).1.run pins s' σ H0 v u Q I r (z s H C cl fp)⟩,
    fun N O M δ σ H0 x v Q Qd w S L r q k s H C cl fp => (Classical.choose_spec (h s H C cl fp).ex).2.1 N O M δ σ H0 x v Q Qd w S L r q k,
    fun v σ H0 Q z s H C cl fp => (Classical.choose_spec (h s H C cl fp).ex).2.2.1 v σ H0 Q (z s H C cl fp),
    fun v σ H0 Q Q' i z s H C cl fp => (Classical.choose_spec (h s H C cl fp).ex).2.2.2 v σ H0 Q Q' i (z s H C cl fp)⟩
theorem pd_lc (m : Bool) (own : List (Str × Nat)) (hW : Anti X.K W) (hN : X.N.Nodup) (hi : PID X W tg iter it) (ok : BlkOk X.N X.env.scope scope own)
    (hg : ∀ (s : Shared) (H : Hp) (C : Addr) (cl : List (Str × Addr)) (fp : List Addr), PGL (X.blk s H scope (compEnvC scope cl C X.env) fp) W tg (own.map (·.2)) g)
    (ht : ∀ (s : Shared) (H : Hp) (C : Addr) (cl : List (Str × Addr)) (fp : List Addr), PTsD (X.blk s H scope (compEnvC scope cl C X.env) fp) W ifs t)
    (he : ∀ (s : Shared) (H : Hp) (C : Addr) (cl : List (Str × Addr)) (fp : List Addr), PD (X.blk s H scope (compEnvC scope cl C X.env) fp) W elt e) (hc : X.calm = true := by rfl) (hs : ∀ x, foldedSetIterable iter X.env x = pure x := by intro _; rfl) :
    PD X W (.ListComp elt [⟨tg, iter, ifs, 0⟩] scope pos) (dlc m it g t e (own.map (·.2))) := by
  obtain ⟨wi, h1, s1⟩ := hi.ex
  obtain ⟨ug, h2, s2, o2, m2⟩ := fam_G hg
  obtain ⟨ut, h3, s3⟩ := fam_T ht
  obtain ⟨ue, h4, s4⟩ := fam_E he
  exact ⟨_, pe_lc hc hN h1 ok h2 h3 h4 hs, snd_lc hW s1 s2 o2 m2 s3 s4⟩
theorem psd_setLc (m : Bool) (i : Nat) (own : List (Str × Nat)) {y : Str} {py spos : Pos} (hW : Anti X.K W) (hN : X.N.Nodup)
    (hsw : swapsWith (.ListComp elt [⟨tg, iter, ifs, 0⟩] scope pos) (some (.Name y py)) spos.line X.env = pure true) (hi : PID X W tg iter it) (ok : BlkOk X.N X.env.scope scope own)
    (hg : ∀ (s : Shared) (H : Hp) (C : Addr) (cl : List (Str × Addr)) (fp : List Addr), PGL (X.blk s H scope (compEnvC scope cl C X.env) fp) W tg (own.map (·.2)) g)
    (ht : ∀ (s : Shared) (H : Hp) (C : Addr) (cl : List (Str × Addr)) (fp : List Addr), PTsD (X.blk s H scope (compEnvC scope cl C X.env) fp) W ifs t)
    (he : ∀ (s : Shared) (H : Hp) (C : Addr) (cl : List (Str × Addr)) (fp : List Addr), PD (X.blk s H scope (compEnvC scope cl C X.env) fp) W elt e) (hy : X.N[i]? = some y := by rfl) (hyl : X.env.scope.names.lookup y = some .local := by rfl) (hc : X.calm = true := by rfl) (hs : ∀ x, foldedSetIterable iter X.env x = pure x := by intro _; rfl) :
    PSD X W (.Assign [.Name y py] (.ListComp elt [⟨tg, iter, ifs, 0⟩] scope pos) spos) (dasg (dlc m it g t e (own.map (·.2))) i) := by
  obtain ⟨wi, h1, s1⟩ := hi.ex
  obtain ⟨ug, h2, s2, o2, m2⟩ := fam_G hg
  obtain ⟨ut, h3, s3⟩ := fam_T ht
  obtain ⟨ue, h4, s4⟩ := fam_E he
  refine ⟨_, ps_setLc hc hN hy hyl hsw h1 ok h2 h3 h4 hs, fun N D DD w C O M δ σ H S L h => ?_⟩
  exact snd_lc (m := m) hW s1 s2 o2 m2 s3 s4 N O M δ σ H _ _ w S L h fun O1 M1 H1 x v n r q => C.nx O1 M1 _ _ H1 n.st ((n.sl L).set r i) q
end
end DL

set_option maxRecDepth 100000
/-! DLf: defs by name; calls in their last form; ends. -/
namespace DL
open PySem PySem.Spec PyProof.Rows L2

structure Cal (P : Program) (w : World) (K : PySem.W.Frag) (mg : Str → Option Value) (base : Heap) (CX' : CXT) (x : Str) (k : Nat) (ps : List Str) (fd : FD) : Prop where
  ex : ∃ f fdt, FnOkG P w K mg base CX' k f fdt ps (spG K fd) ∧ mg x = some (.ref f) ∧ PySem.W.keepIn K (.ref f) = true ∧ Binds K fdt ps []
/-- a def of the text by its name -/
structure Def (K : PySem.W.Frag) (mg : Str → Option Value) (x : Str) (st : Stmt) : Prop where
  ex : ∃ f fdt, Fun K x x st f fdt ∧ mg x = some (.ref f)
abbrev Ed0 : ErrK := fun _ _ _ _ => False
theorem we0 {K : PySem.W.Frag} {W : Ent → Prop} : ∀ N, W N → WE K E0 Ed0 N := fun _ _ _ _ _ _ _ _ _ _ _ z => z.elim
section
variable {P : Program} {w : World} {K : PySem.W.Frag} {mg : Str → Option Value} {base : Heap}
theorem Cal.mk' {CX' : CXT} {x : Str} {st : Stmt} {k : Nat} {ps : List Str} {fd : FD} (D : Def K mg x st)
    (hb : ∀ (kV doc pm : Value) (an : Option Addr) (cdv ct : Value) (us : List Value), us.length = ps.length → bindArgs (PySem.W.fnOf x x (defArgs st) (defBody st) (defScope st) .none kV doc pm an cdv ct) ⟨us, []⟩ = pure (ps.zip us))
    (h : ∀ f fdt, Fun K x x st f fdt → FnOkG P w K mg base CX' k f fdt ps (spG K fd)) : Cal P w K mg base CX' x k ps fd := by
  obtain ⟨f, fdt, F, hm⟩ := D.ex
  exact ⟨f, fdt, h f fdt F, hm, F.kp, F.binds hb⟩
theorem Cal.imp {CX' : CXT} {x : Str} {k : Nat} {ps : List Str} {fd fd' : FD} (C : Cal P w K mg base CX' x k ps fd) (h : ∀ xs M Q E, fd' xs M Q E → fd xs M Q E) : Cal P w K mg base CX' x k ps fd' := by
  obtain ⟨f, fdt, F, a, b, c⟩ := C.ex
  exact ⟨f, fdt, F.imp fun vs H Q E ⟨O, Mc, xs, Qd, Ed, s, r, hf, q⟩ => ⟨O, Mc, xs, Qd, Ed, s, r, h _ _ _ _ hf, q⟩, a, b, c⟩
end
section
variable {Y : Cx} {W : Ent → Prop} {k : Nat} {ps : List Str} {CX' : CXT} {Er : ErrK} {E : XK} {x : Str} {p pos : Pos} {e : Expr} {es : List Expr} {dr : DA} {d : DE}
theorem pd_cP (n : Nat) {g : PF} (C : Cal Y.prog Y.w Y.K Y.mg Y.base CX' x k ps (PFd g)) (hr : RoomG k Y.A) (hx : Passes CX' Y E) (hW : ∀ N, W N → WE Y.K E Er N)
    (ha : PAD Y W (e :: es) dr) (hg : Gl Y x := by rfl) (hdb : (x == ("__debug__" : Str)) = false := by decide) (he : starEach (e :: es) Y.env = (false, eval e Y.env) :: starEach es Y.env := by rfl) (hpl : (backTo pos (starEach es Y.env)).any (·.1) = false := by rfl) :
    PD Y W (.Call (.Name x p) (e :: es) [] pos) (dcallP n g Er dr) := by
  obtain ⟨f, fdt, F, a, b, c⟩ := C.ex
  exact pd_callP n hW F hr a b c hx ha hg hdb he hpl
theorem pd_cN (n : Nat) {g : NF} (C : Cal Y.prog Y.w Y.K Y.mg Y.base CX' x k ps (NFd g)) (hr : RoomG k Y.A) (hx : Passes CX' Y E) (hW : ∀ N, W N → WE Y.K E Er N)
    (ha : PAD Y W (e :: es) dr) (hg : Gl Y x := by rfl) (hdb : (x == ("__debug__" : Str)) = false := by decide) (he : starEach (e :: es) Y.env = (false, eval e Y.env) :: starEach es Y.env := by rfl) (hpl : (backTo pos (starEach es Y.env)).any (·.1) = false := by rfl) :
    PD Y W (.Call (.Name x p) (e :: es) [] pos) (dcallN n true g Er dr) := by
  obtain ⟨f, fdt, F, a, b, c⟩ := C.ex
  exact pd_callN n hW F hr a b c hx ha hg hdb he hpl
theorem pd_cS (n : Nat) {g : SF} (C : Cal Y.prog Y.w Y.K Y.mg Y.base CX' x k ps (SFd g)) (hr : RoomG k Y.A) (hx : Passes CX' Y E0)
    (ha : PAD Y W (e :: es) dr) (hg : Gl Y x := by rfl) (hdb : (x == ("__debug__" : Str)) = false := by decide) (he : starEach (e :: es) Y.env = (false, eval e Y.env) :: starEach es Y.env := by rfl) (hpl : (backTo pos (starEach es Y.env)).any (·.1) = false := by rfl) :
    PD Y W (.Call (.Name x p) (e :: es) [] pos) (dcb (fS n g) dr) := by
  obtain ⟨f, fdt, F, a, b, c⟩ := C.ex
  exact pd_callS n (Er := Ed0) we0 F hr a b c hx ha hg hdb he hpl
/-- a new list of a def, owned from here on -/
theorem pd_cNF (n : Nat) {g : NF} (hmono : MonoN g) (C : Cal Y.prog Y.w Y.K Y.mg Y.base CX' x k ps (NFd g)) (hr : RoomG k Y.A) (hx : Passes CX' Y E) (hW : ∀ N, W N → WE Y.K E Er N)
    (ha : PAD Y W (e :: es) dr) (hg : Gl Y x := by rfl) (hdb : (x == ("__debug__" : Str)) = false := by decide) (he : starEach (e :: es) Y.env = (false, eval e Y.env) :: starEach es Y.env := by rfl) (hpl : (backTo pos (starEach es Y.env)).any (·.1) = false := by rfl) :
    PD Y W (.Call (.Name x p) (e :: es) [] pos) (dcallN n false g Er dr) := by
  obtain ⟨f, fdt, F, a, b, c⟩ := C.ex
  obtain ⟨t, h1, s1⟩ := ha.ex
  refine ⟨_, pe_callG F hr hg a b c hx h1 hdb he hpl, fun N O M δ σ H Q Qd w S L h kk => ?_⟩
  refine s1 N O M δ σ H _ _ w S L h fun O1 M1 H1 xs vs n1 r1 h => ?_
  have S1 := n1.st
  have sub : Sub m0 M1 := fun _ _ z => nomatch z
  refine ⟨O1, m0, xs.map (vw m0 M1 n), fun y M' => ∃ p zs, y = .ptr p ∧ M' = mset m0 p (.lst zs) ∧ Qd (.lst true zs) M1, fun C ns ys M' => M' = m0 ∧ Er C ns ys M1, S1.enter sub, by rw [List.append_nil]; exact vwA_ok S1 sub n r1, ⟨rfl, hmono _ _ _ _ (fun zs hq p _ => ⟨p, zs, rfl, rfl, hq⟩) ?_⟩, ?_, ?_⟩
  · have e0 : (fun (C : Addr) (ns : List Str) (ys : List DL.X) => (m0 = m0) ∧ Er C ns ys M1) = fun C ns ys => Er C ns ys M1 := by
      funext C ns ys
      exact propext ⟨fun h => h.2, fun h => ⟨rfl, h⟩⟩
    rw [e0]
    exact h
  · intro O' M' H' y v S' r' oy om q
    obtain ⟨p, zs, rfl, rfl, q⟩ := q
    have n2 := S1.back sub S' om
    rw [mun_new] at n2
    obtain ⟨O2, T, eo, r2⟩ := n2.st.freeze (p := p) mset_same
    have pm : M1 p = none := by
      rcases S'.mf p _ mset_same with z | z
      · exact S1.mnone z
      · exact absurd rfl z
    rw [mdel_mset, mdel_of pm] at T
    have rv : v = .ref p := by simpa only [Rp] using r'
    rw [rv]
    exact kk O2 M1 H' _ _ (n1.trans ⟨T, n2.eo.trans eo⟩) r2 q
  · intro O' M' H' C d ns ys S' r' oy om q
    obtain ⟨rfl, q⟩ := q
    have n2 := S1.back sub S' om
    rw [mun_m0] at n2
    refine hW N w O' _ H' C d ns ys n2.st ?_ q
    unfold ErrRep at r' ⊢
    split at r'
    · exact r'
    · obtain ⟨a, vs', e1, e2, e3, r'⟩ := r'
      exact ⟨a, vs', e1, e2, e3, r'.own ys oy⟩
end

/-! ### ends -/
theorem rt_pure {Qd : VKd} {y : X} {M : Mu} (o : own y = true) (h : Qd y m0) : rtK Qd y M := by
  have h1 : Sub m0 M := fun _ _ z => nomatch z
  have h2 : ownM m0 := fun _ _ z => nomatch z
  exact ⟨m0, h1, o, h2, h⟩
theorem rt_new {Qd : VKd} {p : Addr} {zs : List X} {M : Mu} (e : M p = some (.lst zs)) (o : ownA zs = true) (h : Qd (.ptr p) (mset m0 p (.lst zs))) : rtK Qd (.ptr p) M := by
  have h1 : Sub (mset m0 p (.lst zs)) M := fun a c q => by
    by_cases z : a = p
    · rw [z, mset_same] at q; rw [z, e]; exact q
    · rw [mset_ne z] at q; cases q
  have h2 : ownM (mset m0 p (.lst zs)) := fun a c q => by
    by_cases z : a = p
    · rw [z, mset_same] at q; cases q; exact o
    · rw [mset_ne z] at q; cases q
  exact ⟨_, h1, rfl, h2, h⟩
theorem rt_st {Qd : VKd} {y : X} {M0 M : Mu} {st : Addr} {nums : List Int} {k : Int} (h0 : ∀ a, a ≠ st → M0 a = none) (e : M st = some (stC nums k)) (o : own y = true) (h : Qd y (mset M0 st (stC nums k))) : rtK Qd y M := by
  have h1 : Sub (mset M0 st (stC nums k)) M := fun a c q => by
    by_cases z : a = st
    · rw [z, mset_same] at q; rw [z, e]; exact q
    · rw [mset_ne z, h0 a z] at q; cases q
  have h2 : ownM (mset M0 st (stC nums k)) := fun a c q => by
    by_cases z : a = st
    · rw [z, mset_same] at q; cases q
      show ownA [.lst true (nums.map .int), .int k] = true
      simp only [ownA, own, ownA_map X.int (fun _ => rfl), Bool.and_self]
    · rw [mset_ne z, h0 a z] at q; cases q
  exact ⟨_, h1, o, h2, h⟩
end DL

set_option maxRecDepth 100000
/-! DLg: the built-in names. -/
namespace DL
open PySem PySem.Spec PyProof.Rows L2
structure Blt (mg : Str → Option Value) : Prop where
  len : mg "len" = none
  abs : mg "abs" = none
  int : mg "int" = none
  range : mg "range" = none
  list : mg "list" = none
  isinstance : mg "isinstance" = none
  sorted : mg "sorted" = none
  set : mg "set" = none
  repr : mg "repr" = none
end DL

set_option maxRecDepth 100000
/-! DLh: lemmas that reckon. -/
namespace DL
open PySem PySem.Spec PyProof.Rows L2
section
variable {α : Type}
theorem atI_zero {x : α} {xs : List α} : atI (x :: xs) 0 = some x := atI_nat (j := 0) rfl
theorem atI_one {x y : α} {xs : List α} : atI (x :: y :: xs) 1 = some y := atI_nat (j := 1) rfl
theorem atI_two {x y z : α} {xs : List α} : atI (x :: y :: z :: xs) 2 = some z := atI_nat (j := 2) rfl
theorem atI_three {x y z w : α} {xs : List α} : atI (x :: y :: z :: w :: xs) 3 = some w := atI_nat (j := 3) rfl
theorem atI_map {β : Type} (f : β → α) {xs : List β} {i : Int} (h0 : 0 ≤ i) (h : i < xs.length) (d : β) : atI (xs.map f) i = some (f (xs.getD i.toNat d)) := by
  obtain ⟨j, rfl⟩ : ∃ j : Nat, i = j := ⟨i.toNat, by omega⟩
  have hj : j < xs.length := by omega
  refine atI_nat ?_
  rw [List.getElem?_map, List.getElem?_eq_getElem hj]
  simp [List.getD, List.getElem?_eq_getElem hj]
theorem ixN_of {n : Nat} {i : Int} (h0 : 0 ≤ i) (h : i < n) : ixN n i = some i.toNat := by
  unfold ixN
  rw [if_pos h0, if_pos h]
theorem ixN_zero {n : Nat} : ixN (n + 1) 0 = some 0 := ixN_of (by omega) (by omega)
theorem ixN_one {n : Nat} : ixN (n + 1 + 1) 1 = some 1 := ixN_of (by omega) (by omega)
end

/-! ### loops, by a word of the turn; R: what the rest of the loop is worth -/
theorem dfor_ix {g : DG} {b : DS} {c : Mu → Prop} {DD : EndsD} {xs : List X} {δ : Dl} {M : Mu} (I : Nat → Dl → Mu → Prop) (h0 : I 0 δ M) (hnil : ∀ δ M, I xs.length δ M → c M ∧ DD.nx δ M)
    (hstep : ∀ (i : Nat) (x : X) (δ : Dl) (M : Mu) (R : Dl → Mu → Prop), xs[i]? = some x → I i δ M → (∀ δ' M', I (i + 1) δ' M' → R δ' M') → c M ∧ g x δ M fun δ1 M1 => b { DD with nx := R, ct := R, bk := DD.nx } δ1 M1) : dfor g b c xs DD δ M := by
  have go : ∀ (m i : Nat) (δ : Dl) (M : Mu), m + i = xs.length → I i δ M → dfor g b c (xs.drop i) DD δ M := by
    intro m
    induction m with
    | zero =>
      intro i δ M e h
      have e' : i = xs.length := by omega
      subst e'
      rw [List.drop_length]
      exact hnil δ M h
    | succ m ih =>
      intro i δ M e h
      have hi : i < xs.length := by omega
      rw [List.drop_eq_getElem_cons hi]
      exact hstep i _ δ M _ (List.getElem?_eq_getElem hi) h fun δ' M' h' => ih (i + 1) δ' M' (by omega) h'
  have := go xs.length 0 δ M (by omega) h0
  rwa [List.drop_zero] at this
/-- over f 0, f 1, .. -/
theorem dfor_rng {g : DG} {b : DS} {c : Mu → Prop} {DD : EndsD} {n : Nat} {f : Nat → X} {δ : Dl} {M : Mu} (I : Nat → Dl → Mu → Prop) (h0 : I 0 δ M) (hnil : ∀ δ M, I n δ M → c M ∧ DD.nx δ M)
    (hstep : ∀ (i : Nat) (δ : Dl) (M : Mu) (R : Dl → Mu → Prop), i < n → I i δ M → (∀ δ' M', I (i + 1) δ' M' → R δ' M') → c M ∧ g (f i) δ M fun δ1 M1 => b { DD with nx := R, ct := R, bk := DD.nx } δ1 M1) : dfor g b c ((List.range n).map f) DD δ M := by
  refine dfor_ix I h0 (fun δ M h => hnil δ M (by simpa using h)) fun i x δ M R e h k => ?_
  have hi : i < n := by
    have := (List.getElem?_eq_some_iff.mp e).1
    simpa using this
  have ex : x = f i := by
    rw [List.getElem?_map, List.getElem?_range hi] at e
    exact (Option.some.inj e).symm
  rw [ex]
  exact hstep i δ M R hi h k
/-- over the items of a list of data -/
theorem dfor_map {α : Type} {g : DG} {b : DS} {c : Mu → Prop} {DD : EndsD} {as : List α} {f : α → X} {δ : Dl} {M : Mu} (I : Nat → Dl → Mu → Prop) (h0 : I 0 δ M) (hnil : ∀ δ M, I as.length δ M → c M ∧ DD.nx δ M)
    (hstep : ∀ (i : Nat) (a : α) (δ : Dl) (M : Mu) (R : Dl → Mu → Prop), as[i]? = some a → I i δ M → (∀ δ' M', I (i + 1) δ' M' → R δ' M') → c M ∧ g (f a) δ M fun δ1 M1 => b { DD with nx := R, ct := R, bk := DD.nx } δ1 M1) : dfor g b c (as.map f) DD δ M := by
  refine dfor_ix I h0 (fun δ M h => hnil δ M (by simpa using h)) fun i x δ M R e h k => ?_
  rw [List.getElem?_map] at e
  cases ea : as[i]? with
  | none => rw [ea] at e; cases e
  | some a =>
    rw [ea] at e
    have ex : f a = x := Option.some.inj e
    rw [← ex]
    exact hstep i a δ M R ea h k
/-- comprehensions: the turns one after another -/
theorem dlc_ix {g : DG} {t : DT} {e : DE} {c : Mu → Prop} {δ0 : Dl} {xs : List X} {M : Mu} {Q : List X → Mu → Prop} (I : Nat → List X → Mu → Prop) (h0 : I 0 [] M) (hnil : ∀ acc M, I xs.length acc M → c M ∧ Q acc M)
    (hstep : ∀ (i : Nat) (x : X) (acc : List X) (M : Mu) (R : List X → Mu → Prop), xs[i]? = some x → I i acc M → (∀ acc' M', I (i + 1) acc' M' → R acc' M') → c M ∧ g x δ0 M fun δ1 M1 => t δ1 M1 fun b M2 => match b with
      | true => e δ1 M2 fun y M3 => acc.length < sizeLine ∧ R (acc ++ [y]) M3
      | false => R acc M2) : dlcGo g t e c δ0 xs [] M Q := by
  have go : ∀ (m i : Nat) (acc : List X) (M : Mu), m + i = xs.length → I i acc M → dlcGo g t e c δ0 (xs.drop i) acc M Q := by
    intro m
    induction m with
    | zero =>
      intro i acc M e h
      have e' : i = xs.length := by omega
      subst e'
      rw [List.drop_length]
      exact hnil acc M h
    | succ m ih =>
      intro i acc M ee h
      have hi : i < xs.length := by omega
      rw [List.drop_eq_getElem_cons hi]
      exact hstep i _ acc M (fun acc M => dlcGo g t e c δ0 (xs.drop (i + 1)) acc M Q) (List.getElem?_eq_getElem hi) h fun acc' M' h' => ih (i + 1) acc' M' (by omega) h'
  have := go xs.length 0 [] M (by omega) h0
  rwa [List.drop_zero] at this
/-- [e for x in ..] where each turn's value is a function of the item and nothing mutable turns -/
theorem dlc_map {α : Type} {g : DG} {e : DE} {c : Mu → Prop} {δ0 : Dl} {as : List α} {f : α → X} {v : α → X} {M : Mu} {Q : List X → Mu → Prop} (hl : as.length ≤ 1000000) (hc : c M) (hq : Q (as.map v) M)
    (hstep : ∀ (a : α) (R : X → Mu → Prop), a ∈ as → R (v a) M → g (f a) δ0 M fun δ1 M1 => e δ1 M1 R) : dlcGo g dyes e c δ0 (as.map f) [] M Q := by
  refine dlc_ix (fun i acc M' => M' = M ∧ acc = (as.take i).map v) ⟨rfl, rfl⟩ (fun acc M' h => ?_) fun i x acc M' R ex h k => ?_
  · obtain ⟨rfl, rfl⟩ := h
    refine ⟨hc, ?_⟩
    rw [List.length_map, List.take_length]
    exact hq
  · obtain ⟨rfl, rfl⟩ := h
    rw [List.getElem?_map] at ex
    cases ea : as[i]? with
    | none => rw [ea] at ex; cases ex
    | some a =>
      rw [ea] at ex
      have ex' : f a = x := Option.some.inj ex
      subst ex'
      refine ⟨hc, ?_⟩
      have hm : a ∈ as := List.mem_of_getElem? ea
      have hi := (List.getElem?_eq_some_iff.mp ea).1
      refine hstep a _ hm ⟨?_, k _ _ ⟨rfl, ?_⟩⟩
      · rw [List.length_map, List.length_take, sizeLine_eq]
        omega
      · rw [List.take_add_one, ea, List.map_append]
        rfl
theorem dlc_rng {n : Nat} {g : DG} {e : DE} {c : Mu → Prop} {δ0 : Dl} {f : Nat → X} {v : Nat → X} {M : Mu} {Q : List X → Mu → Prop} (hl : n ≤ 1000000) (hc : c M) (hq : Q ((List.range n).map v) M)
    (hstep : ∀ (i : Nat) (R : X → Mu → Prop), i < n → R (v i) M → g (f i) δ0 M fun δ1 M1 => e δ1 M1 R) : dlcGo g dyes e c δ0 ((List.range n).map f) [] M Q :=
  dlc_map (as := List.range n) (by rw [List.length_range]; exact hl) hc hq fun a R ha => hstep a R (List.mem_range.mp ha)
/-- a comprehension over a range whose elements change the state -/
theorem dlc_rngI {n : Nat} {g : DG} {e : DE} {c : Mu → Prop} {δ0 : Dl} {f : Nat → X} {M : Mu} {Q : List X → Mu → Prop} (I : Nat → List X → Mu → Prop) (h0 : I 0 [] M) (hnil : ∀ acc M, I n acc M → c M ∧ Q acc M)
    (hstep : ∀ (i : Nat) (acc : List X) (M : Mu) (R : List X → Mu → Prop), i < n → I i acc M → (∀ acc' M', I (i + 1) acc' M' → R acc' M') → c M ∧ g (f i) δ0 M fun δ1 M1 => e δ1 M1 fun y M3 => acc.length < sizeLine ∧ R (acc ++ [y]) M3) :
    dlcGo g dyes e c δ0 ((List.range n).map f) [] M Q := by
  refine dlc_ix I h0 (fun acc M h => hnil acc M (by simpa using h)) fun i x acc M R ex h k => ?_
  have hi : i < n := by
    have := (List.getElem?_eq_some_iff.mp ex).1
    simpa using this
  have e1 : x = f i := by
    rw [List.getElem?_map, List.getElem?_range hi] at ex
    exact (Option.some.inj ex).symm
  subst e1
  exact hstep i acc M R hi h k
end DL

set_option maxRecDepth 100000
set_option maxHeartbeats 2000000
/-! EXa: an own exception class over ValueError whose __init__ begins with super().__init__(text). -/
namespace L2
open PySem PySem.Spec PyProof.Rows

/-- names: the parameters first; one free name, __class__ -/
structure SupScope (N P : List Str) (sc : Scope) : Prop where
  kind : sc.kind = .function
  co : sc.isCoroutine = false
  gen : sc.isGenerator = false
  nd : N.Nodup
  pre : N.take P.length = P
  par : ∀ x ∈ P, sc.names.lookup x = some .local
  nocell : ∀ y ∈ sc.names, y.2 ≠ .cell
  free : ∀ y ∈ sc.names, y.2 = .free → y.1 = ("__class__" : Str)

def cxSup (CX : CXT) (P : Program) (w : World) (K : PySem.W.Frag) (mg : Str → Option Value) (base : Heap) (N : List Str) (qual : Str) (scope : Scope) (f : Addr) (cd : Value) (cc : Addr) (A : Around) (outer : List Env) (s : Shared) (H : Hp) (E : XK) : Cx where
  prog := P
  w := w
  K := K
  mg := mg
  base := base
  A := A.deeper (PySem.W.ksEnv qual scope s.heap.objs.size f cd cc)
  N := N
  s_0 := s
  H_0 := H
  env := PySem.W.ksEnv qual scope s.heap.objs.size f cd cc
  outer := outer
  stack := PySem.W.ksEnv qual scope s.heap.objs.size f cd cc :: outer
  ex := []
  calm := true
  fn := fun _ => false
  pn := []
  xe := fun e s' => wpAny (model P w) (A.deeper (PySem.W.ksEnv qual scope s.heap.objs.size f cd cc)) (leaving (PySem.W.ksEnv qual scope s.heap.objs.size f cd cc) e) (fun _ s'' => CX outer H s E e s'') (fun e' s'' => CX outer H s E e' s'') s'

theorem lk_class {cc c : Addr} {x : Str} (h : ([(("__class__" : Str), cc)] : List (Str × Addr)).lookup x = some c) : x = ("__class__" : Str) ∧ c = cc := by
  simp only [List.lookup] at h
  split at h
  · rename_i e
    exact ⟨by simpa using e, (Option.some.inj h).symm⟩
  · cases h

theorem lookupB_get : ∀ {P : List Str} {us : List Value} {i : Nat} {x : Str} {u : Value}, P.Nodup → P[i]? = some x → us[i]? = some u → (P.zip us).reverse.lookup x = some u := by
  intro P us i x u nd h1 h2
  have key : ∀ {l : List (Str × Value)} {x : Str} {u : Value}, (l.map (·.1)).Nodup → (x, u) ∈ l → l.lookup x = some u := by
    intro l
    induction l with
    | nil => intro x u _ h; cases h
    | cons p l ih =>
      intro x u nd h
      obtain ⟨y, v⟩ := p
      rw [List.map_cons, List.nodup_cons] at nd
      by_cases e : x = y
      · subst e
        rcases List.mem_cons.mp h with h | h
        · cases h
          simp [List.lookup]
        · refine absurd (List.mem_map.mpr ⟨(x, u), ?_, rfl⟩ : x ∈ l.map (·.1)) nd.1
          exact h
      · have hne : (x == y) = false := by simpa using e
        simp only [List.lookup, hne]
        rcases List.mem_cons.mp h with h | h
        · cases h
          exact absurd rfl e
        · exact ih nd.2 h
  have hz : (x, u) ∈ P.zip us := by
    refine List.mem_of_getElem? (i := i) ?_
    rw [List.getElem?_zip_eq_some]
    exact ⟨h1, h2⟩
  refine key ?_ (List.mem_reverse.mpr hz)
  rw [List.map_reverse]
  refine List.pairwise_reverse.mpr ?_
  have zs : ∀ (P : List Str) (us : List Value), ((P.zip us).map (·.1)).Sublist P := by
    intro P
    induction P with
    | nil => intro us; simp
    | cons p P ih =>
      intro us
      cases us with
      | nil => simp
      | cons u us => exact (ih us).cons_cons p
  have := zs P us
  exact (nd.sublist this).imp fun h e => h e.symm

theorem inv_sup {CX : CXT} {P : Program} {w : World} {K : PySem.W.Frag} {mg : Str → Option Value} {base : Heap} {N ps : List Str} {qual : Str} {scope : Scope} {f cc : Addr} {cd cl cv : Value} {cld : Option Addr} {csl : Array (Option Value)} {A : Around} {outer : List Env} {s : Shared} {h1 : Heap} {H : Hp} {E : XK} {us : List Value} {vs : List V}
    (S : SupScope N ps scope) (hcell : K.lookup cc = some ⟨cl, cld, .cell (some cv), csl⟩) (hd : A.handled = none) (e0 : Env0 P w K mg base A outer s H) (hl : vs.length = ps.length) (r : Vals vs us)
    (hn : h1.Ns s.heap.objs.size (fun x => (ps.zip us).reverse.lookup x)) (hk : ∀ b o, s.heap.get? b = some o → h1.get? b = some o) {t' : Nat} :
    Inv (cxSup CX P w K mg base N qual scope f cd cc A outer s H E) [] (start N vs) H { s with heap := h1, toks := t' } := by
  have hpl : ps.length ≤ N.length := by have := congrArg List.length S.pre; rw [List.length_take] at this; omega
  have noA : ∀ b : Addr, b ∉ (cxSup CX P w K mg base N qual scope f cd cc A outer s H E).ex := fun b z => absurd (show b ∈ ([] : List Addr) from z) (by simp)
  have hcb := e0.mod.kin _ _ hcell
  have hcs := (e0.bs _ _ hcb)
  refine ⟨⟨e0.mod, S.kind, rfl, rfl, Nat.le_refl _, fun y z c h1 h2 => ?_, fun y hy => ?_, fun y c hf h => ?_, fun _ => hd, Around.frames_deeper e0.frames, .inr ⟨rfl, rfl⟩, fun b z => absurd z (noA b), e0.bs, e0.bsz, fun b _ _ => noA b, fun b z => absurd z (noA b), e0.funs, e0.frf⟩,
    rfl, e0.bare, Un.kept hk, ⟨_, hn, fun i y v h1 h2 h3 => ?_⟩, fun y c h => ?_, e0.hok.fresh (Nat.le_refl _), fun y c h => ?_, fun p hp => absurd (show p ∈ ([] : List (Addr × Obj)) from hp) (by simp), e0.hok.kept hk, ?_⟩
  · exact (lk_class h1).1.trans (lk_class h2).1.symm
  · have hy : scope.names.lookup y = some .cell ∨ scope.names.lookup y = some .free := hy
    rcases hy with hy | hy
    · exact absurd rfl (S.nocell _ (PySem.mem_of_lookup hy))
    · have := S.free _ (PySem.mem_of_lookup hy) rfl
      dsimp only at this
      subst this
      exact ⟨cc, by show ([(("__class__" : Str), cc)] : List (Str × Addr)).lookup _ = _; simp [List.lookup]⟩
  · exact absurd (show false = true from hf) Bool.false_ne_true
  · have hi : i < vs.length := by
      unfold start at h2
      by_cases hi : i < vs.length
      · exact hi
      · rw [List.getElem?_append_right (by simpa using hi)] at h2
        rw [List.getElem?_replicate] at h2
        split at h2 <;> cases h2
    have ha : vs[i]? = some v := by
      unfold start at h2
      rw [List.getElem?_append_left (by simpa using hi), List.getElem?_map] at h2
      cases e : vs[i]? with
      | none => rw [e] at h2; cases h2
      | some a => rw [e] at h2; cases h2; rfl
    obtain ⟨u, hu, rv⟩ := r.get ha
    have hp : ps[i]? = some y := by
      rw [← S.pre, List.getElem?_take_of_lt (by omega)]; exact h1
    have ndP : ps.Nodup := by rw [← S.pre]; exact S.nd.sublist (List.take_sublist _ _)
    exact ⟨u, rv, .inl ⟨S.par y (List.mem_of_getElem? hp), lookupB_get ndP hp hu⟩⟩
  · obtain ⟨_, rfl⟩ := lk_class h
    exact ⟨_, _, hk _ _ hcs.1, rfl⟩
  · obtain ⟨_, rfl⟩ := lk_class h
    exact hcs.2
  · unfold start
    show _ = N.length
    rw [List.length_append, List.length_map, List.length_replicate]
    omega

/-- what the written part says of the class C and its __init__ at f -/
structure SupC (P : Program) (K : PySem.W.Frag) (mg : Str → Option Value) (scope : Scope) (params : Arguments) (f C cc cda : Addr) : Prop where
  code : ∃ ccl cdd vs ccs file tf, K.lookup cda = some ⟨ccl, cdd, .fields vs, ccs⟩ ∧ vs[2]? = some (.str file tf) ∧ ((P.main.file : Str) == file) = true
  cell : ∃ cl cld csl, K.lookup cc = some ⟨cl, cld, .cell (some (.ref C)), csl⟩
  self : ∃ ar, (params.posonlyargs ++ params.args).head? = some ar ∧ ar.arg = ("self" : Str)
  sub : PySem.W.mroIn K C (.ref C) = some true
  sup : mg "super" = none
  nmS : scope.names.lookup ("super" : Str) = some .globalImplicit
  nmC : scope.names.lookup ("__class__" : Str) = some .free
  nmI : scope.names.lookup ("self" : Str) = some .local
  top : (P.main.scope.names.lookup ("super" : Str)).isSome = false
  opq : PySem.W.nsIn K cStatics "thirdparty.any" = some none
  ini : PySem.W.ks_superIn K C C "__init__" = some (some (.builtin "ValueError.__init__"))
  isV : PySem.W.subIn K (.ref C) (.type "ValueError") = some true
  oex : OexC K C

section
variable {prog : Program} {w : World} {A : Around} {E : Value → Shared → Prop} {h : Heap} {g : Array GenState} {d : Drawn} {t : Nat} {os : OsState}
/-- the wrapper of ValueError.__init__ called -/
theorem call_mw {nm q : Str} {C N : Addr} {bs bm : List Value} {hdct : Bool} {sn : List Str} {sub : List Value} {ab : Bool} {col : Option Bool} {dd : Option Addr} {k0 k1 k2 k3 k5 : Option Value} {u x t0 : Addr} {rest : List Value} {Q : Value → Shared → Prop}
    (hC : h.get? C = some (excClassObj nm q C N bs bm hdct sn sub ab col dd k0 k1 k2 k3 k5 "ValueError.__new__")) (he : h.get? x = some (PySem.W.excObj C t0 none .none)) (hu : h.get? u = some (PySem.W.kxs_mw "ValueError.__init__" x)) (hrest : rest.length ≤ sizeLine)
    (hq : ∀ h' t1, (∀ b o, b ≠ x → h.get? b = some o → h'.get? b = some o) → h'.get? x = some (PySem.W.excObj C t1 none .none) → Q .none ⟨h', g, d, t, os⟩) :
    wpAny (model prog w) A (call (.ref u) rest) Q E ⟨h, g, d, t, os⟩ := by
  refine wpAny_call (codeAny_of_tree ?_)
  show wpAny _ A.in1 (callAny (.ref u) ⟨rest, []⟩) _ _ _
  simp only [callAny]
  refine wpAny_bind (wpAny_load hu ?_)
  simp only [PySem.W.kxs_mw, show (Value.type "method-wrapper" == Value.type "method" || Value.type "method-wrapper" == Value.type "builtin_function_or_method" || Value.type "method-wrapper" == Value.type "method-wrapper") = true by decide, if_true]
  refine PySem.W.KFB.if_so (by decide) ?_
  refine wpAny_bind (PySem.W.check_bound_init F.excBase_ValueError.toExcCallFacts hC he rfl ?_)
  refine wpAny_bind (wpAny_pure (wpAny_pure ?_))
  refine ⟨plainId_quiet F.excBase_ValueError.init.plain _, codeAny_builtin F.excBase_ValueError.initEntry ?_⟩
  exact PySem.W.exc_init_tree (cls := .ref C) (t0 := t0) (dv := none) (c2 := .none) (c3 := .none) (b4 := .bool false) he hrest fun h' k e' t' => hq h' _ k e'
end

section
variable {X : Cx} {qual : Str} {scope : Scope} {params : Arguments} {f C cc cda a : Addr} {σ : St} {H : Hp} {s : Shared}
theorem ss_super {body : List Stmt} {fd : FuncData} {oc : Value} {od : Option Addr} {osl : Array (Option Value)} {L : Addr} {msg : Expr} {tm : TE} {p0 p1 p2 p3 p4 : Pos} {Q : Flow → Shared → Prop}
    (hX : X.env = PySem.W.ksEnv qual scope L f (.ref cda) cc) (hk : scope.kind = .function) (T : SupC X.prog X.K X.mg scope params f C cc cda)
    (lk : X.K.lookup f = some ⟨oc, od, .func fd, osl⟩) (hpar : fd.params = params)
    (I : Inv X [] σ H s) (ea : H a = some (exo a C none)) (hself : X.N[0]? = some ("self" : Str)) (hσ : σ[0]? = some (some (.ref a)))
    {R : Hp → Prop} (hm : PE X msg tm) (h : tm σ H fun _ H1 => H1 a = some (exo a C none) ∧ R H1) (hR : ∀ H1 s', Inv X [] σ H1 s' → R H1 → Q .next s')
    (hsw : swapsWith (.Call (.Attribute (.Call (.Name "super" p0) [] [] p1) "__init__" p2) [msg] [] p3) none p4.line X.env = pure false := by rfl)
    (hev : ∃ pl : Sem Bool, eval (.Call (.Attribute (.Call (.Name "super" p0) [] [] p1) "__init__" p2) [msg] [] p3) X.env = (do
      let ov ← attributeBase (.Call (.Name "super" p0) [] [] p1) "__init__" X.env (eval (.Call (.Name "super" p0) [] [] p1) X.env)
      standAt p2.atName
      let (f, first) ← holding [ov] (getMethod ov "__init__" pl)
      callWith p3 f first (backTo p3 (starEach [msg] X.env)) []))
    (hst : starEach [msg] X.env = (false, eval msg X.env) :: starEach [] X.env := by rfl) :
    _root_.PySem.wpAt (model X.prog X.w) X.A (.func body X.env) (exec (.Expr (.Call (.Attribute (.Call (.Name "super" p0) [] [] p1) "__init__" p2) [msg] [] p3) p4) X.env) Q X.xe s := by
  obtain ⟨ccl, cdd, vs, ccs, file, tf, hcode, hvs, hfile⟩ := T.code
  obtain ⟨cl, cld, csl, hcell⟩ := T.cell
  obtain ⟨ar, hp, har⟩ := T.self
  obtain ⟨nm, q, N, bs, bm, sn, sub, ab, col, dd, k0, k1, k2, k3, k5, hC, hbm⟩ := T.oex.cls
  have hcl : PySem.W.clsIn X.K C = some { name := nm, bases := bs, mro := .ref C :: bm, ns := N, qualname := q, hasDict := true, slotNames := sn, subclasses := sub, abstract := ab, collection := col, hasDel := false } := by unfold PySem.W.clsIn; rw [hC] <;> rfl
  have KX := I.kIn
  obtain ⟨t1, ho⟩ := exo_at I.hok ea
  have hkk : X.env.scope.kind = .function := I.ok.kind
  have hks : X.env.kindOf "super" = some .globalImplicit := by rw [hX]; exact T.nmS
  have hkc : X.env.kindOf "__class__" = some .free := by rw [hX]; exact T.nmC
  have hki : X.env.kindOf "self" = some .local := by rw [hX]; exact T.nmI
  have hlc : X.env.cells.lookup ("__class__" : Str) = some cc := by rw [hX]; show ([(("__class__" : Str), cc)] : List (Str × Addr)).lookup _ = _; simp [List.lookup]
  have hfun : X.env.func = some f := by rw [hX]
  have hcdv : X.env.code = .ref cda := by rw [hX]
  have hsub := T.sub
  refine PySem.ks_wpAt_Expr_any ?_ I.quiet hsw
  obtain ⟨pl, hev⟩ := hev
  refine PySem.ks_wpAt_MethodCall (pl := pl) ?_ hev
  subst hpar
  refine PySem.ks_wpAt_super_base hks hkc (by decide) hfun (KX _ _ lk) rfl hp hcdv (KX _ _ hcode) rfl hvs hfile T.top ?_
  obtain ⟨mb, hb1, hb2⟩ := I.mod.blt
  refine PySem.W.ks_loadName_global hkk hks (Calls.loadGlobal_builtin (by rw [I.ok.glob]; exact I.mod.glob.keeps I.bk) T.sup (by rw [I.ok.blt]; exact hb1.keeps I.bk) ((hb2 _ (by decide)).trans (by first | rfl | kernel_rfl)) ⟨rfl, ?_⟩)
  refine wpAny_loadName_free hkk hkc hlc ⟨_, KX _ _ hcell, rfl⟩ ?_
  obtain ⟨m, hns, hloc⟩ := I.loc
  obtain ⟨u, ru, hu⟩ := hloc 0 "self" (.ref a) hself hσ (by rw [hX]; exact .inl T.nmI)
  obtain rfl : u = Value.ref a := ru
  have hmv : m "self" = some (.ref a) := by
    rcases hu with ⟨_, hu⟩ | ⟨hu, _⟩
    · exact hu
    · rw [hki] at hu
      rcases hu with hu | hu <;> cases hu
  rw [har]
  refine wpAny_loadName_local hkk hki hns hmv ?_
  refine PySem.ks_wpAny_isType_cls (KX _ _ hC) rfl ⟨rfl, ?_⟩
  obtain ⟨hh, g, d, t, os⟩ := s
  refine PySem.ks_wpAny_call_super (KX _ _ hC) rfl ho rfl (fun c e => nomatch e) (PySem.W.looks_mroIn KX hsub) (fun h' e k => ?_)
  have I1 : Inv X [] σ H ⟨h', g, d, t, os⟩ := I.kept (t' := t) k
  have KX1 := I1.kIn
  have hini := T.ini
  unfold PySem.W.ks_superIn at hini
  rw [hcl] at hini
  have J : PySem.W.InstAt h' a { cls := .ref C, dict := none, data := .fields #[.ref t1, .none, .none, .none, .bool false, .none] } C none := ⟨k _ _ ho, rfl, rfl, trivial⟩
  refine PySem.W.kxs_getMethod PySem.W.kxs_ValueError e (PySem.W.looks_opaque KX1 T.opq) (l₀ := .ref C :: bm) ?_ rfl KX1 hini (J.type.andThen (PySem.W.looks_subIn KX1 T.isV)) (PySem.W.ks_ne KX1 J hcl) (by decide) ?_
  · exact fun A Q E s k q => wpAny_bind ((PySem.W.looks_clsIn KX1 hcl) A _ E s k (wpAny_pure q))
  have I2 : Inv X [] σ H ⟨h'.push (PySem.W.kxs_mw "ValueError.__init__" a), g, d, t + 1, os⟩ := I1.kept (t' := t + 1) fun b o z => Heap.get?_push_of_some _ z
  have hmw : (h'.push (PySem.W.kxs_mw "ValueError.__init__" a)).get? h'.objs.size = some (PySem.W.kxs_mw "ValueError.__init__" a) := Heap.get?_push_at rfl rfl
  have hfr : H h'.objs.size = none := I1.hok.fresh (Nat.le_refl _)
  have I3 : Inv X [(h'.objs.size, PySem.W.kxs_mw "ValueError.__init__" a)] σ H ⟨h'.push (PySem.W.kxs_mw "ValueError.__init__" a), g, d, t + 1, os⟩ := I2.pins_of fun p hp => by
    rcases List.mem_cons.mp hp with rfl | hp
    · refine ⟨hmw, hfr, Nat.ne_of_gt I1.lt, I1.nofs (Nat.le_refl _), fun v z => nomatch z⟩
    · exact absurd hp (by simp)
  show wpAny _ _ (callWith p3 (Value.ref h'.objs.size) [] (backTo p3 (starEach [msg] X.env)) []) _ _ _
  refine PySem.W.kxs_callWith (i := "ValueError.__init__") (x := a) (by rw [hst]; rfl) ?_
  rw [hst]
  refine PySem.Calls.evalArgs_plain ?_
  refine Calls.spliced_cons (thn (hm.run _ _ σ H _ I3 h) fun u s1 ⟨v, H1, I4, r1, ea1, q1⟩ => ?_)
  refine Calls.spliced_nil ?_
  have hpin := (I4.pin _ (List.mem_append.mpr (.inr List.mem_cons_self))).1
  refine ⟨hpin, ?_⟩
  obtain ⟨t2, ho2⟩ := exo_at I4.hok ea1
  obtain ⟨hp1, g1, d1, tk1, os1⟩ := s1
  refine call_mw (I4.kIn _ _ hC) ho2 hpin (by show 1 ≤ sizeLine; rw [sizeLine_eq]; omega) (fun h2 t3 k2 hx => ?_)
  have I5 : Inv X [] σ H1 ⟨hp1, g1, d1, tk1, os1⟩ := I4.pins_of fun p hp => absurd hp (by simp)
  have J := I5.write (t' := tk1) (x := a) (e := a) (o := exo a C none) (by rw [ea1]; exact True.intro) (.inl rfl) k2 ⟨_, hx⟩ (exo_ok hx)
  have eu : upd H1 a (exo a C none) = H1 := by
    funext b
    by_cases hb : b = a
    · rw [hb, upd_same, ea1]
    · rw [upd_ne hb]
  rw [eu] at J
  exact hR _ _ J q1
end

section
variable {CX : CXT} {P : Program} {w : World} {K : PySem.W.Frag} {mg : Str → Option Value} {base : Heap}
/-- THE RULE: __init__ of an own exception class -/
theorem fn_sup {k : Nat} {f C cc cda : Addr} {name qual : Str} {params : Arguments} {msg : Expr} {rest : List Stmt} {scope : Scope} {dV kV doc pm ct oc : Value} {an od : Option Addr} {osl : Array (Option Value)} {N ps : List Str} {sp : Sp} {p0 p1 p2 p3 p4 : Pos}
    (lk : K.lookup f = some ⟨oc, od, .func (PySem.W.ksFn name qual params (.Expr (.Call (.Attribute (.Call (.Name "super" p0) [] [] p1) "__init__" p2) [msg] [] p3) p4 :: rest) scope dV kV doc pm an (.ref cda) ct cc), osl⟩)
    (hcd : PySem.W.codeIn K (.ref cda) qual = true) (S : SupScope N ps scope) (T : SupC P K mg scope params f C cc cda) (hs0 : N[0]? = some ("self" : Str))
    (len : ∀ vs H Q E, sp vs H Q E → vs.length = ps.length)
    (hbody : ∀ (A : Around) (outer : List Env) (s : Shared) (H : Hp) (vs : List V) (Q : VK) (E : XK), sp vs H Q E →
      ∃ a ws tm t, vs = .ref a :: ws ∧ H a = some (exo a C none) ∧ PE (cxSup CX P w K mg base N qual scope f (.ref cda) cc A outer s H E) msg tm ∧ PSs (cxSup CX P w K mg base N qual scope f (.ref cda) cc A outer s H E) rest t ∧
        tm (start N vs) H fun _ H1 => H1 a = some (exo a C none) ∧ t { nx := fun _ H' => Q .non H', rt := Q } (start N vs) H1)
    (hev : ∀ env, ∃ pl : Sem Bool, eval (.Call (.Attribute (.Call (.Name "super" p0) [] [] p1) "__init__" p2) [msg] [] p3) env = (do
      let ov ← attributeBase (.Call (.Name "super" p0) [] [] p1) "__init__" env (eval (.Call (.Name "super" p0) [] [] p1) env)
      standAt p2.atName
      let (f, first) ← holding [ov] (getMethod ov "__init__" pl)
      callWith p3 f first (backTo p3 (starEach [msg] env)) []) := by intros; exact ⟨_, rfl⟩)
    (hsw : ∀ env, swapsWith (.Call (.Attribute (.Call (.Name "super" p0) [] [] p1) "__init__" p2) [msg] [] p3) none p4.line env = pure false := by intros; rfl)
    (hst : ∀ env, starEach [msg] env = (false, eval msg env) :: starEach [] env := by intros; rfl) :
    FnOk P w K mg base CX (k + 1) f (PySem.W.ksFn name qual params (.Expr (.Call (.Attribute (.Call (.Name "super" p0) [] [] p1) "__init__" p2) [msg] [] p3) p4 :: rest) scope dV kV doc pm an (.ref cda) ct cc) ps sp := by
  refine ⟨len, fun A outer s H args us vs Q E hr e0 hb r hsp => ?_⟩
  have hl := len _ _ _ _ hsp
  have KX : K.In s.heap := e0.mod.kin.keeps fun b o e => (e0.bs b o e).1
  have lim : s.heap.NoLimit := e0.mod.nolimit.keeps fun b o e => (e0.bs b o e).1
  obtain ⟨cl, cld, csl, hcell⟩ := T.cell
  refine PySem.ks_codeAny_call_defAt (binds := ps.zip us) hr.depth (KX _ _ lk) rfl lim (PySem.W.codeRec_of KX hcd) rfl hb S.nocell (fun ⟨n, v⟩ hy => S.par n (List.of_mem_zip hy).1) (fun h1 hns hk => ?_) S.co S.gen S.kind
  obtain ⟨a, ws, tm, t, ev, ea, hm, ht, hq⟩ := hbody A outer s H vs Q E hsp
  have I : Inv (cxSup CX P w K mg base N qual scope f (.ref cda) cc A outer s H E) [] (start N vs) H { s with heap := h1, toks := s.toks + (ps.zip us).length } := inv_sup S hcell hr.hd e0 hl r hns hk
  have fin : ∀ {σ' : St} {H' : Hp} {v : V} {u : Value} {s' : Shared}, Inv (cxSup CX P w K mg base N qual scope f (.ref cda) cc A outer s H E) [] σ' H' s' → RelV v u → Q v H' → CE outer P w H s Q u s' :=
    fun {σ' H' v u s'} J rv q => ⟨v, H', J.os, J.bare, J.base, J.hok, rv, q⟩
  refine PySem.ks_wpAt_execs_cons (ss_super (X := cxSup CX P w K mg base N qual scope f (.ref cda) cc A outer s H E) (R := fun H1 => t { nx := fun _ H' => Q .non H', rt := Q } (start N vs) H1) rfl S.kind T lk rfl I ea hs0 (by rw [ev]; rfl) hm hq (fun H1 s1 I1 q1 => ?_) (hsw _) (hev _) (hst _))
  refine PySem.wpAt_of_wpAny (wpAny_mono (ht.run [] s1 (start N vs) H1 _ I1 q1) (fun fl s' hs => ?_) fun e s' hs => hs)
  cases fl with
  | ret u =>
    obtain ⟨v, σ', H', J, rv, q⟩ := hs
    exact fin J rv q
  | next =>
    obtain ⟨σ', H', J, q⟩ := hs
    exact fin (v := V.non) (u := Value.none) J rfl q
  | brk =>
    obtain ⟨_, _, _, q⟩ := hs
    exact False.elim q
  | cont =>
    obtain ⟨_, _, _, q⟩ := hs
    exact False.elim q
end
end L2

set_option maxRecDepth 100000
set_option maxHeartbeats 2000000
/-! EXb: the __init__s of the forms that error classes have: no field, one, two, one and a list. -/
namespace L2
open PySem PySem.Spec PyProof.Rows
/-- what a text may show -/
def okF (v : V) : Prop := (∃ y : Str, v = .str y ∧ y.length ≤ 10000) ∨ ∃ i : Int, v = .int i ∧ i.natAbs.log2 < 1920
structure MsgOk (X : Cx) (msg : Expr) (ok : L2.St → Prop) : Prop where
  ex : ∃ tm, PE X msg tm ∧ ∀ σ H (R : Hp → Prop), ok σ → R H → tm σ H fun _ H1 => R H1
section
variable {X : Cx}
theorem msg_c {y : Str} {j pos} : MsgOk X (.Constant (.str y) j pos) fun _ => True := ⟨_, pe_str, fun σ H R _ r => r⟩
theorem fmt_le {v : V} (h : okF v) {σ : L2.St} {H : Hp} {i : Nat} (e : σ[i]? = some (some v)) {R : V → Hp → Prop} (k : ∀ y : Str, y.length ≤ 10000 → R (.str y) H) : tFmt (tVar i) σ H R := by
  refine ⟨v, e, ?_⟩
  rcases h with ⟨y, rfl, l⟩ | ⟨n, rfl, l⟩
  · exact .inl ⟨y, rfl, by rw [sizeLine_eq]; omega, k y l⟩
  · have := PyProof.Rows.int_text_len_1921 l
    exact .inr ⟨n, rfl, l, k _ (by omega)⟩
theorem msg_1 {y : Str} {x : Str} {i : Nat} {j1 p1 p2 p3 p4} (hN : X.N[i]? = some x) (hv : Vis X.env.scope x) (hl : y.length ≤ 1000) (hd : (x == ("__debug__" : Str)) = false := by decide) (hcd : (x == ("__classdict__" : Str)) = false := by decide) :
    MsgOk X (.JoinedStr [.Constant (.str y) j1 p1, .FormattedValue (.Name x p2) (-1) none p3] p4) fun σ => ∃ v, σ[i]? = some (some v) ∧ okF v := by
  refine ⟨_, pe_joined (.cons pe_str (.cons (pe_fmt (pe_var hN hv hd hcd)) .nil)), fun σ H R ⟨v, e, h⟩ r => ?_⟩
  refine ⟨y, rfl, ?_, fmt_le h e fun z hz => ⟨z, rfl, ?_, r⟩⟩
  · rw [Str.length_append, sizeLine_eq]; simp only [show Str.empty.length = 0 from rfl]; omega
  · rw [Str.length_append, Str.length_append, sizeLine_eq]; simp only [show Str.empty.length = 0 from rfl]; omega
theorem msg_1c {y z : Str} {x : Str} {i : Nat} {j1 j2 p1 p2 p3 p4 p5} (hN : X.N[i]? = some x) (hv : Vis X.env.scope x) (hl : y.length ≤ 1000) (hl2 : z.length ≤ 1000) (hd : (x == ("__debug__" : Str)) = false := by decide) (hcd : (x == ("__classdict__" : Str)) = false := by decide) :
    MsgOk X (.JoinedStr [.Constant (.str y) j1 p1, .FormattedValue (.Name x p2) (-1) none p3, .Constant (.str z) j2 p5] p4) fun σ => ∃ v, σ[i]? = some (some v) ∧ okF v := by
  refine ⟨_, pe_joined (.cons pe_str (.cons (pe_fmt (pe_var hN hv hd hcd)) (.cons pe_str .nil))), fun σ H R ⟨v, e, h⟩ r => ?_⟩
  refine ⟨y, rfl, ?_, fmt_le h e fun u hu => ⟨u, rfl, ?_, z, rfl, ?_, r⟩⟩
  · rw [Str.length_append, sizeLine_eq]; simp only [show Str.empty.length = 0 from rfl]; omega
  · rw [Str.length_append, Str.length_append, sizeLine_eq]; simp only [show Str.empty.length = 0 from rfl]; omega
  · rw [Str.length_append, Str.length_append, Str.length_append, sizeLine_eq]; simp only [show Str.empty.length = 0 from rfl]; omega
theorem msg_2 {y z : Str} {x x2 : Str} {i i2 : Nat} {j1 j2 p1 p2 p3 p4 p5 p6 p7} (hN : X.N[i]? = some x) (hv : Vis X.env.scope x) (hN2 : X.N[i2]? = some x2) (hv2 : Vis X.env.scope x2) (hl : y.length ≤ 1000) (hl2 : z.length ≤ 1000) (hd : (x == ("__debug__" : Str)) = false := by decide) (hcd : (x == ("__classdict__" : Str)) = false := by decide) (hd2 : (x2 == ("__debug__" : Str)) = false := by decide) (hcd2 : (x2 == ("__classdict__" : Str)) = false := by decide) :
    MsgOk X (.JoinedStr [.Constant (.str y) j1 p1, .FormattedValue (.Name x p2) (-1) none p3, .Constant (.str z) j2 p5, .FormattedValue (.Name x2 p6) (-1) none p7] p4) fun σ => ∃ v u, σ[i]? = some (some v) ∧ okF v ∧ σ[i2]? = some (some u) ∧ okF u := by
  refine ⟨_, pe_joined (.cons pe_str (.cons (pe_fmt (pe_var hN hv hd hcd)) (.cons pe_str (.cons (pe_fmt (pe_var hN2 hv2 hd2 hcd2)) .nil)))), fun σ H R ⟨v, u, e, h, e2, h2⟩ r => ?_⟩
  refine ⟨y, rfl, ?_, fmt_le h e fun t ht => ⟨t, rfl, ?_, z, rfl, ?_, fmt_le h2 e2 fun o ho => ⟨o, rfl, ?_, r⟩⟩⟩
  · rw [Str.length_append, sizeLine_eq]; simp only [show Str.empty.length = 0 from rfl]; omega
  · rw [Str.length_append, Str.length_append, sizeLine_eq]; simp only [show Str.empty.length = 0 from rfl]; omega
  · rw [Str.length_append, Str.length_append, Str.length_append, sizeLine_eq]; simp only [show Str.empty.length = 0 from rfl]; omega
  · rw [Str.length_append, Str.length_append, Str.length_append, Str.length_append, sizeLine_eq]; simp only [show Str.empty.length = 0 from rfl]; omega
end
/-! ### promises -/
def sp0 (C : Addr) : Sp := fun vs H Q _ => ∃ a, vs = [.ref a] ∧ H a = some (exo a C none) ∧ Q .non H
def sp1 (C : Addr) (f : Str) : Sp := fun vs H Q _ => ∃ a v, vs = [.ref a, v] ∧ H a = some (exo a C none) ∧ okF v ∧ ∀ dx, H dx = none → dx ≠ a → Q .non (upd (upd H dx (exd dx [(f, v)])) a (exo a C (some dx)))
def sp2 (C : Addr) (f g : Str) : Sp := fun vs H Q _ => ∃ a v u, vs = [.ref a, v, u] ∧ H a = some (exo a C none) ∧ okF v ∧ okF u ∧ ∀ dx, H dx = none → dx ≠ a → Q .non (upd (upd H dx (exd dx [(g, u), (f, v)])) a (exo a C (some dx)))
def spB (K : PySem.W.Frag) (C : Addr) (f g : Str) : Sp := fun vs H Q _ => ∃ a v l zs, vs = [.ref a, v, .ref l] ∧ H a = some (exo a C none) ∧ okF v ∧ SqL K H l zs ∧ zs.length ≤ sizeLine ∧
  ∀ dx p, H dx = none → dx ≠ a → H p = none → p ≠ a → p ≠ dx → Q .non (upd (upd (upd H p (.lst zs)) dx (exd dx [(g, .ref p), (f, v)])) a (exo a C (some dx)))
section
variable {CX : CXT} {P : Program} {w : World} {K : PySem.W.Frag} {mg : Str → Option Value} {base : Heap}
theorem fn_x0 {k : Nat} {f C cc cda : Addr} {name qual : Str} {params : Arguments} {msg : Expr} {scope : Scope} {dV kV doc pm ct oc : Value} {an od : Option Addr} {osl : Array (Option Value)} {p0 p1 p2 p3 p4 : Pos}
    (lk : K.lookup f = some ⟨oc, od, .func (PySem.W.ksFn name qual params [.Expr (.Call (.Attribute (.Call (.Name "super" p0) [] [] p1) "__init__" p2) [msg] [] p3) p4] scope dV kV doc pm an (.ref cda) ct cc), osl⟩)
    (hcd : PySem.W.codeIn K (.ref cda) qual = true) (S : SupScope ["self"] ["self"] scope) (T : SupC P K mg scope params f C cc cda)
    (hm : ∀ A outer s H E, MsgOk (cxSup CX P w K mg base ["self"] qual scope f (.ref cda) cc A outer s H E) msg fun _ => True)
    (hev : ∀ env, ∃ pl : Sem Bool, eval (.Call (.Attribute (.Call (.Name "super" p0) [] [] p1) "__init__" p2) [msg] [] p3) env = (do
      let ov ← attributeBase (.Call (.Name "super" p0) [] [] p1) "__init__" env (eval (.Call (.Name "super" p0) [] [] p1) env)
      standAt p2.atName
      let (f, first) ← holding [ov] (getMethod ov "__init__" pl)
      callWith p3 f first (backTo p3 (starEach [msg] env)) []))
    (hsw : ∀ env, swapsWith (.Call (.Attribute (.Call (.Name "super" p0) [] [] p1) "__init__" p2) [msg] [] p3) none p4.line env = pure false)
    (hst : ∀ env, starEach [msg] env = (false, eval msg env) :: starEach [] env) :
    FnOk P w K mg base CX (k + 1) f (PySem.W.ksFn name qual params [.Expr (.Call (.Attribute (.Call (.Name "super" p0) [] [] p1) "__init__" p2) [msg] [] p3) p4] scope dV kV doc pm an (.ref cda) ct cc) ["self"] (sp0 C) := by
  refine fn_sup lk hcd S T rfl (fun vs H Q E ⟨a, e, _⟩ => by rw [e]; rfl) (fun A outer s H vs Q E ⟨a, e, ea, q⟩ => ?_) hev hsw hst
  obtain ⟨tm, hpe, hr⟩ := (hm A outer s H E).ex
  exact ⟨a, [], tm, _, e, ea, hpe, pss_nil, hr _ _ (fun H1 => H1 a = some (exo a C none) ∧ Q .non H1) trivial ⟨ea, q⟩⟩
theorem fn_x1 {k : Nat} {f C cc cda : Addr} {name qual : Str} {params : Arguments} {msg : Expr} {scope : Scope} {dV kV doc pm ct oc : Value} {an od : Option Addr} {osl : Array (Option Value)} {p0 p1 p2 p3 p4 q1 q2 q3 q4 : Pos} {x fl : Str}
    (lk : K.lookup f = some ⟨oc, od, .func (PySem.W.ksFn name qual params [.Expr (.Call (.Attribute (.Call (.Name "super" p0) [] [] p1) "__init__" p2) [msg] [] p3) p4, .Assign [.Attribute (.Name "self" q1) fl q2] (.Name x q3) q4] scope dV kV doc pm an (.ref cda) ct cc), osl⟩)
    (hcd : PySem.W.codeIn K (.ref cda) qual = true) (S : SupScope ["self", x] ["self", x] scope) (T : SupC P K mg scope params f C cc cda)
    (hno : PySem.W.findIn K (.ref C) fl = some none)
    (hm : ∀ A outer s H E, MsgOk (cxSup CX P w K mg base ["self", x] qual scope f (.ref cda) cc A outer s H E) msg fun σ => ∃ v, σ[1]? = some (some v) ∧ okF v)
    (hev : ∀ env, ∃ pl : Sem Bool, eval (.Call (.Attribute (.Call (.Name "super" p0) [] [] p1) "__init__" p2) [msg] [] p3) env = (do
      let ov ← attributeBase (.Call (.Name "super" p0) [] [] p1) "__init__" env (eval (.Call (.Name "super" p0) [] [] p1) env)
      standAt p2.atName
      let (f, first) ← holding [ov] (getMethod ov "__init__" pl)
      callWith p3 f first (backTo p3 (starEach [msg] env)) []))
    (hsw : ∀ env, swapsWith (.Call (.Attribute (.Call (.Name "super" p0) [] [] p1) "__init__" p2) [msg] [] p3) none p4.line env = pure false)
    (hst : ∀ env, starEach [msg] env = (false, eval msg env) :: starEach [] env)
    (hsw2 : ∀ env, swapsWith (.Name x q3) (some (.Attribute (.Name "self" q1) fl q2)) q4.line env = pure false)
    (hd : (x == ("__debug__" : Str)) = false := by decide) (hcd2 : (x == ("__classdict__" : Str)) = false := by decide) :
    FnOk P w K mg base CX (k + 1) f (PySem.W.ksFn name qual params [.Expr (.Call (.Attribute (.Call (.Name "super" p0) [] [] p1) "__init__" p2) [msg] [] p3) p4, .Assign [.Attribute (.Name "self" q1) fl q2] (.Name x q3) q4] scope dV kV doc pm an (.ref cda) ct cc) ["self", x] (sp1 C fl) := by
  refine fn_sup lk hcd S T rfl (fun vs H Q E ⟨a, v, e, _⟩ => by rw [e]; rfl) (fun A outer s H vs Q E ⟨a, v, e, ea, hv, q⟩ => ?_) hev hsw hst
  obtain ⟨tm, hpe, hr⟩ := (hm A outer s H E).ex
  subst e
  refine ⟨a, [v], tm, _, rfl, ea, hpe, pss_cons (ps_ost (pe_var (i := 0) rfl (.inl (S.par "self" (by simp)))) (pe_var (i := 1) rfl (.inl (S.par x (by simp))) hd hcd2) (hsw2 _)) pss_nil, ?_⟩
  refine hr _ _ (fun H1 => H1 a = some (exo a C none) ∧ tSeq _ tNext _ (start ["self", x] [.ref a, v]) H1) ⟨v, rfl, hv⟩ ⟨ea, ?_⟩
  exact ⟨v, rfl, .ref a, rfl, a, C, rfl, T.oex, hno, .inl ⟨ea, fun dx hdx hne => q dx hdx hne⟩⟩
theorem upd_comm {H : Hp} {a b : Addr} {o u : HO} (h : a ≠ b) : upd (upd H a o) b u = upd (upd H b u) a o := by
  funext c
  simp only [upd]
  by_cases e : c = b
  · subst e
    simp [Ne.symm h]
  · simp [e]
theorem fn_x2 {k : Nat} {f C cc cda : Addr} {name qual : Str} {params : Arguments} {msg : Expr} {scope : Scope} {dV kV doc pm ct oc : Value} {an od : Option Addr} {osl : Array (Option Value)} {p0 p1 p2 p3 p4 q1 q2 q3 q4 q5 q6 q7 q8 : Pos} {x y fl gl : Str}
    (lk : K.lookup f = some ⟨oc, od, .func (PySem.W.ksFn name qual params [.Expr (.Call (.Attribute (.Call (.Name "super" p0) [] [] p1) "__init__" p2) [msg] [] p3) p4, .Assign [.Attribute (.Name "self" q1) fl q2] (.Name x q3) q4, .Assign [.Attribute (.Name "self" q5) gl q6] (.Name y q7) q8] scope dV kV doc pm an (.ref cda) ct cc), osl⟩)
    (hcd : PySem.W.codeIn K (.ref cda) qual = true) (S : SupScope ["self", x, y] ["self", x, y] scope) (T : SupC P K mg scope params f C cc cda)
    (hno : PySem.W.findIn K (.ref C) fl = some none) (hno2 : PySem.W.findIn K (.ref C) gl = some none)
    (hm : ∀ A outer s H E, MsgOk (cxSup CX P w K mg base ["self", x, y] qual scope f (.ref cda) cc A outer s H E) msg fun σ => ∃ v u, σ[1]? = some (some v) ∧ okF v ∧ σ[2]? = some (some u) ∧ okF u)
    (hev : ∀ env, ∃ pl : Sem Bool, eval (.Call (.Attribute (.Call (.Name "super" p0) [] [] p1) "__init__" p2) [msg] [] p3) env = (do
      let ov ← attributeBase (.Call (.Name "super" p0) [] [] p1) "__init__" env (eval (.Call (.Name "super" p0) [] [] p1) env)
      standAt p2.atName
      let (f, first) ← holding [ov] (getMethod ov "__init__" pl)
      callWith p3 f first (backTo p3 (starEach [msg] env)) []))
    (hsw : ∀ env, swapsWith (.Call (.Attribute (.Call (.Name "super" p0) [] [] p1) "__init__" p2) [msg] [] p3) none p4.line env = pure false)
    (hst : ∀ env, starEach [msg] env = (false, eval msg env) :: starEach [] env)
    (hsw2 : ∀ env, swapsWith (.Name x q3) (some (.Attribute (.Name "self" q1) fl q2)) q4.line env = pure false)
    (hsw3 : ∀ env, swapsWith (.Name y q7) (some (.Attribute (.Name "self" q5) gl q6)) q8.line env = pure false)
    (hd : (x == ("__debug__" : Str)) = false := by decide) (hcd2 : (x == ("__classdict__" : Str)) = false := by decide) (hdy : (y == ("__debug__" : Str)) = false := by decide) (hcdy : (y == ("__classdict__" : Str)) = false := by decide) :
    FnOk P w K mg base CX (k + 1) f (PySem.W.ksFn name qual params [.Expr (.Call (.Attribute (.Call (.Name "super" p0) [] [] p1) "__init__" p2) [msg] [] p3) p4, .Assign [.Attribute (.Name "self" q1) fl q2] (.Name x q3) q4, .Assign [.Attribute (.Name "self" q5) gl q6] (.Name y q7) q8] scope dV kV doc pm an (.ref cda) ct cc) ["self", x, y] (sp2 C fl gl) := by
  refine fn_sup lk hcd S T rfl (fun vs H Q E h => ?_) (fun A outer s H vs Q E h => ?_) hev hsw hst
  · obtain ⟨a, v, u, e, _⟩ := h
    rw [e]; rfl
  obtain ⟨a, v, u, e, ea, hv, hu, q⟩ := h
  obtain ⟨tm, hpe, hr⟩ := (hm A outer s H E).ex
  subst e
  refine ⟨a, [v, u], tm, _, rfl, ea, hpe, pss_cons (ps_ost (pe_var (i := 0) rfl (.inl (S.par "self" (by simp)))) (pe_var (i := 1) rfl (.inl (S.par x (by simp))) hd hcd2) (hsw2 _))
    (pss_cons (ps_ost (pe_var (i := 0) rfl (.inl (S.par "self" (by simp)))) (pe_var (i := 2) rfl (.inl (S.par y (by simp))) hdy hcdy) (hsw3 _)) pss_nil), ?_⟩
  refine hr _ _ (fun H1 => H1 a = some (exo a C none) ∧ tSeq _ _ _ (start ["self", x, y] [.ref a, v, u]) H1) ⟨v, u, rfl, hv, rfl, hu⟩ ⟨ea, ?_⟩
  refine ⟨v, rfl, .ref a, rfl, a, C, rfl, T.oex, hno, .inl ⟨ea, fun dx hdx hne => ?_⟩⟩
  refine ⟨u, rfl, .ref a, rfl, a, C, rfl, T.oex, hno2, .inr ⟨dx, [(fl, v)], upd_same, by rw [upd_ne hne, upd_same], by simp, ?_⟩⟩
  have z := q dx hdx hne
  rw [upd_comm (Ne.symm hne), upd_upd]
  exact z

theorem fn_xB {k : Nat} {f C cc cda : Addr} {name qual : Str} {params : Arguments} {msg : Expr} {scope : Scope} {dV kV doc pm ct oc : Value} {an od : Option Addr} {osl : Array (Option Value)} {p0 p1 p2 p3 p4 q1 q2 q3 q4 q5 q6 q7 q8 q9 q10 : Pos} {x y fl gl : Str}
    (lk : K.lookup f = some ⟨oc, od, .func (PySem.W.ksFn name qual params [.Expr (.Call (.Attribute (.Call (.Name "super" p0) [] [] p1) "__init__" p2) [msg] [] p3) p4, .Assign [.Attribute (.Name "self" q1) fl q2] (.Name x q3) q4, .Assign [.Attribute (.Name "self" q5) gl q6] (.Call (.Name "list" q9) [.Name y q7] [] q10) q8] scope dV kV doc pm an (.ref cda) ct cc), osl⟩)
    (hcd : PySem.W.codeIn K (.ref cda) qual = true) (S : SupScope ["self", x, y] ["self", x, y] scope) (T : SupC P K mg scope params f C cc cda)
    (hno : PySem.W.findIn K (.ref C) fl = some none) (hno2 : PySem.W.findIn K (.ref C) gl = some none)
    (hm : ∀ A outer s H E, MsgOk (cxSup CX P w K mg base ["self", x, y] qual scope f (.ref cda) cc A outer s H E) msg fun σ => ∃ v, σ[1]? = some (some v) ∧ okF v)
    (hev : ∀ env, ∃ pl : Sem Bool, eval (.Call (.Attribute (.Call (.Name "super" p0) [] [] p1) "__init__" p2) [msg] [] p3) env = (do
      let ov ← attributeBase (.Call (.Name "super" p0) [] [] p1) "__init__" env (eval (.Call (.Name "super" p0) [] [] p1) env)
      standAt p2.atName
      let (f, first) ← holding [ov] (getMethod ov "__init__" pl)
      callWith p3 f first (backTo p3 (starEach [msg] env)) []))
    (hsw : ∀ env, swapsWith (.Call (.Attribute (.Call (.Name "super" p0) [] [] p1) "__init__" p2) [msg] [] p3) none p4.line env = pure false)
    (hst : ∀ env, starEach [msg] env = (false, eval msg env) :: starEach [] env)
    (hsw2 : ∀ env, swapsWith (.Name x q3) (some (.Attribute (.Name "self" q1) fl q2)) q4.line env = pure false)
    (hsw3 : ∀ env, swapsWith (.Call (.Name "list" q9) [.Name y q7] [] q10) (some (.Attribute (.Name "self" q5) gl q6)) q8.line env = pure false) (hlg : scope.names.lookup ("list" : Str) = some .globalImplicit) (hlm : mg "list" = none)
    (hd : (x == ("__debug__" : Str)) = false := by decide) (hcd2 : (x == ("__classdict__" : Str)) = false := by decide) (hdy : (y == ("__debug__" : Str)) = false := by decide) (hcdy : (y == ("__classdict__" : Str)) = false := by decide) :
    FnOk P w K mg base CX (k + 1) f (PySem.W.ksFn name qual params [.Expr (.Call (.Attribute (.Call (.Name "super" p0) [] [] p1) "__init__" p2) [msg] [] p3) p4, .Assign [.Attribute (.Name "self" q1) fl q2] (.Name x q3) q4, .Assign [.Attribute (.Name "self" q5) gl q6] (.Call (.Name "list" q9) [.Name y q7] [] q10) q8] scope dV kV doc pm an (.ref cda) ct cc) ["self", x, y] (spB K C fl gl) := by
  refine fn_sup lk hcd S T rfl (fun vs H Q E h => ?_) (fun A outer s H vs Q E h => ?_) hev hsw hst
  · obtain ⟨a, v, u, zs, e, _⟩ := h
    rw [e]; rfl
  obtain ⟨a, v, l, zs, e, ea, hv, hl, hz, q⟩ := h
  obtain ⟨tm, hpe, hr⟩ := (hm A outer s H E).ex
  subst e
  refine ⟨a, [v, .ref l], tm, _, rfl, ea, hpe, pss_cons (ps_ost (pe_var (i := 0) rfl (.inl (S.par "self" (by simp)))) (pe_var (i := 1) rfl (.inl (S.par x (by simp))) hd hcd2) (hsw2 _))
    (pss_cons (ps_ost (pe_var (i := 0) rfl (.inl (S.par "self" (by simp)))) (pe_callTy call_list_of hlg hlm (by first | rfl | kernel_rfl) (pa_cons (pe_var (i := 2) rfl (.inl (S.par y (by simp))) hdy hcdy) pa_nil)) (hsw3 _)) pss_nil), ?_⟩
  refine hr _ _ (fun H1 => H1 a = some (exo a C none) ∧ tSeq _ _ _ (start ["self", x, y] [.ref a, v, .ref l]) H1) ⟨v, rfl, hv⟩ ⟨ea, ?_⟩
  refine ⟨v, rfl, .ref a, rfl, a, C, rfl, T.oex, hno, .inl ⟨ea, fun dx hdx hne => ?_⟩⟩
  have hl2 : SqL K (upd (upd H dx (exd dx [(fl, v)])) a (exo a C (some dx))) l zs := by
    have up : ∀ (o : HO), H l = some o → o ≠ exo a C none → upd (upd H dx (exd dx [(fl, v)])) a (exo a C (some dx)) l = some o := fun o e ne => by
      rw [upd_ne (fun z => by rw [z, ea] at e; exact ne (Option.some.inj e).symm), upd_ne (ne_of_none e hdx)]
      exact e
    rcases hl with (h | ⟨ob, h⟩) | h
    · exact .inl (.inl (up _ h (fun z => by
        have z' : HO.lst zs = HO.ext _ := z
        cases z')))
    · exact .inl (.inr ⟨ob, up _ h (Ne.symm exo_frz)⟩)
    · exact .inr h
  refine ⟨.ref l, rfl, l, zs, rfl, .inl hl2, fun p hp => ?_⟩
  have hpa : p ≠ a := fun z => by rw [z, upd_same] at hp; cases hp
  rw [upd_ne hpa] at hp
  have hpd : p ≠ dx := fun z => by rw [z, upd_same] at hp; cases hp
  rw [upd_ne hpd] at hp
  refine ⟨.ref a, rfl, a, C, rfl, T.oex, hno2, .inr ⟨dx, [(fl, v)], by rw [upd_ne (Ne.symm hpa), upd_same], by rw [upd_ne (Ne.symm hpd), upd_ne hne, upd_same], by simp, ?_⟩⟩
  have z := q dx p hdx hne hp hpa hpd
  rw [upd_comm hpd, upd_comm (Ne.symm hne), upd_upd, upd_comm (a := a) (b := p) (Ne.symm hpa), upd_comm (a := dx) (b := p) (Ne.symm hpd)]
  exact z

end
end L2

set_option maxRecDepth 100000
set_option maxHeartbeats 2000000
/-! EXc: error objects as values: made, read, asked for their class. -/
namespace L2
open PySem PySem.Spec PyProof.Rows
/-- C(e, ..) as a value -/
def tMkV (C : Addr) (sp : Sp) (ta : TA) : TE := fun σ H Q => ta σ H fun vs H1 => vs.length ≤ 1000 ∧ ∀ a, H1 a = none → sp (.ref a :: vs) (upd H1 a (exo a C none)) (fun v H2 => v = .non ∧ Q (.ref a) H2) (fun _ _ _ => False)
section
variable {X : Cx} {e : Expr} {es : List Expr} {p pos : Pos}
theorem call_oexV {CX : CXT} {C fI : Addr} {k : Nat} {fd : FuncData} {ps : List Str} {sp : Sp} (T : OexC X.K C) (iC : PySem.W.findIn X.K (.ref C) "__init__" = some (some (.ref fI))) (tI : PySem.W.typeIn X.K (.ref fI) = some (.type "function"))
    (F1 : FnOk X.prog X.w X.K X.mg X.base CX k fI fd ps sp) (hr : Room (k + 1) X.A) (hb : Binds X.K fd ps []) (hx : Passes CX X (fun _ _ _ => False))
    {pins : List (Addr × Obj)} {σ : L2.St} {H1 : Hp} {s1 : Shared} {vs : List V} {us : List Value} {Q : VK} (I1 : Inv X pins σ H1 s1) (r1 : Vals vs us) (hz : vs.length ≤ 1000)
    (q1 : ∀ a, H1 a = none → sp (.ref a :: vs) (upd H1 a (exo a C none)) (fun v H2 => v = .non ∧ Q (.ref a) H2) (fun _ _ _ => False)) :
    wpAny (model X.prog X.w) X.A (call (.ref C) us) (EP X pins σ Q) X.xe s1 := by
  obtain ⟨nm, q, N, bs, bm, sn, sub, ab, col, dd, k0, k1, k2, k3, k5, hC, hbm⟩ := T.cls
  obtain ⟨hp, g, dr, tk, os⟩ := s1
  have hsz : hp.objs.size ≤ hp.objs.size + 1 := Nat.le_succ _
  have hn : H1 (hp.objs.size + 1) = none := I1.hok.fresh hsz
  have hq := q1 (hp.objs.size + 1) hn
  have kk : ∀ b o, hp.get? b = some o → ((hp.push (PySem.W.kdv_tup us)).push (PySem.HandSPX.excO C hp.objs.size)).get? b = some o := fun b o e => Heap.get?_push_of_some _ (Heap.get?_push_of_some _ e)
  have hget : ((hp.push (PySem.W.kdv_tup us)).push (PySem.HandSPX.excO C hp.objs.size)).get? (hp.objs.size + 1) = some (PySem.HandSPX.excO C hp.objs.size) := by heap_get
  have I2 : Inv X pins σ (upd H1 (hp.objs.size + 1) (exo (hp.objs.size + 1) C none)) ⟨(hp.push (PySem.W.kdv_tup us)).push (PySem.HandSPX.excO C hp.objs.size), g, dr, tk, os⟩ :=
    I1.laid (t' := tk) (a := hp.objs.size + 1) (o := exo (hp.objs.size + 1) C none) (h' := (hp.push (PySem.W.kdv_tup us)).push (PySem.HandSPX.excO C hp.objs.size)) kk hsz (exo_ok hget)
  have r2 : Vals (V.ref (hp.objs.size + 1) :: vs) (Value.ref (hp.objs.size + 1) :: us) := .cons rfl r1
  have hl : (Value.ref (hp.objs.size + 1) :: us ++ []).length = ps.length := by
    have e := r2.length
    rw [F1.len _ _ _ _ hq] at e
    rw [List.append_nil]
    exact e.symm
  have hus : us.length ≤ sizeLine := by
    rw [← Paired.length r1, sizeLine_eq]
    omega
  have hbb := hb _ (Value.ref (hp.objs.size + 1) :: us) I2.kIn hl
  rw [List.append_nil] at hbb
  refine wpAny_call (PySem.HandSPX.call_own F.excBase_ValueError (fun Y => PySem.HandSPX.refsVE_contains Y bm hbm) (I1.kIn _ _ hC) (PySem.W.looks_findIn I1.kIn iC) (fun self => PySem.W.bind_fn I1.kIn self tI) hus
    (codeAny_mono (F1.run _ X.stack _ _ ⟨Value.ref (hp.objs.size + 1) :: us, []⟩ (Value.ref (hp.objs.size + 1) :: us) _ _ (fun _ _ _ => False) (hr.make C us []) (I2.env0.make C us []) hbb r2 hq) fun r s' hq' => ?_))
  cases r with
  | error er => exact hx pins σ _ _ er s' I2 hq'
  | ok fl =>
    cases fl with
    | ret u =>
      obtain ⟨v, H2, os2, bare2, un2, hok2, rv, ev, q2⟩ := hq'
      subst ev
      obtain ⟨v3, H3, I3, r3, q3⟩ := I2.after (Q := fun v H' => H' = H2) ⟨.non, H2, os2, bare2, un2, hok2, rv, rfl⟩
      subst q3
      exact ⟨rv, .ref _, H3, I3, rfl, q2⟩
    | next => exact False.elim hq'
    | brk => exact False.elim hq'
    | cont => exact False.elim hq'
theorem pe_oexV {CX : CXT} {x : Str} {C fI : Addr} {k : Nat} {fd : FuncData} {ps : List Str} {sp : Sp} {ta : TA} (T : OexC X.K C) (iC : PySem.W.findIn X.K (.ref C) "__init__" = some (some (.ref fI))) (tI : PySem.W.typeIn X.K (.ref fI) = some (.type "function"))
    (F1 : FnOk X.prog X.w X.K X.mg X.base CX k fI fd ps sp) (hr : Room (k + 1) X.A) (hb : Binds X.K fd ps []) (hx : Passes CX X (fun _ _ _ => False)) (hg : Gl X x) (hm : X.mg x = some (.ref C)) (ha : PA X (e :: es) ta)
    (hdb : (x == ("__debug__" : Str)) = false := by decide) (he : starEach (e :: es) X.env = (false, eval e X.env) :: starEach es X.env := by rfl) (hpl : (backTo pos (starEach es X.env)).any (·.1) = false := by rfl) :
    PE X (.Call (.Name x p) (e :: es) [] pos) (tMkV C sp ta) := by
  refine ⟨fun pins s σ H Q I h => ?_⟩
  refine wpAny_Call_Name_kw (ld_glob I hg hm ?_ hdb)
  exact PySem.W.callWith_K (h₀ := X.base) I.ok.mod.kin T.kC (thn (ha.run pos pins s σ H _ I h) fun us s1 ⟨vs, H1, I1, r1, hz, q1⟩ => ⟨I1.kIn, call_oexV T iC tI F1 hr hb hx I1 r1 hz q1⟩) he hpl
theorem pe_oexV0 {CX : CXT} {x : Str} {C fI : Addr} {k : Nat} {fd : FuncData} {ps : List Str} {sp : Sp} (T : OexC X.K C) (iC : PySem.W.findIn X.K (.ref C) "__init__" = some (some (.ref fI))) (tI : PySem.W.typeIn X.K (.ref fI) = some (.type "function"))
    (F1 : FnOk X.prog X.w X.K X.mg X.base CX k fI fd ps sp) (hr : Room (k + 1) X.A) (hb : Binds X.K fd ps []) (hx : Passes CX X (fun _ _ _ => False)) (hg : Gl X x) (hm : X.mg x = some (.ref C))
    (hdb : (x == ("__debug__" : Str)) = false := by decide) :
    PE X (.Call (.Name x p) [] [] pos) (tMkV C sp tNil) := by
  refine ⟨fun pins s σ H Q I h => ?_⟩
  refine wpAny_Call_Name_kw (ld_glob I hg hm ?_ hdb)
  obtain ⟨hz, q1⟩ := h
  exact PySem.W.callWith_K0 I.kIn T.kC (call_oexV T iC tI F1 hr hb hx I .nil hz q1)
/-- e.f, e an error object -/
def tXfV (K : PySem.W.Frag) (f : Str) (te : TE) : TE := fun σ H Q => te σ H fun x H1 => ∃ a C dx fs v, x = .ref a ∧ H1 a = some (exo a C (some dx)) ∧ H1 dx = some (exd dx fs) ∧ XfC K C ∧ PySem.W.findIn K (.ref C) f = some none ∧ fs.lookup f = some v ∧ Q v H1
theorem pe_xfV {te : TE} {n : Str} (he : PE X e te) (hb : attributeBase e n X.env (eval e X.env) = eval e X.env := by rfl) : PE X (.Attribute e n pos) (tXfV X.K n te) := by
  refine ⟨fun pins s σ H Q I h => ?_⟩
  refine attr_of hb (thn (he.run pins s σ H _ I h) fun u s1 hh => ?_)
  obtain ⟨x, H1, I1, rx, a, C, dx, fs, v, ex, ea, ed, T, hno, l, q⟩ := hh
  subst ex
  obtain rfl : u = Value.ref a := rx
  obtain ⟨t1, ho⟩ := exo_at I1.hok ea
  obtain ⟨mA, hns, hr⟩ := exd_at I1.hok ed
  obtain ⟨od, hod, hl⟩ := lookIn_ns hns
  obtain ⟨u, hu, ru⟩ := RelO.some_of (v := v) (o := mA n) (by rw [← l]; exact hr n)
  have J : PySem.W.InstAt s1.heap a { cls := .ref C, dict := some dx, data := .fields #[.ref t1, .none, .none, .none, .bool false, .none] } C (some od) := ⟨ho, rfl, rfl, hod⟩
  exact HandSPX.exc_get I1.kIn J T.ga T.gg T.exC (PySem.W.findObj_own T.hdC hno rfl (by rw [hl, hu])) (handed_of ru) ⟨v, H1, I1.tok _, ru, q⟩
/-- what isinstance asks of the class of an error object -/
structure XiC (K : PySem.W.Frag) (C : Addr) : Prop where
  xf : XfC K C
  cl : (PySem.W.clsIn K C).isSome = true
  ha : PySem.W.findIn K (.ref C) "__class__" = some (some (.builtin "object.__class__"))
  hn : PySem.W.specialIn K (.builtin "object.__class__") "__get__" = some (some (.builtin "getset_descriptor.__get__"))
  ht : PySem.W.takesIn K (.builtin "object.__class__") = some true
  hm : PySem.W.mroIn K C (.type "object") = some true
/-- isinstance(e, c), e an error object -/
def rIsV (K : PySem.W.Frag) (c : V) (cv : Value) : List V → Hp → VK → Prop := fun xs H Q => ∃ (a C : Addr) (b : Bool), xs = [.ref a, c] ∧ (∃ od, H a = some (exo a C od) ∧ ∀ dx, od = some dx → ∃ fs, H dx = some (exd dx fs)) ∧ XiC K C ∧ PySem.W.kitOne K (.ref C) cv = some b ∧ Q (.bl b) H
theorem call_isV {c : V} {cv : Value} (hcv : ∀ u, RelV c u → u = cv) : CallR X (.builtin "isinstance") (rIsV X.K c cv) := by
  intro pins s σ H xs us Q I r h
  obtain ⟨a, C, b, rfl, ⟨od, ea, ed⟩, T, e, q⟩ := h
  cases r with
  | cons rx rr =>
    cases rr with
    | cons rt rr =>
      cases rr
      cases rx
      have ec := hcv _ rt
      subst ec
      obtain ⟨t1, ho⟩ := exo_at I.hok ea
      have J : ∃ o2, PySem.W.InstAt s.heap a { cls := .ref C, dict := od, data := .fields #[.ref t1, .none, .none, .none, .bool false, .none] } C o2 := by
        cases od with
        | none => exact ⟨none, ho, rfl, rfl, trivial⟩
        | some dx =>
          obtain ⟨fs, hd⟩ := ed dx rfl
          obtain ⟨mA, hns, hr⟩ := exd_at I.hok hd
          obtain ⟨o2, hod, hl⟩ := lookIn_ns hns
          exact ⟨some o2, ho, rfl, rfl, hod⟩
      obtain ⟨o2, J⟩ := J
      exact PySem.W.kia_one (PySem.W.kitx_exc T.cl T.xf.ga T.xf.gg T.xf.exC T.ha T.hn T.ht T.hm) I.kIn J e (fun z => nomatch z) fun tk => ⟨.bl b, H, I.kept (t' := tk) fun _ _ z => z, rfl, q⟩
/-- C(), an error class without own __init__ -/
theorem pe_exc0V {x : Str} {C : Addr} (T : OexC X.K C) (hi : PySem.W.findIn X.K (.ref C) "__init__" = some (some (.builtin "ValueError.__init__"))) (hg : Gl X x) (hm : X.mg x = some (.ref C)) (hdb : (x == ("__debug__" : Str)) = false := by decide) :
    PE X (.Call (.Name x p) [] [] pos) (fun σ H Q => ∀ a, H a = none → Q (.ref a) (upd H a (exo a C none))) := by
  refine ⟨fun pins s σ H Q I h => ?_⟩
  obtain ⟨nm, q, N, bs, bm, sn, sub, ab, col, dd, k0, k1, k2, k3, k5, hC, hbm⟩ := T.cls
  refine wpAny_Call_Name_kw (ld_glob I hg hm ?_ hdb)
  refine PySem.W.callWith_K0 I.kIn T.kC ?_
  obtain ⟨hp, g, dr, tk, os⟩ := s
  refine PySem.W.call_B (rest := []) F.excBase_ValueError (fun Y => PySem.HandSPX.refsVE_contains Y bm hbm) (I.kIn _ _ hC) (PySem.W.looks_findIn I.kIn hi) (by rw [sizeLine_eq]; exact Nat.zero_le _) fun h' k e t => ?_
  have hsz : hp.objs.size ≤ hp.objs.size + 1 := Nat.le_succ _
  exact ⟨.ref (hp.objs.size + 1), _, I.laid (t' := tk) (a := hp.objs.size + 1) (o := exo (hp.objs.size + 1) C none) (h' := h') k hsz (exo_ok e), rfl, h _ (I.hok.fresh hsz)⟩
end
end L2

namespace DL
open PySem PySem.Spec PyProof.Rows L2
/-- the forms of the classes' __init__ -/
inductive Shp where
  | s0 | s1 (f : Str) | s2 (f g : Str) | sB (f g : Str)
def spS (K : PySem.W.Frag) (C : Addr) : Shp → Sp
  | .s0 => sp0 C
  | .s1 f => sp1 C f
  | .s2 f g => sp2 C f g
  | .sB f g => spB K C f g
/-- what a text may show -/
def okX : X → Prop
  | .int i => i.natAbs.log2 < 1920
  | .str y => y.length ≤ 10000
  | _ => False
def mkS (s : Shp) (xs : List X) (M : Mu) (k : List Str → List X → Prop) : Prop := match s, xs with
  | .s0, [] => k [] []
  | .s1 f, [x] => okX x ∧ k [f] [x]
  | .s2 f g, [x, y] => okX x ∧ okX y ∧ k [g, f] [y, x]
  | .sB f g, [x, y] => okX x ∧ (match lstOf M y with
    | some zs => zs.length ≤ sizeLine ∧ k [g, f] [.lst true zs, x]
    | none => False)
  | _, _ => False
section
variable {K : PySem.W.Frag} {N : Ent} {O H : Hp} {M : Mu}
theorem okX_ok {B : Hp} {x : X} {v : V} (r : Rp K O B x v) (h : okX x) : okF v := by
  cases x with
  | int i => simp only [Rp] at r; subst r; exact .inr ⟨i, rfl, h⟩
  | str y => simp only [Rp] at r; subst r; exact .inl ⟨y, rfl, h⟩
  | _ => exact h.elim
theorem rp_exn {B : Hp} {a C : Addr} {ns : List Str} {xs : List X} {vs : List V} (h : ExnAt O a C (ns.zip vs)) (l : ns.length = vs.length) (r : RpA K O B xs vs) : Rp K O B (.exn C ns xs) (.ref a) := by
  simp only [Rp]
  exact ⟨a, vs, rfl, h, l, r⟩
theorem upd_tw {H : Hp} {a : Addr} {o u : HO} {G : Hp → Hp} (hG : ∀ H1 o1, G (upd H1 a o1) = upd (G H1) a o1) : upd (G (upd H a o)) a u = upd (G H) a u := by
  rw [hG, upd_upd]
theorem mkS_ok {C : Addr} {sh : Shp} {xs : List X} {vs : List V} {Q : VK} {Qd : VKd} (S : Stt K N O M H) (r : RpA K O N.B0 xs vs) (h : mkS sh xs M fun ns ys => Qd (.exn C ns ys) M)
    (k : ∀ O' M' H' x v, Nxt K N O M H O' M' H' → Rp K O' N.B0 x v → Qd x M' → Q v H') :
    vs.length ≤ 1000 ∧ ∀ a, H a = none → spS K C sh (.ref a :: vs) (upd H a (exo a C none)) (fun v H2 => v = .non ∧ Q (.ref a) H2) (fun _ _ _ => False) := by
  unfold mkS at h
  split at h
  · have e := r
    simp only [RpA] at e
    subst e
    refine ⟨by simp, fun a ha => ⟨a, rfl, upd_same, rfl, ?_⟩⟩
    obtain ⟨S1, eo, e1⟩ := S.own ha (exo a C none)
    exact k _ _ _ _ _ ⟨S1, eo⟩ (rp_exn (.inl ⟨rfl, e1⟩) rfl RpA.nil) h
  · rename_i f x
    obtain ⟨v, e, q⟩ := rpa1 r
    subst e
    refine ⟨by simp, fun a ha => ⟨a, v, rfl, upd_same, okX_ok q h.1, fun dx hdx hne => ⟨rfl, ?_⟩⟩⟩
    rw [upd_ne hne] at hdx
    rw [upd_comm (Ne.symm hne), upd_upd]
    obtain ⟨S1, eo1, e1⟩ := S.own hdx (exd dx [(f, v)])
    have ha1 : upd H dx (exd dx [(f, v)]) a = none := by rw [upd_ne (Ne.symm hne)]; exact ha
    obtain ⟨S2, eo2, e2⟩ := S1.own ha1 (exo a C (some dx))
    refine k _ _ _ _ _ ⟨S2, eo1.trans eo2⟩ (rp_exn (ns := [f]) (vs := [v]) (.inr ⟨dx, e2, eo2 _ _ e1⟩) rfl ?_) h.2
    exact r.mono (eo1.trans eo2) (Ex.refl _)
  · rename_i f g x y
    obtain ⟨v, u, e, q, q2⟩ := rpa2 r
    subst e
    refine ⟨by simp, fun a ha => ⟨a, v, u, rfl, upd_same, okX_ok q h.1, okX_ok q2 h.2.1, fun dx hdx hne => ⟨rfl, ?_⟩⟩⟩
    rw [upd_ne hne] at hdx
    rw [upd_comm (Ne.symm hne), upd_upd]
    obtain ⟨S1, eo1, e1⟩ := S.own hdx (exd dx [(g, u), (f, v)])
    have ha1 : upd H dx (exd dx [(g, u), (f, v)]) a = none := by rw [upd_ne (Ne.symm hne)]; exact ha
    obtain ⟨S2, eo2, e2⟩ := S1.own ha1 (exo a C (some dx))
    refine k _ _ _ _ _ ⟨S2, eo1.trans eo2⟩ (rp_exn (ns := [g, f]) (vs := [u, v]) (.inr ⟨dx, e2, eo2 _ _ e1⟩) rfl ?_) h.2.2
    exact (RpA.cons q2 (RpA.cons q RpA.nil)).mono (eo1.trans eo2) (Ex.refl _)
  · rename_i f g x y
    obtain ⟨v, u, e, q, q2⟩ := rpa2 r
    subst e
    obtain ⟨hx, h⟩ := h
    split at h
    · rename_i zs ez
      obtain ⟨l, ws, e3, q3, r3⟩ := lstOf_ok S q2 ez
      subst e3
      refine ⟨by simp, fun a ha => ⟨a, v, l, ws, rfl, upd_same, okX_ok q hx, ex_sql (ex_upd ha) q3, by rw [r3.len]; exact h.1, fun dx p hdx hne hp hpa hpd => ⟨rfl, ?_⟩⟩⟩
      rw [upd_ne hne] at hdx
      rw [upd_ne hpa] at hp
      rw [upd_comm (H := H) (a := a) (b := p) (Ne.symm hpa), upd_comm (a := a) (b := dx) (Ne.symm hne), upd_upd]
      obtain ⟨S0, eo0, e0⟩ := S.own hp (.lst ws)
      have hd1 : upd H p (.lst ws) dx = none := by rw [upd_ne (Ne.symm hpd)]; exact hdx
      obtain ⟨S1, eo1, e1⟩ := S0.own hd1 (exd dx [(g, .ref p), (f, v)])
      have ha1 : upd (upd H p (.lst ws)) dx (exd dx [(g, .ref p), (f, v)]) a = none := by rw [upd_ne (Ne.symm hne), upd_ne (Ne.symm hpa)]; exact ha
      obtain ⟨S2, eo2, e2⟩ := S1.own ha1 (exo a C (some dx))
      have eo := (eo0.trans eo1).trans eo2
      refine k _ _ _ _ _ ⟨S2, eo⟩ (rp_exn (ns := [g, f]) (vs := [.ref p, v]) (.inr ⟨dx, e2, eo2 _ _ e1⟩) rfl ?_) h.2
      refine RpA.cons ?_ (RpA.cons (q.mono eo (Ex.refl _)) RpA.nil)
      simp only [Rp]
      exact ⟨p, ws, rfl, (eo1.trans eo2) _ _ e0, r3.mono eo (Ex.refl _)⟩
    · exact h.elim
  · exact h.elim
end
/-- an error class of the text by its name -/
structure CalX (P : Program) (w : World) (K : PySem.W.Frag) (mg : Str → Option Value) (base : Heap) (CX' : CXT) (x : Str) (k : Nat) (C : Addr) (sh : Shp) : Prop where
  ex : ∃ fI fdt ps, FnOk P w K mg base CX' k fI fdt ps (spS K C sh) ∧ mg x = some (.ref C) ∧ PySem.W.findIn K (.ref C) "__init__" = some (some (.ref fI)) ∧ PySem.W.typeIn K (.ref fI) = some (.type "function") ∧ Binds K fdt ps []
  oex : OexC K C
def dmk (C : Addr) (sh : Shp) (a : DA) : DE := fun δ M Q => a δ M fun xs M1 => mkS sh xs M1 fun ns ys => Q (.exn C ns ys) M1
def dmk0 (C : Addr) : DE := fun _ M Q => Q (.exn C [] []) M
/-- e.f -/
def dxf (K : PySem.W.Frag) (f : Str) (d : DE) : DE := fun δ M Q => d δ M fun x M1 => match x with
  | .exn C ns xs => XfC K C ∧ PySem.W.findIn K (.ref C) f = some none ∧ ns.length = xs.length ∧ ∃ y, (ns.zip xs).lookup f = some y ∧ Q y M1
  | _ => False
/-- isinstance(e, c) -/
def disx (K : PySem.W.Frag) (cv : Value) (d : DE) : DE := fun δ M Q => d δ M fun x M1 => match x with
  | .exn C _ _ => XiC K C ∧ ∃ b, PySem.W.kitOne K (.ref C) cv = some b ∧ Q (.bl b) M1
  | _ => False
theorem lookup_zip {K : PySem.W.Frag} {O B : Hp} {f : Str} {y : X} : ∀ {ns : List Str} {xs : List X} {vs : List V}, RpA K O B xs vs → (ns.zip xs).lookup f = some y → ∃ v, (ns.zip vs).lookup f = some v ∧ Rp K O B y v
  | [], _, _, _, h => by simp at h
  | n :: ns, [], _, _, h => by simp at h
  | n :: ns, x :: xs, _, r, h => by
    simp only [RpA] at r
    obtain ⟨v, t, e, q, u⟩ := r
    subst e
    simp only [List.zip_cons_cons, List.lookup] at h ⊢
    split at h
    · rename_i hn
      cases h
      exact ⟨v, rfl, q⟩
    · rename_i hn
      exact lookup_zip u h
section
variable {Y : Cx} {W : Ent → Prop} {e : Expr} {es : List Expr} {p pos : Pos} {d : DE} {dr : DA} {CX' : CXT} {k : Nat} {C : Addr} {sh : Shp} {x : Str}
theorem pd_mk (T : CalX Y.prog Y.w Y.K Y.mg Y.base CX' x k C sh) (hr : Room (k + 1) Y.A) (hx : Passes CX' Y (fun _ _ _ => False)) (ha : PAD Y W (e :: es) dr) (hg : Gl Y x := by rfl) (hdb : (x == ("__debug__" : Str)) = false := by decide)
    (he : starEach (e :: es) Y.env = (false, eval e Y.env) :: starEach es Y.env := by rfl) (hpl : (backTo pos (starEach es Y.env)).any (·.1) = false := by rfl) : PD Y W (.Call (.Name x p) (e :: es) [] pos) (dmk C sh dr) := by
  obtain ⟨fI, fdt, ps, F1, hm, iC, tI, hb⟩ := T.ex
  obtain ⟨t, h1, s1⟩ := ha.ex
  refine ⟨_, pe_oexV T.oex iC tI F1 hr hb hx hg hm h1 hdb he hpl, fun N O M δ σ H Q Qd w S L h kk => s1 N O M δ σ H _ _ w S L h fun O1 M1 H1 xs vs n1 r1 h => ?_⟩
  exact mkS_ok n1.st r1 h fun O' M' H' x v n r q => kk O' M' H' x v (n1.trans n) r q
theorem pd_mkE (T : CalX Y.prog Y.w Y.K Y.mg Y.base CX' x k C sh) (hr : Room (k + 1) Y.A) (hx : Passes CX' Y (fun _ _ _ => False)) (hg : Gl Y x := by rfl) (hdb : (x == ("__debug__" : Str)) = false := by decide) :
    PD Y W (.Call (.Name x p) [] [] pos) (dmk C sh dnil) := by
  obtain ⟨fI, fdt, ps, F1, hm, iC, tI, hb⟩ := T.ex
  refine ⟨_, pe_oexV0 T.oex iC tI F1 hr hb hx hg hm hdb, fun N O M δ σ H Q Qd w S L h kk => ?_⟩
  exact mkS_ok S RpA.nil h fun O' M' H' x v n r q => kk O' M' H' x v n r q
theorem pd_mk0 (T : OexC Y.K C) (hi : PySem.W.findIn Y.K (.ref C) "__init__" = some (some (.builtin "ValueError.__init__"))) (hm : Y.mg x = some (.ref C)) (hg : Gl Y x := by rfl) (hdb : (x == ("__debug__" : Str)) = false := by decide) :
    PD Y W (.Call (.Name x p) [] [] pos) (dmk0 C) := by
  refine ⟨_, pe_exc0V T hi hg hm hdb, fun N O M δ σ H Q Qd w S L h kk a ha => ?_⟩
  obtain ⟨S1, eo, e1⟩ := S.own ha (exo a C none)
  exact kk _ _ _ _ _ ⟨S1, eo⟩ (rp_exn (.inl ⟨rfl, e1⟩) rfl RpA.nil) h
theorem pd_xf {n : Str} (he : PD Y W e d) (hb : attributeBase e n Y.env (eval e Y.env) = eval e Y.env := by rfl) : PD Y W (.Attribute e n pos) (dxf Y.K n d) := by
  obtain ⟨t, h1, s1⟩ := he.ex
  refine ⟨_, pe_xfV h1 hb, fun N O M δ σ H Q Qd w S L h kk => s1 N O M δ σ H _ _ w S L h fun O1 M1 H1 x v n1 r1 h => ?_⟩
  split at h
  · rename_i C ns xs
    obtain ⟨T, hno, hl, y, ly, q⟩ := h
    simp only [Rp] at r1
    obtain ⟨a, vs, e1, ea, l2, rr⟩ := r1
    obtain ⟨v2, lv, rv⟩ := lookup_zip rr ly
    rcases ea with ⟨e2, _⟩ | ⟨dx, q1, q2⟩
    · rw [e2] at lv
      cases lv
    · exact ⟨a, C, dx, _, v2, e1, n1.st.oh _ _ q1, n1.st.oh _ _ q2, T, hno, lv, kk _ _ _ _ _ n1 rv q⟩
  · exact h.elim
theorem snd_is {c : V} {cv : Value} {t : TE} (s1 : SndE Y.K W t d) : SndE Y.K W (tCB (rIsV Y.K c cv) (tCons t (tCons (tC c) tNil))) (disx Y.K cv d) := fun N O M δ σ H Q Qd w S L h kk => s1 N O M δ σ H _ _ w S L h fun O1 M1 H1 x v n1 r1 h => by
  split at h
  · rename_i C ns xs
    obtain ⟨T, b, eb, q⟩ := h
    simp only [Rp] at r1
    obtain ⟨a, vs, e1, ea, l2, rr⟩ := r1
    refine ⟨a, C, b, by rw [e1], ?_, T, eb, kk _ _ _ _ _ n1 (by simp only [Rp]) q⟩
    rcases ea with ⟨e2, q1⟩ | ⟨dx, q1, q2⟩
    · exact ⟨none, n1.st.oh _ _ q1, fun _ z => nomatch z⟩
    · exact ⟨some dx, n1.st.oh _ _ q1, fun _ z => by cases z; exact ⟨_, n1.st.oh _ _ q2⟩⟩
  · exact h.elim
/-- isinstance(e, D), D a class of the text -/
theorem pd_isC {D : Addr} {p1 p2 : Pos} (he : PD Y W e d) (hm : Y.mg "isinstance" = none) (hD : Y.mg x = some (.ref D)) (hg : Gl Y "isinstance" := by rfl) (hgx : Gl Y x := by rfl) (hdb : (x == ("__debug__" : Str)) = false := by decide)
    (hs : starEach [e, .Name x p1] Y.env = (false, eval e Y.env) :: starEach [.Name x p1] Y.env := by rfl) (hpl : (backTo pos (starEach [.Name x p1] Y.env)).any (·.1) = false := by rfl) (hs2 : starEach [.Name x p1] Y.env = (false, eval (.Name x p1) Y.env) :: starEach [] Y.env := by rfl) :
    PD Y W (.Call (.Name "isinstance" p2) [e, .Name x p1] [] pos) (disx Y.K (.ref D) d) := by
  obtain ⟨t, h1, s1⟩ := he.ex
  exact ⟨_, pe_callB (call_isV (c := .ref D) fun u r => r) hg hm (by first | rfl | kernel_rfl) (pa_cons h1 (pa_cons (pe_glob (v := .ref D) hgx hD rfl hdb) pa_nil hs2) hs) (by decide) (by decide) hs hpl, snd_is s1⟩
/-- isinstance(e, T), T a built-in type -/
theorem pd_isT {T : String} {p1 p2 : Pos} (he : PD Y W e d) (hm : Y.mg "isinstance" = none) (hT : Y.mg x = none) (hv : bootBuiltins x = some (.type T)) (hg : Gl Y "isinstance" := by rfl) (hgx : Gl Y x := by rfl) (hn : x ≠ "__name__" := by decide) (hdb : (x == ("__debug__" : Str)) = false := by decide)
    (hs : starEach [e, .Name x p1] Y.env = (false, eval e Y.env) :: starEach [.Name x p1] Y.env := by rfl) (hpl : (backTo pos (starEach [.Name x p1] Y.env)).any (·.1) = false := by rfl) (hs2 : starEach [.Name x p1] Y.env = (false, eval (.Name x p1) Y.env) :: starEach [] Y.env := by rfl) :
    PD Y W (.Call (.Name "isinstance" p2) [e, .Name x p1] [] pos) (disx Y.K (.type T) d) := by
  obtain ⟨t, h1, s1⟩ := he.ex
  exact ⟨_, pe_callB (call_isV (c := .ty T) fun u r => r) hg hm (by first | rfl | kernel_rfl) (pa_cons h1 (pa_cons (pe_bltn (v := .ty T) hgx hT hv rfl hn hdb) pa_nil hs2) hs) (by decide) (by decide) hs hpl, snd_is s1⟩
end
end DL

set_option maxRecDepth 100000
set_option maxHeartbeats 4000000
/-! DLi: repr of data; sorted(set(xs)) of ints. -/
namespace L2
open PySem PySem.Spec PyProof.Rows
section
variable {P : Program} {w : World} {A : Around} {E : Value → Shared → Prop} {s : Shared}
theorem call_set_lstI {l : Addr} {items : Array Value} (ns : List Int) {Q : Value → Shared → Prop} (hh : A.handled = none) (hl : s.heap.IsList l items) (hit : IntsAre items.toList ns) (hb : ns.length + 1 < scanBound)
    (h : ∀ (h' : Heap) (tk c : Nat), SetR w h' s.heap.objs.size (fun j => decide (j ∈ ns)) c → c ≤ ns.length → (∀ b o, s.heap.get? b = some o → h'.get? b = some o) → Q (.ref s.heap.objs.size) { s with heap := h', toks := tk }) :
    wpAny (model P w) A (call (.type "set") [.ref l]) Q E s := by
  have hisz : items.size = ns.length := by
    have q := IntsAre.length hit
    rw [Array.length_toList] at q
    exact q
  obtain ⟨c, tl, hmro⟩ := F.called_set.mro
  have hmade := F.called_set.made
  have hsub := F.called_set.sub
  refine wpAny_call (codeAny_of_tree ?_)
  show wpAny _ _ (callAny (.type "set") _) _ _ _
  refine wpAny_pure ⟨Code.quiet_builtin _ (by decide +kernel), codeAny_builtin F.entry_type_call ?_⟩
  rw [Around.under_plain (weight_type_call_type "set" [.ref l] []) rfl]
  have h1 := F.called_set.notType
  have h2 := F.called_set.canCreate
  have hct := F.typeCall_set_1 (.ref l)
  repeat (any_goals (first | assumption | wp_step))
  obtain ⟨S0, hS0⟩ : ∃ S0 : Obj, S0 = { cls := .type "set", dict := none, data := .set #[] 0 (.fresh 0 0 (!w.params.followText "set-order")) } := ⟨_, rfl⟩
  refine codeAny_mono (code_set_led1 (.ref l) (E := E) (Q₁ := fun obj s₁ => obj = .ref s.heap.objs.size ∧ s₁ = { s with heap := s.heap.push { cls := .type "set", dict := none, data := .set #[] 0 (.fresh 0 0 (!w.params.followText "set-order")) } }) ⟨rfl, rfl⟩) fun r s₁ hr => ?_
  match r, hr with
  | .error e, hr => exact hr
  | .ok .next, hr => exact hr.elim
  | .ok .brk, hr => exact hr.elim
  | .ok .cont, hr => exact hr.elim
  | .ok (.ret obj), hr =>
    obtain ⟨rfl, rfl⟩ := hr
    have hS : (s.heap.push { cls := .type "set", dict := none, data := .set #[] 0 (.fresh 0 0 (!w.params.followText "set-order")) }).get? s.heap.objs.size = some { cls := .type "set", dict := none, data := .set #[] 0 (.fresh 0 0 (!w.params.followText "set-order")) } := Heap.get?_push_size _ rfl
    have hT : Shared.TypeIs { s with heap := s.heap.push { cls := .type "set", dict := none, data := .set #[] 0 (.fresh 0 0 (!w.params.followText "set-order")) } } (.ref s.heap.objs.size) "set" := ⟨_, hS, rfl⟩
    have hli := F.called_set.init.lookup
    have hbi := F.called_set.init.bind (.ref s.heap.objs.size)
    repeat (any_goals (first | assumption | wp_step))
    refine codeAny_mono (codeAny_call_builtin (R := wants (fun r s₂ => r = .none ∧ ∃ h' tk c, s₂ = { s with heap := h', toks := tk } ∧ SetR w h' s.heap.objs.size (fun j => decide (j ∈ ns)) c ∧ c ≤ ns.length ∧
        (∀ b o, s.heap.get? b = some o → h'.get? b = some o)) E) F.called_set.init.plain F.entry_set_init (check_set_init_1 hT ?_)) fun r₂ s₂ hr₂ => ?_
    · obtain ⟨⟨ocls, odict, odata, oslots⟩, hol, hcl, nl, hdl⟩ := hl
      simp only at hcl hdl
      subst hcl hdl
      have hol' : (s.heap.push { cls := .type "set", dict := none, data := .set #[] 0 (.fresh 0 0 (!w.params.followText "set-order")) }).get? l = some { cls := .type "list", dict := odict, data := .seq items nl, slots := oslots } := Heap.get?_push_of_some _ hol
      have hsls := F.sub_list_set
      have hslf := F.sub_list_frozenset
      have hne : (Value.type "list" == Value.type "dict") = false := by decide
      have hl1 : (s.heap.push { cls := .type "set", dict := none, data := .set #[] 0 (.fresh 0 0 (!w.params.followText "set-order")) }).IsList l items := ⟨_, hol', rfl, nl, rfl⟩
      unfold Builtin.«set.__init__» noKeywords Builtin.Frozenset.updateFrom
      generalize hPI : pyIter = PI
      wp_walk
      subst hPI
      refine wpAny_pyIter_list hl1 (wpAny_bind (wpAny_runValue ?_))
      have hlS : l < s.heap.objs.size := Heap.lt_size hol
      have hh3 : A.in1.in1.in1.handled = none := by simp [hh]
      have hneI : l ≠ (s.heap.push { cls := .type "set", dict := none, data := .set #[] 0 (.fresh 0 0 (!w.params.followText "set-order")) }).objs.size := by
        rw [Heap.size_push]; exact Nat.ne_of_lt (Nat.lt_succ_of_lt hlS)
      have hSf : s.heap.objs.size ∉ [(s.heap.push { cls := .type "set", dict := none, data := .set #[] 0 (.fresh 0 0 (!w.params.followText "set-order")) }).objs.size, l] := by
        rw [Heap.size_push]; simp only [List.mem_cons, List.mem_singleton, List.not_mem_nil, or_false, not_or]
        exact ⟨Nat.ne_of_lt (Nat.lt_succ_self _), Nat.ne_of_gt hlS⟩
      have hval : ∀ (i : Nat) (v : Value), items[i]? = some v → ∃ k t, ns[i]? = some k ∧ v = .int k t := fun i v hv => by
        have hi : i < ns.length := by rw [← hisz]; exact (Array.getElem?_eq_some_iff.mp hv).1
        obtain ⟨t, e⟩ := PyProof.Rows.IntsAre.int_at hit i v (by rw [Array.getElem?_toList]; exact hv)
        refine ⟨ns[i], t, List.getElem?_eq_getElem hi, ?_⟩
        rw [e, List.getD_eq_getElem?_getD, List.getElem?_eq_getElem hi] <;> rfl
      refine set_update_ints ((Walks.list hh3 _ l hneI items).toS) s.heap.objs.size
        hSf ns hisz hb hval (items.size - 0) 0 _ (by omega) (Nat.zero_le _)
        ⟨⟨_, Heap.get?_push_size _ rfl, rfl, rfl⟩, (hl1.push _)⟩ ?hS0 ?hR
      case hS0 => exact ⟨0, Nat.le_refl 0, setR_new_at (Heap.get?_push_of_some _ hS)⟩
      case hR =>
        intro s' c' hm hc' hS'
        obtain ⟨h', g2, d', tk', os'⟩ := s'
        obtain rfl : g2 = s.gens := hm.gens
        obtain rfl : d' = s.drawn := hm.drawn
        obtain rfl : os' = s.os := hm.os
        show wpAny _ _ _ _ _ _
        refine wpAny_pure ?_
        show wpAny _ _ (ret Value.none) _ _ _
        rw [hisz] at hc'
        refine wpAny_pure ⟨rfl, h', tk', c', rfl, hS', hc', fun b o e => ?_⟩
        have hb0 : b < s.heap.objs.size := Heap.lt_size e
        have hb1 : b ≠ s.heap.objs.size := Nat.ne_of_lt hb0
        have hb2 : b ≠ (s.heap.push { cls := .type "set", dict := none, data := .set #[] 0 (.fresh 0 0 (!w.params.followText "set-order")) }).objs.size := by
          rw [Heap.size_push]; exact Nat.ne_of_lt (Nat.lt_succ_of_lt hb0)
        exact hm.heap b o (by simp only [List.mem_cons, List.mem_singleton, List.not_mem_nil, or_false, not_or]; exact ⟨hb1, hb2⟩) (Heap.get?_push_of_some _ (Heap.get?_push_of_some _ e))
    · match r₂, hr₂ with
      | .error e, hr₂ => exact hr₂
      | .ok .next, hr₂ => exact hr₂.elim
      | .ok .brk, hr₂ => exact hr₂.elim
      | .ok .cont, hr₂ => exact hr₂.elim
      | .ok (.ret r), hr₂ =>
        obtain ⟨rfl, h', tk, c', rfl, hS', hc', hk'⟩ := hr₂
        repeat (any_goals (first | assumption | wp_step))
        exact h _ _ _ hS' hc' hk'
end
section
variable {X : Cx}
/-- sorted(set(xs)), ints -/
def tSortSet (K : PySem.W.Frag) (ta : TE) : TE := fun σ H Q => ta σ H fun x H1 => ∃ (l : Addr) (ns : List Int), x = V.ref l ∧ SqL K H1 l (ns.map V.int) ∧ ns.length < 64 ∧
  ∀ (zs : List Int) (p : Addr), zs.Pairwise (· < ·) → (∀ k : Int, k ∈ zs ↔ k ∈ ns) → zs.length ≤ ns.length → H1 p = none → Q (.ref p) (upd H1 p (.lst (zs.map V.int)))
theorem pe_sortSet {a : Expr} {ta : TE} {p p2 q pos : Pos} (hc : X.calm = true) (hg : Gl X "sorted") (hm : X.mg "sorted" = none) (hg2 : Gl X "set") (hm2 : X.mg "set" = none) (ha : PE X a ta)
    (na : starEach [a] X.env = (false, eval a X.env) :: starEach [] X.env := by rfl) : PE X (.Call (.Name "sorted" p) [.Call (.Name "set" p2) [a] [] q] [] pos) (tSortSet X.K ta) := by
  refine ⟨fun pins s σ H Q I h => ?_⟩
  refine Call_ (ld_blt I hg hm (by first | rfl | kernel_rfl : bootBuiltins "sorted" = some (.builtin "sorted")) ?_)
  refine PyProof.Rows.callWith_builtin1 (PyProof.Rows.args_cons ?_ rfl) rfl rfl
  refine Call_ (ld_blt I hg2 hm2 PyProof.Rows.boot_set ?_)
  refine PyProof.Rows.callWith_type1 (PyProof.Rows.args_cons (thn (ha.run pins s σ H _ I h) fun v s1 ⟨x, H1, I1, r1, q1⟩ => PyProof.Rows.args_nil ?_) na) na rfl
  obtain ⟨l, ns, rfl, hq, h64, q1⟩ := q1
  cases r1
  obtain ⟨its, r, pl, hz⟩ := I1.list hq
  refine call_set_lstI ns (I1.ok.hd hc) pl.isList (by simpa using ints_of_vals r) (by unfold scanBound; omega) fun h' tk c R hcn k => ?_
  refine PyProof.Rows.args_nil ?_
  have I2 : Inv X pins σ H1 { s1 with heap := h', toks := tk } := I1.kept k
  refine sorted_set R (I2.ok.hd hc) (by omega) fun s' p out c2 zs k2 g o hp hgt hi hs hmm hl => ?_
  have hlen : (zs.map V.int).length ≤ sizeLine := by rw [List.length_map, hl, sizeLine_eq]; omega
  have hn : H1 p = none := I2.hok.fresh hp
  have J : Inv X pins σ (upd H1 p (.lst (zs.map V.int))) { ({ s1 with heap := h', toks := tk } : Shared) with heap := s'.heap, gens := s'.gens, drawn := s'.drawn, toks := s'.toks } :=
    I2.call (ch := []) (Un.laid k2 hp hn) (I2.hok.laid k2 hp ⟨hlen, out.toList, c2, vals_of_ints hi, hgt⟩) (by rw [g]; exact I2.bare) (fun _ z => nomatch z)
  have e : s' = { ({ s1 with heap := h', toks := tk } : Shared) with heap := s'.heap, gens := s'.gens, drawn := s'.drawn, toks := s'.toks } := by
    cases s'
    cases s1
    cases o
    rfl
  rw [e]
  exact ⟨.ref p, _, J, rfl, q1 zs p hs (fun k => by rw [hmm k]; simp) (by omega) hn⟩
/-- repr(xs), no repr under way -/
def rRepr (K : PySem.W.Frag) : List V → Hp → VK → Prop := fun xs H Q => ∃ a d, xs = [.ref a] ∧ Dp K H (.ref a) d ∧ d.showable = true ∧ d.hasDict = false ∧ d.depth ≤ 60 ∧ d.shown.length ≤ sizeLine ∧ Q (.str d.shown) H
theorem call_reprL (hg : X.A.guards = some []) (hu : X.A.units + 64 < cLine) : CallR X (.builtin "repr") (rRepr X.K) := by
  intro pins s σ H xs us Q I r h
  obtain ⟨a, d, rfl, hd, hs, hh, hdp, hz, q⟩ := h
  rw [Vals.ref1 r]
  obtain ⟨as, hr⟩ := Dp.reads I d (.ref a) (.ref a) hd rfl
  exact PySem.repr_of_reads' hr hs (fun z => by rw [hh] at z; cases z) hg (by omega) (fun _ _ z => z) (fun h' u tk k => ⟨.str d.shown, H, I.kept k, ⟨_, rfl⟩, q⟩) hz
end
end L2
namespace DL
open PySem PySem.Spec PyProof.Rows L2
mutual
/-- what a thing is as data; g: the mutable ones -/
def dX (g : Addr → Option PyData) : X → Option PyData
  | .non => some .none
  | .bl b => some (.bool b)
  | .int i => some (.int i)
  | .str s => some (.str s)
  | .lst _ xs => (dXs g xs).map .list
  | .tup xs => (dXs g xs).map .tuple
  | .ptr p => g p
  | .scr ns => some (.list (ns.map .int))
  | _ => none
def dXs (g : Addr → Option PyData) : List X → Option (List PyData)
  | [] => some []
  | x :: xs => match dX g x, dXs g xs with
    | some d, some ds => some (d :: ds)
    | _, _ => none
end
def gM (M : Mu) : Nat → Addr → Option PyData
  | 0, _ => none
  | n + 1, p => match M p with
    | some (.lst zs) => (dXs (gM M n) zs).map .list
    | _ => none
section
variable {K : PySem.W.Frag} {N : Ent} {O H : Hp} {M : Mu}
theorem dpAll_ints : ∀ (ns : List Int), DpAll K H (ns.map V.int) (ns.map PyData.int)
  | [] => .nil
  | n :: ns => .cons (.int n) (dpAll_ints ns)
mutual
theorem dX_ok (S : Stt K N O M H) {g : Addr → Option PyData} (hg : ∀ p d, g p = some d → Dp K H (.ref p) d) : ∀ (x : X) {v : V} {d : PyData}, Rp K O N.B0 x v → dX g x = some d → Dp K H v d
  | .non, _, _, r, h => by simp only [Rp] at r; simp only [dX] at h; cases h; subst r; exact .non
  | .bl b, _, _, r, h => by simp only [Rp] at r; simp only [dX] at h; cases h; subst r; exact .bl b
  | .int i, _, _, r, h => by simp only [Rp] at r; simp only [dX] at h; cases h; subst r; exact .int i
  | .str s, _, _, r, h => by simp only [Rp] at r; simp only [dX] at h; cases h; subst r; exact .str s
  | .ptr p, _, _, r, h => by simp only [Rp] at r; simp only [dX] at h; subst r; exact hg p _ h
  | .ref a, _, _, _, h => by simp only [dX] at h; cases h
  | .obj _ _ _ _, _, _, _, h => by simp only [dX] at h; cases h
  | .exn _ _ _, _, _, _, h => by simp only [dX] at h; cases h
  | .scr ns, _, _, r, h => by
    simp only [dX] at h
    cases h
    obtain ⟨a, vs, e, q, r2⟩ := lstOf_ok S r (show lstOf M (.scr ns) = some (ns.map X.int) from rfl)
    subst e
    rw [r2.ints] at q
    exact .lst q (dpAll_ints ns)
  | .lst b xs, _, _, r, h => by
    simp only [dX] at h
    obtain ⟨ds, e2, e3⟩ := Option.map_eq_some_iff.mp h
    subst e3
    obtain ⟨a, vs, e, q, r2⟩ := lstOf_ok S r (show lstOf M (.lst b xs) = some xs from rfl)
    subst e
    exact .lst q (dXs_ok S hg xs r2 e2)
  | .tup xs, _, _, r, h => by
    simp only [dX] at h
    obtain ⟨ds, e2, e3⟩ := Option.map_eq_some_iff.mp h
    subst e3
    obtain ⟨a, vs, e, q, r2⟩ := tup_ok S r
    subst e
    exact .tup q (dXs_ok S hg xs r2 e2)
theorem dXs_ok (S : Stt K N O M H) {g : Addr → Option PyData} (hg : ∀ p d, g p = some d → Dp K H (.ref p) d) : ∀ (xs : List X) {vs : List V} {ds : List PyData}, RpA K O N.B0 xs vs → dXs g xs = some ds → DpAll K H vs ds
  | [], _, _, r, h => by simp only [RpA] at r; simp only [dXs] at h; cases h; subst r; exact .nil
  | x :: xs, _, _, r, h => by
    simp only [RpA] at r
    obtain ⟨v, t, e, q, u⟩ := r
    subst e
    simp only [dXs] at h
    split at h
    · rename_i d ds e1 e2
      cases h
      exact .cons (dX_ok S hg x q e1) (dXs_ok S hg xs u e2)
    · cases h
end
theorem gM_ok (S : Stt K N O M H) : ∀ (n : Nat) p d, gM M n p = some d → Dp K H (.ref p) d
  | 0, _, _, h => by simp only [gM] at h; cases h
  | n + 1, p, d, h => by
    simp only [gM] at h
    split at h
    · rename_i zs e
      obtain ⟨ds, e2, e3⟩ := Option.map_eq_some_iff.mp h
      subst e3
      obtain ⟨vs, hp, r⟩ := S.cl p _ e
      exact .lst (.inl (.inl hp)) (dXs_ok S (gM_ok S n) zs r e2)
    · cases h
theorem dXs_map (g : Addr → Option PyData) {α : Type} (f : α → X) (f' : α → PyData) (h : ∀ a, dX g (f a) = some (f' a)) : ∀ l : List α, dXs g (l.map f) = some (l.map f')
  | [] => rfl
  | a :: l => by simp only [List.map_cons, dXs, h, dXs_map g f f' h l]
@[simp] theorem dXs_ints (g : Addr → Option PyData) (ns : List Int) : dXs g (ns.map X.int) = some (ns.map PyData.int) := dXs_map g _ _ (fun _ => by simp only [dX]) ns
end
/-- the text that repr gives is told -/
def okR (d : PyData) : Prop := d.showable = true ∧ d.hasDict = false ∧ d.depth ≤ 60 ∧ d.shown.length ≤ sizeLine
def fRepr (xs : List X) (M : Mu) (Q : VKd) : Prop := match xs with
  | [x] => (match x with
    | .lst _ _ | .tup _ | .ptr _ | .scr _ => (match dX (gM M 3) x with
      | some d => okR d ∧ Q (.str d.shown) M
      | none => False)
    | _ => False)
  | _ => False
def fSortSet (m : Bool) (d : DE) : DE := fun δ M Q => d δ M fun x M1 => match lstOf M1 x with
  | some xs => ∃ ns : List Int, xs = ns.map X.int ∧ ns.length < 64 ∧ ∀ zs : List Int, zs.Pairwise (· < ·) → (∀ k, k ∈ zs ↔ k ∈ ns) → zs.length ≤ ns.length → newl m (zs.map X.int) M1 Q
  | none => False
section
variable {K : PySem.W.Frag} {Y : Cx} {W : Ent → Prop} {a : Expr} {d : DE} {p p2 q pos : Pos}
theorem snd_repr : SndC K (rRepr K) fRepr := fun N O M H xs vs Q Qd S r h k => by
  unfold fRepr at h
  split at h
  · rename_i x
    obtain ⟨v, e, r1⟩ := rpa1 r
    subst e
    have key : ∀ d, dX (gM M 3) x = some d → okR d → Qd (.str d.shown) M → (∃ a, v = .ref a) → rRepr K [v] H Q := fun d e ⟨h1, h2, h3, h4⟩ q ⟨a, ea⟩ => by
      have z := dX_ok S (gM_ok S 3) x r1 e
      subst ea
      exact ⟨a, d, rfl, z, h1, h2, h3, h4, k _ _ _ (.str d.shown) _ (Nxt.refl S) (by simp only [Rp]) q⟩
    split at h
    · split at h
      · rename_i d e
        simp only [Rp] at r1
        obtain ⟨a, vs, e1, _⟩ := id r1
        exact key d e h.1 h.2 ⟨a, e1⟩
      · exact h.elim
    · split at h
      · rename_i d e
        simp only [Rp] at r1
        obtain ⟨a, vs, e1, _⟩ := id r1
        exact key d e h.1 h.2 ⟨a, e1⟩
      · exact h.elim
    · split at h
      · rename_i d e
        simp only [Rp] at r1
        exact key d e h.1 h.2 ⟨_, r1⟩
      · exact h.elim
    · split at h
      · rename_i d e
        simp only [Rp] at r1
        obtain ⟨a, e1, _⟩ := id r1
        exact key d e h.1 h.2 ⟨a, e1⟩
      · exact h.elim
    · exact h.elim
  · exact h.elim
theorem pd_sortSet (m : Bool) (hc : Y.calm = true) (hm : Y.mg "sorted" = none) (hm2 : Y.mg "set" = none) (ha : PD Y W a d) (hg : Gl Y "sorted" := by rfl) (hg2 : Gl Y "set" := by rfl)
    (na : starEach [a] Y.env = (false, eval a Y.env) :: starEach [] Y.env := by rfl) : PD Y W (.Call (.Name "sorted" p) [.Call (.Name "set" p2) [a] [] q] [] pos) (fSortSet m d) := by
  obtain ⟨t, h1, s1⟩ := ha.ex
  refine ⟨_, pe_sortSet hc hg hm hg2 hm2 h1 na, fun N O M δ σ H Q Qd w S L h kk => s1 N O M δ σ H _ _ w S L h fun O1 M1 H1 x v n1 r1 h => ?_⟩
  split at h
  · rename_i xs ex
    obtain ⟨ns, e1, h64, h⟩ := h
    subst e1
    obtain ⟨l, vs, e2, q2, r2⟩ := lstOf_ok n1.st r1 ex
    rw [r2.ints] at q2
    refine ⟨l, ns, e2, q2, h64, fun zs p hs hmm hl hp => ?_⟩
    exact newl_ok n1.st (RpA.of_ints zs) (h zs hs hmm hl) (fun O' M' H' x v n r q => kk O' M' H' x v (n1.trans n) r q) p hp
  · exact h.elim
/-- x == y, x != y of things made of lists and tuples -/
def fEqD (n : Bool) (x y : X) (M : Mu) (Q : VKd) : Prop := match dX (gM M 3) x, dX (gM M 3) y with
  | some d, some e => SeqAt.shaped d = true ∧ SeqAt.shaped e = true ∧ Q (.bl (n != PyData.eqv d e)) M
  | _, _ => False
theorem snd_eqD : SndOp K (rEqD K) (fEqD false) := fun N O M H x y v u Q Qd S rx ry h k => by
  unfold fEqD at h
  split at h
  · rename_i d e e1 e2
    exact ⟨d, e, dX_ok S (gM_ok S 3) x rx e1, dX_ok S (gM_ok S 3) y ry e2, h.1, h.2.1, k _ _ _ (.bl (false != PyData.eqv d e)) _ (Nxt.refl S) (by simp [Rp]) h.2.2⟩
  · exact h.elim
theorem snd_neD : SndOp K (rNeD K) (fEqD true) := fun N O M H x y v u Q Qd S rx ry h k => by
  unfold fEqD at h
  split at h
  · rename_i d e e1 e2
    exact ⟨d, e, dX_ok S (gM_ok S 3) x rx e1, dX_ok S (gM_ok S 3) y ry e2, h.1, h.2.1, k _ _ _ (.bl (true != PyData.eqv d e)) _ (Nxt.refl S) (by simp [Rp]) h.2.2⟩
  · exact h.elim
theorem depthAll_leaf : ∀ {ds : List PyData}, (∀ d ∈ ds, d.depth = 0) → PyData.depthAll ds = 0
  | [], _ => rfl
  | d :: ds, h => by simp only [PyData.depthAll, h d List.mem_cons_self, depthAll_leaf fun e he => h e (List.mem_cons_of_mem _ he)]; rfl
theorem canLayAll0_of : ∀ {ds : List PyData}, (∀ d ∈ ds, d.canLay0 = true) → PyData.canLayAll0 ds = true
  | [], _ => rfl
  | d :: ds, h => by simp only [PyData.canLayAll0, h d List.mem_cons_self, canLayAll0_of fun e he => h e (List.mem_cons_of_mem _ he), Bool.and_self]
theorem shaped_leaves {ds : List PyData} (h : ∀ d ∈ ds, d.canLay0 = true ∧ d.depth = 0) : SeqAt.shaped (.list ds) = true := by
  unfold SeqAt.shaped
  rw [Bool.and_eq_true]
  refine ⟨by simp only [PyData.canLay0]; exact canLayAll0_of fun d hd => (h d hd).1, ?_⟩
  simp only [PyData.depth, depthAll_leaf fun d hd => (h d hd).2]
  decide
theorem shaped_map {α : Type} (f : α → PyData) (h : ∀ a, (f a).canLay0 = true ∧ (f a).depth = 0) (l : List α) : SeqAt.shaped (.list (l.map f)) = true := shaped_leaves fun d hd => by
  obtain ⟨a, _, rfl⟩ := List.mem_map.mp hd
  exact h a
theorem eqv_shaped {d : PyData} (h : SeqAt.shaped d = true) : PyData.eqv d d = true := SeqAt.eqv_refl d (SeqAt.canLay_of_shaped h)
end
end DL

set_option maxRecDepth 100000
/-! DLj: expressions of which the outcome is told: Ev e δ M x M'. -/
namespace DL
open PySem PySem.Spec PyProof.Rows L2
def Ev (e : DE) (δ : Dl) (M : Mu) (x : X) (M' : Mu) : Prop := ∀ Q : VKd, Q x M' → e δ M Q
def EvA (a : DA) (δ : Dl) (M : Mu) (xs : List X) (M' : Mu) : Prop := ∀ Q : List X → Mu → Prop, Q xs M' → a δ M Q
def EvT (t : DT) (δ : Dl) (M : Mu) (b : Bool) (M' : Mu) : Prop := ∀ Q : Bool → Mu → Prop, Q b M' → t δ M Q
section
variable {δ : Dl} {M M1 M2 M' : Mu} {e a b : DE} {r : DA} {x y z : X} {xs ys : List X}
theorem ev_var {i : Nat} (h : δ[i]? = some (some x)) : Ev (dvar i) δ M x M := fun Q q => by
  unfold dvar
  rw [h]
  exact q
theorem ev_c : Ev (dc x) δ M x M := fun Q q => q
theorem ev_nil : EvA dnil δ M [] M := fun Q q => q
theorem ev_cons (h : Ev e δ M x M1) (t : EvA r δ M1 xs M2) : EvA (dcons e r) δ M (x :: xs) M2 := fun Q q => h _ (t _ q)
theorem ev_lst (h : EvA r δ M xs M1) (hl : xs.length ≤ sizeLine) : Ev (dlst false r) δ M (.lst true xs) M1 := fun Q q => h _ ⟨hl, q⟩
theorem ev_tup (h : EvA r δ M xs M1) (hl : xs.length ≤ sizeLine) : Ev (dtup r) δ M (.tup xs) M1 := fun Q q => h _ ⟨hl, q⟩
theorem ev_addL {b1 b2 : Bool} (h : Ev a δ M (.lst b1 xs) M1) (k : Ev b δ M1 (.lst b2 ys) M2) (hl : xs.length + ys.length ≤ sizeLine) : Ev (dop (fAdd false) a b) δ M (.lst true (xs ++ ys)) M2 := fun Q q => h _ (k _ ⟨hl, q⟩)
theorem ev_ix {i : Int} {b1 : Bool} (h : Ev a δ M (.lst b1 xs) M1) (k : Ev b δ M1 (.int i) M2) (hz : atI xs i = some z) : Ev (dop fIx a b) δ M z M2 := fun Q q => h _ (k _ (by
  show (match atI xs i with | some z => Q z M2 | none => False)
  rw [hz]
  exact q))
theorem ev_ixP {i : Int} {p : Addr} (h : Ev a δ M (.ptr p) M1) (k : Ev b δ M1 (.int i) M2) (hp : M2 p = some (.lst xs)) (hz : atI xs i = some z) : Ev (dop fIx a b) δ M z M2 := fun Q q => h _ (k _ (by
  simp only [fIx, lstOf, hp]
  rw [hz]
  exact q))
theorem ev_mk0 {C : Addr} (h : EvA r δ M [] M1) : Ev (dmk C .s0 r) δ M (.exn C [] []) M1 := fun Q q => h _ q
theorem ev_mk1 {C : Addr} {f : Str} (h : EvA r δ M [x] M1) (hx : okX x) : Ev (dmk C (.s1 f) r) δ M (.exn C [f] [x]) M1 := fun Q q => h _ ⟨hx, q⟩
theorem ev_mk2 {C : Addr} {f g : Str} (h : EvA r δ M [x, y] M1) (hx : okX x) (hy : okX y) : Ev (dmk C (.s2 f g) r) δ M (.exn C [g, f] [y, x]) M1 := fun Q q => h _ ⟨hx, hy, q⟩
theorem ev_mkB {C : Addr} {f g : Str} (h : EvA r δ M [x, y] M1) (hx : okX x) (hy : lstOf M1 y = some xs) (hl : xs.length ≤ sizeLine) : Ev (dmk C (.sB f g) r) δ M (.exn C [g, f] [.lst true xs, x]) M1 := fun Q q => h _ ⟨hx, by
  rw [hy]
  exact ⟨hl, q⟩⟩
theorem ev_mkP {C : Addr} : Ev (dmk0 C) δ M (.exn C [] []) M := fun Q q => q
theorem ev_xf {K : PySem.W.Frag} {C : Addr} {f : Str} {ns : List Str} (h : Ev e δ M (.exn C ns xs) M1) (T : XfC K C) (hf : PySem.W.findIn K (.ref C) f = some none) (hl : ns.length = xs.length) (hy : (ns.zip xs).lookup f = some y) : Ev (dxf K f e) δ M y M1 := fun Q q => h _ ⟨T, hf, hl, y, hy, q⟩
theorem ev_is {K : PySem.W.Frag} {C : Addr} {cv : Value} {ns : List Str} {k : Bool} (h : Ev e δ M (.exn C ns xs) M1) (T : XiC K C) (hk : PySem.W.kitOne K (.ref C) cv = some k) : Ev (disx K cv e) δ M (.bl k) M1 := fun Q q => h _ ⟨T, k, hk, q⟩
theorem ev_asg {i : Nat} {D : EndsD} (h : Ev e δ M x M1) (k : D.nx (δ.set i (some x)) M1) : dasg e i D δ M := h _ k
theorem ev_step {i : Nat} {rest : DS} {D : EndsD} (h : Ev e δ M x M1) (k : rest D (δ.set i (some x)) M1) : dseq (dasg e i) rest D δ M := h _ k
theorem ev_ret {D : EndsD} (h : Ev e δ M x M1) (k : D.rt x M1) : dret e D δ M := h _ k
theorem ev_seq {s t : DS} {D : EndsD} (h : s { D with nx := t D } δ M) : dseq s t D δ M := h
theorem ev_not {k : Bool} (h : Ev e δ M (.bl k) M1) : Ev (dnotV e) δ M (.bl (!k)) M1 := fun Q q => h _ q
theorem evt_test {k : Bool} (h : Ev e δ M (.bl k) M1) : EvT (dtest e) δ M k M1 := fun Q q => h _ q
theorem repr_lst {b : Bool} {d : PyData} {Q : VKd} (h : dX (gM M 3) (.lst b xs) = some d) (ok : okR d) (q : Q (.str d.shown) M) : fRepr [.lst b xs] M Q := by
  unfold fRepr
  simp only [h]
  exact ⟨ok, q⟩
theorem sortSet_i {m : Bool} {b : Bool} {ns : List Int} {d : DE} {Q : VKd} (h : Ev d δ M (.lst b (ns.map X.int)) M1) (h64 : ns.length < 64)
    (q : ∀ zs : List Int, zs.Pairwise (· < ·) → (∀ k, k ∈ zs ↔ k ∈ ns) → zs.length ≤ ns.length → newl m (zs.map X.int) M1 Q) : fSortSet m d δ M Q := h _ ⟨ns, rfl, h64, q⟩
theorem eqD_i {n : Bool} {d e' : PyData} {Q : VKd} (h1 : dX (gM M 3) x = some d) (h2 : dX (gM M 3) y = some e') (s1 : SeqAt.shaped d = true) (s2 : SeqAt.shaped e' = true) (q : Q (.bl (n != PyData.eqv d e')) M) : fEqD n x y M Q := by
  unfold fEqD
  simp only [h1, h2]
  exact ⟨s1, s2, q⟩
/-- one statement, its outcomes told -/
theorem step_asg {i : Nat} {rest : DS} {D : EndsD} (S : X → Mu → Prop) (h : ∀ Q : VKd, (∀ x M1, S x M1 → Q x M1) → e δ M Q) (k : ∀ x M1, S x M1 → rest D (δ.set i (some x)) M1) : dseq (dasg e i) rest D δ M := h _ k
theorem step_drop {rest : DS} {D : EndsD} (S : X → Mu → Prop) (h : ∀ Q : VKd, (∀ x M1, S x M1 → Q x M1) → e δ M Q) (k : ∀ x M1, S x M1 → rest D δ M1) : dseq (ddrop e) rest D δ M := h _ k
theorem step_if0 {c : DT} {a : DS} {rest : DS} {D : EndsD} (h : EvT c δ M false M1) (k : rest D δ M1) : dseq (diff c a dnext) rest D δ M := h _ k
theorem step_if1 {c : DT} {a : DS} {b rest : DS} {D : EndsD} (h : EvT c δ M true M1) (k : a { D with nx := rest D } δ M1) : dseq (diff c a b) rest D δ M := h _ k
theorem evt_not {c : DT} {k : Bool} (h : EvT c δ M k M1) : EvT (dnot c) δ M (!k) M1 := fun Q q => h _ q
theorem evt_or0 {c d : DT} {k : Bool} (h : EvT c δ M false M1) (h2 : EvT d δ M1 k M2) : EvT (dor c d) δ M k M2 := fun Q q => h _ (h2 _ q)
theorem ev_repr {b : Bool} {d : PyData} (h : Ev e δ M (.lst b xs) M1) (hd : dX (gM M1 3) (.lst b xs) = some d) (ok : okR d) : Ev (dcb fRepr (dcons e dnil)) δ M (.str d.shown) M1 := fun Q q => h _ (repr_lst hd ok q)
theorem ev_eqS {n : Bool} {s s' : Str} (h : Ev a δ M (.str s) M1) (k : Ev b δ M1 (.str s') M2) : Ev (dop (fEq n) a b) δ M (.bl (n != decide (s = s'))) M2 := fun Q q => h _ (k _ q)
theorem ev_eqI {n : Bool} {i j : Int} (h : Ev a δ M (.int i) M1) (k : Ev b δ M1 (.int j) M2) : Ev (dop (fEq n) a b) δ M (.bl (n != decide (i = j))) M2 := fun Q q => h _ (k _ q)
theorem ev_eqD {n : Bool} {d e' : PyData} (h : Ev a δ M x M1) (k : Ev b δ M1 y M2) (h1 : dX (gM M2 3) x = some d) (h2 : dX (gM M2 3) y = some e') (s1 : SeqAt.shaped d = true) (s2 : SeqAt.shaped e' = true) :
    Ev (dop (fEqD n) a b) δ M (.bl (n != PyData.eqv d e')) M2 := fun Q q => h _ (k _ (eqD_i h1 h2 s1 s2 q))
theorem ev_and1 (h : Ev a δ M (.bl true) M1) (k : Ev b δ M1 x M2) : Ev (dandV a b) δ M x M2 := fun Q q => h _ (k _ q)
theorem ev_callP {n : Nat} {f : PF} {Er : ErrK} (h : EvA r δ M xs M1) (hf : ∀ (P : X → Prop) E, P x → f (xs.map (vw m0 M1 n)) P E) : Ev (dcallP n f Er r) δ M x M1 := fun Q q => h _ (hf _ _ q)
theorem ev_len {b : Bool} (h : Ev e δ M (.lst b xs) M1) : Ev (dcb fLen (dcons e dnil)) δ M (.int xs.length) M1 := fun Q q => h _ q
end
theorem okR_of {d : PyData} (h1 : d.showable = true) (h2 : d.hasDict = false) (h3 : d.depth ≤ 60) (h4 : d.leavesShort 60 = true) (h5 : d.weight ≤ 100000) : okR d := by
  have := PyData.shown_le 60 (by decide) d h4
  exact ⟨h1, h2, h3, by rw [sizeLine_eq]; omega⟩
theorem int_small {z : Int} (h : z.natAbs < 10 ^ 30) : (PyData.int z).showable = true ∧ (PyData.int z).leavesShort 60 = true ∧ (PyData.int z).weight ≤ 100 := by
  have hl : z = 0 ∨ z.natAbs.log2 < 100 := by
    by_cases h0 : z.natAbs = 0
    · exact .inl (by omega)
    · exact .inr ((Nat.log2_lt h0).mpr (Nat.lt_trans h (by decide)))
  refine ⟨?_, ?_, ?_⟩
  · simp only [PyData.showable]
    rcases hl with rfl | hl
    · decide
    · exact decide_eq_true (by omega)
  · simp only [PyData.leavesShort]
    refine decide_eq_true ?_
    have e := int_text_length_le10 (k := 30) (by decide) h
    show (Str.ofString (toString z)).length ≤ 60
    rw [PySem.ofString_length]
    omega
  · simp only [PyData.weight]
    split
    · omega
    · rename_i hz
      rcases hl with rfl | hl
      · exact absurd rfl hz
      · omega
theorem ints_ok : ∀ {zs : List Int}, (∀ z ∈ zs, z.natAbs < 10 ^ 30) → PyData.showableAll (zs.map .int) = true ∧ PyData.hasDictAll (zs.map .int) = false ∧ PyData.depthAll (zs.map .int) = 0 ∧ PyData.leavesShortAll 60 (zs.map .int) = true ∧ PyData.weightAll (zs.map .int) ≤ 101 * zs.length
  | [], _ => ⟨rfl, rfl, rfl, rfl, by simp [PyData.weightAll]⟩
  | z :: zs, h => by
    obtain ⟨a1, a2, a3⟩ := int_small (h z List.mem_cons_self)
    obtain ⟨b1, b2, b3, b4, b5⟩ := ints_ok fun y hy => h y (List.mem_cons_of_mem _ hy)
    refine ⟨?_, ?_, ?_, ?_, ?_⟩
    · simp only [List.map_cons, PyData.showableAll, a1, b1, Bool.and_self]
    · simp only [List.map_cons, PyData.hasDictAll, PyData.hasDict, b2, Bool.or_self]
    · simp only [List.map_cons, PyData.depthAll, PyData.depth, b3]; rfl
    · simp only [List.map_cons, PyData.leavesShortAll, a2, b4, Bool.and_self]
    · simp only [List.map_cons, PyData.weightAll, List.length_cons]
      omega
section
variable {δ : Dl} {M M1 M2 M' : Mu} {e a b : DE} {r : DA} {x y z : X} {xs ys : List X}
theorem ev_eqq {s : Str} (h : Ev a δ M (.str s) M1) (k : Ev b δ M1 (.str s) M2) : Ev (dop (fEq true) a b) δ M (.bl false) M2 := fun Q q => h _ (k _ (by
  show Q (.bl (true != decide (s = s))) M2
  rw [decide_eq_true rfl]
  exact q))
theorem ev_eqqD {d : PyData} (h : Ev a δ M x M1) (k : Ev b δ M1 y M2) (h1 : dX (gM M2 3) x = some d) (h2 : dX (gM M2 3) y = some d) (s1 : SeqAt.shaped d = true) : Ev (dop (fEqD true) a b) δ M (.bl false) M2 := fun Q q => h _ (k _ (eqD_i h1 h2 s1 s1 (by
  rw [eqv_shaped s1]
  exact q)))
theorem ev_lenN {b : Bool} {n : Int} (h : Ev e δ M (.lst b xs) M1) (hl : (xs.length : Int) = n) : Ev (dcb fLen (dcons e dnil)) δ M (.int n) M1 := fun Q q => h _ (by
  show Q (.int xs.length) M1
  rw [hl]
  exact q)
/-- for i in range(n), by an invariant -/
theorem step_rng {a : DA} {g : DG} {body rest : DS} {D : EndsD} {j : Int} (h : EvA a δ M [.int j] M1) (hj : j < 2 ^ 60) (hj0 : 0 ≤ j) (I : Nat → Dl → Mu → Prop) (h0 : I 0 δ M1) (k : ∀ δ M, I j.toNat δ M → rest D δ M)
    (hb : ∀ (i : Nat) (δ : Dl) (M : Mu) (R B : Dl → Mu → Prop), i < j.toNat → I i δ M → (∀ δ' M', I (i + 1) δ' M' → R δ' M') → g (.int i) δ M fun δ1 M1 => body { nx := R, rt := D.rt, ct := R, bk := B } δ1 M1) : dseq (dforS (dirng1 a) g body) rest D δ M := by
  refine h _ ⟨hj, by omega, ?_⟩
  refine dfor_rng I h0 (fun δ M q => ⟨trivial, k δ M q⟩) fun i δ M R hi q kk => ⟨trivial, ?_⟩
  exact hb i δ M R _ hi q kk
theorem ev_lcr {a : DA} {g : DG} {e : DE} {vs : List Nat} {j : Int} {v : Nat → X} (h : EvA a δ M [.int j] M1) (hj : j < 1000000) (hj0 : 0 ≤ j)
    (hs : ∀ (i : Nat) (R : X → Mu → Prop), i < j.toNat → R (v i) M1 → g (.int i) (wipeD δ vs) M1 fun δ1 M1 => e δ1 M1 R) : Ev (dlc false (dirng1 a) g dyes e vs) δ M (.lst true ((List.range j.toNat).map v)) M1 := fun Q q =>
  h _ ⟨by omega, by omega, dlc_rng (by omega) trivial q hs⟩
end
end DL

set_option maxRecDepth 100000
set_option maxHeartbeats 2000000
/-! HXa: the head's facts, error classes with super().__init__ among them. -/
namespace HX
open PySem PySem.Spec PyProof.Rows L2 DL He
/-- what the row says of the class named x -/
def oexB (K : PySem.W.Frag) (C : Addr) : Bool := match K.lookup C with
  | some ⟨.type t, _, .cls ⟨_, _, .ref C' :: bm, _, _, hd, _, _, _, _, dl⟩, sl⟩ => (match sl.toList with
    | [_, _, _, _, some (.builtin n), _] => decide (t = "type") && (decide (C' = C) && (hd && (!dl && (decide (n = "ValueError.__new__") && PySem.HandSPX.refsVE bm))))
    | _ => false)
  | _ => false
theorem oexB_ok {K : PySem.W.Frag} {C : Addr} (h : oexB K C = true) : ∃ nm q N bs bm sn sub ab col dd k0 k1 k2 k3 k5, K.lookup C = some (excClassObj nm q C N bs bm true sn sub ab col dd k0 k1 k2 k3 k5 "ValueError.__new__") ∧ PySem.HandSPX.refsVE bm = true := by
  unfold oexB at h
  split at h
  · rename_i t dd nm bs C' bm N q hd sn sub ab col dl sl e
    split at h
    · rename_i k0 k1 k2 k3 n k5 es
      simp only [Bool.and_eq_true, decide_eq_true_eq, Bool.not_eq_true'] at h
      obtain ⟨rfl, rfl, rfl, rfl, rfl, hb⟩ := h
      have esl : sl = #[k0, k1, k2, k3, some (.builtin "ValueError.__new__"), k5] := by
        apply Array.ext'
        rw [es]
      subst esl
      exact ⟨_, _, _, _, _, _, _, _, _, _, _, _, _, _, _, e, hb⟩
    · cases h
  · cases h
def o1 (K : PySem.W.Frag) (v : Value) (n : Str) (r : Option Value) : Bool := eqO (PySem.W.findIn K v n) (some r)
def b1 (a : Option Bool) (b : Bool) : Bool := decide (a = some b)
/-- an error class: the facts that isinstance, the fields and the making ask -/
def clsB (K : PySem.W.Frag) (C : Addr) : Bool :=
  oexB K C && (o1 K (.ref C) "__setattr__" (some (.builtin "object.__setattr__")) && (b1 (PySem.W.subIn K (.ref C) (.type "BaseException")) true && (decide (PySem.W.typeIn K (.ref C) = some (.type "type")) && (PySem.W.keepIn K (.ref C) &&
  (o1 K (.ref C) "__getattribute__" (some (.builtin "BaseException.__getattribute__")) && (o1 K (.ref C) "__getattr__" none && (PySem.W.hasDictIn K C && ((PySem.W.clsIn K C).isSome &&
  (o1 K (.ref C) "__class__" (some (.builtin "object.__class__")) && (eqO (PySem.W.specialIn K (.builtin "object.__class__") "__get__") (some (some (.builtin "getset_descriptor.__get__"))) && (b1 (PySem.W.takesIn K (.builtin "object.__class__")) true && b1 (PySem.W.mroIn K C (.type "object")) true)))))))))))
theorem clsB_ok {K : PySem.W.Frag} {C : Addr} (h : clsB K C = true) : OexC K C ∧ XiC K C := by
  simp only [clsB, o1, b1, eqO, Bool.and_eq_true, decide_eq_true_eq] at h
  obtain ⟨h1, h2, h3, h4, h5, h6, h7, h8, h9, h10, h11, h12, h13⟩ := h
  exact ⟨⟨oexB_ok h1, h2, h3, h4, h5⟩, ⟨⟨h6, h7, h3, h8⟩, h9, h10, h11, h12, h13⟩⟩
/-- its __init__ -/
abbrev ia (K : PySem.W.Frag) (x : Str) : Addr := ma K (ga K x) "__init__"
def iniB (P : Program) (K : PySem.W.Frag) (x q : Str) : Bool :=
  o1 K (.ref (ga K x)) "__init__" (some (.ref (ia K x))) && (decide (PySem.W.typeIn K (.ref (ia K x)) = some (.type "function")) && (b1 (PySem.W.mroIn K (ga K x) (.ref (ga K x))) true && (eqO (PySem.W.nsIn K cStatics "thirdparty.any") (some none) &&
  (eqO (PySem.W.ks_superIn K (ga K x) (ga K x) "__init__") (some (some (.builtin "ValueError.__init__"))) && (b1 (PySem.W.subIn K (.ref (ga K x)) (.type "ValueError")) true &&
  (match K.lookup (ia K x) with
  | some ⟨_, _, .func fd, _⟩ => PySem.W.codeIn K fd.code q && ((match fd.code with
    | .ref cd => (match K.lookup cd with
      | some ⟨_, _, .fields vs, _⟩ => (match (vs[2]? : Option Value) with
        | some (.str f _) => ((P.main.file : Str) == f)
        | _ => false)
      | _ => false)
    | _ => false) && (match fd.closure with
    | [(n, c)] => decide (n = ("__class__" : Str)) && (match K.lookup c with
      | some ⟨_, _, .cell (some (.ref D)), _⟩ => decide (D = ga K x)
      | _ => false)
    | _ => false))
  | _ => false))))))
abbrev FnX : Type := Option (Str × Str × Arguments × FuncBody × Scope × Addr × Value × Addr)
def xObs (K : PySem.W.Frag) (x : Str) : FnX := match K.lookup (ia K x) with
  | some ⟨_, _, .func fd, _⟩ => some (fd.name, fd.qualname, fd.params, fd.body, fd.scope, fd.globals, fd.defaults, fd.builtins)
  | _ => none
/-- one class: its name, its __init__'s qualified name, the def -/
structure XnD where
  x : Str
  qual : Str
  st : Stmt
def XnD.val (d : XnD) : FnX := some (("__init__" : Str), d.qual, defArgs d.st, .stmts (defBody d.st), defScope d.st, mainGlobals, .none, builtinsNs)
/-- what is known of an __init__ -/
structure Ini (P : Program) (K : PySem.W.Frag) (x q : Str) (st : Stmt) : Prop where
  ex : ∃ (oc : Value) (od : Option Addr) (kV doc pm : Value) (an : Option Addr) (cda : Addr) (ct : Value) (cc : Addr) (osl : Array (Option Value)),
    K.lookup (ia K x) = some ⟨oc, od, .func (PySem.W.ksFn "__init__" q (defArgs st) (defBody st) (defScope st) .none kV doc pm an (.ref cda) ct cc), osl⟩ ∧ PySem.W.codeIn K (.ref cda) q = true ∧
    (∃ ccl cdd vs ccs file tf, K.lookup cda = some ⟨ccl, cdd, .fields vs, ccs⟩ ∧ vs[2]? = some (.str file tf) ∧ ((P.main.file : Str) == file) = true) ∧ (∃ cl cld csl, K.lookup cc = some ⟨cl, cld, .cell (some (.ref (ga K x))), csl⟩)
  i1 : PySem.W.findIn K (.ref (ga K x)) "__init__" = some (some (.ref (ia K x)))
  i2 : PySem.W.typeIn K (.ref (ia K x)) = some (.type "function")
  i3 : PySem.W.mroIn K (ga K x) (.ref (ga K x)) = some true
  i4 : PySem.W.nsIn K cStatics "thirdparty.any" = some none
  i5 : PySem.W.ks_superIn K (ga K x) (ga K x) "__init__" = some (some (.builtin "ValueError.__init__"))
  i6 : PySem.W.subIn K (.ref (ga K x)) (.type "ValueError") = some true
theorem ini_ok {P : Program} {K : PySem.W.Frag} {d : XnD} (e : xObs K d.x = d.val) (h : iniB P K d.x d.qual = true) : Ini P K d.x d.qual d.st := by
  simp only [iniB, o1, b1, eqO, Bool.and_eq_true, decide_eq_true_eq] at h
  obtain ⟨h1, h2, h3, h4, h5, h6, h7⟩ := h
  refine ⟨?_, h1, h2, h3, h4, h5, h6⟩
  unfold xObs at e
  split at h7
  · rename_i oc od fd osl lk
    rw [lk] at e
    simp only [Bool.and_eq_true] at h7
    obtain ⟨c1, c2, c3⟩ := h7
    obtain ⟨n1, n2, n3, n4, n5, n6, n7, n8, n9, n10, n11, n12, n13, n14, n15⟩ := fd
    have e2 : (some (n1, n2, n3, n4, n5, n6, n8, n15) : FnX) = some (("__init__" : Str), d.qual, defArgs d.st, FuncBody.stmts (defBody d.st), defScope d.st, mainGlobals, Value.none, builtinsNs) := e
    simp only [Option.some.injEq, Prod.mk.injEq] at e2
    obtain ⟨rfl, rfl, rfl, rfl, rfl, rfl, rfl, rfl⟩ := e2
    dsimp only at c1 c2 c3
    split at c2
    · rename_i cd
      split at c2
      · rename_i ccl cdd vs ccs lc
        split at c2
        · rename_i f tf hv
          split at c3
          · rename_i nm c
            simp only [Bool.and_eq_true, decide_eq_true_eq] at c3
            obtain ⟨rfl, c4⟩ := c3
            split at c4
            · rename_i cl cld D csl lcc
              have hD := of_decide_eq_true c4
              subst hD
              exact ⟨_, _, _, _, _, _, cd, _, c, _, lk, c1, ⟨_, _, _, _, _, _, lc, hv, c2⟩, _, _, _, lcc⟩
            · cases c4
          · cases c3
        · cases c2
      · cases c2
    · cases c2
  · cases h7
theorem Ini.sup {P : Program} {K : PySem.W.Frag} {mg : Str → Option Value} {x q : Str} {st : Stmt} (I : Ini P K x q st) (T : OexC K (ga K x)) (hs : mg "super" = none) (p1 : ∃ ar, ((defArgs st).posonlyargs ++ (defArgs st).args).head? = some ar ∧ ar.arg = ("self" : Str))
    (n1 : (defScope st).names.lookup ("super" : Str) = some .globalImplicit) (n2 : (defScope st).names.lookup ("__class__" : Str) = some .free) (n3 : (defScope st).names.lookup ("self" : Str) = some .local) (top : (P.main.scope.names.lookup ("super" : Str)).isSome = false) :
    ∃ (oc : Value) (od : Option Addr) (kV doc pm : Value) (an : Option Addr) (cda : Addr) (ct : Value) (cc : Addr) (osl : Array (Option Value)),
    K.lookup (ia K x) = some ⟨oc, od, .func (PySem.W.ksFn "__init__" q (defArgs st) (defBody st) (defScope st) .none kV doc pm an (.ref cda) ct cc), osl⟩ ∧ PySem.W.codeIn K (.ref cda) q = true ∧ SupC P K mg (defScope st) (defArgs st) (ia K x) (ga K x) cc cda := by
  obtain ⟨oc, od, kV, doc, pm, an, cda, ct, cc, osl, lk, hcd, c1, c2⟩ := I.ex
  exact ⟨oc, od, kV, doc, pm, an, cda, ct, cc, osl, lk, hcd, ⟨c1, c2, p1, I.i3, hs, n1, n2, n3, top, I.i4, I.i5, I.i6, T⟩⟩
/-! ### the Hook -/
def asX (g : Addr → Option Obj) : Nat → List Addr
  | 0 => [mainGlobals, cStatics]
  | n + 1 => growD g (asX g n)
abbrev AlX : Type := Bool × List FnV × List FnX
def obsX (bf : PySem.W.Frag → Bool) (P : Program) (fn : List FnD) (xn : List XnD) (K : PySem.W.Frag) : AlX :=
  (bf K && ((fn.all fun d => (Fa.code d.at_ d.qual).ok K && eqO (PySem.W.nsIn K mainGlobals d.at_.1) (some (some (.ref (ga K d.at_.1))))) && (xn.all fun d => iniB P K d.x d.qual)), fn.map fun d => fnObs K d.at_, xn.map fun d => xObs K d.x)
def valX (fn : List FnD) (xn : List XnD) : AlX := (true, fn.map FnD.val, xn.map XnD.val)
def SaysX (bf : PySem.W.Frag → Bool) (P : Program) (fn : List FnD) (xn : List XnD) (K : PySem.W.Frag) : Prop := obsX bf P fn xn K = valX fn xn
def obsXG (n : Nat) (bf : PySem.W.Frag → Bool) (P : Program) (fn : List FnD) (xn : List XnD) (g : Addr → Option Obj) : AlX := obsX bf P fn xn (frG g (asX g n))
def hookX (n : Nat) (bf : PySem.W.Frag → Bool) (P : Program) (fn : List FnD) (xn : List XnD) : PySem.W.Hook where
  α := AlX
  obs := fun s => obsXG n bf P fn xn s.heap.get?
  val := fun _ => valX fn xn
  says := fun _ h => ∃ K : PySem.W.Frag, K.In h ∧ SaysX bf P fn xn K
  of := fun _ _ e => ⟨_, frG_in, e⟩
  keeps := fun _ _ _ ⟨K, hK, c⟩ k => ⟨K, PySem.W.Frag.In.keeps hK k, c⟩
theorem obsXG_eq {n : Nat} {bf : PySem.W.Frag → Bool} {P : Program} {fn : List FnD} {xn : List XnD} {g : Addr → Option Obj} {s : Shared} (h : ∀ a, g a = s.heap.get? a) : obsXG n bf P fn xn g = (hookX n bf P fn xn).obs s := by
  have e : g = s.heap.get? := funext h
  rw [e] <;> rfl
section
variable {bf : PySem.W.Frag → Bool} {P : Program} {fn : List FnD} {xn : List XnD} {K : PySem.W.Frag}
theorem SaysX.bools (c : SaysX bf P fn xn K) : bf K = true ∧ (fn.all fun d => (Fa.code d.at_ d.qual).ok K && eqO (PySem.W.nsIn K mainGlobals d.at_.1) (some (some (.ref (ga K d.at_.1))))) = true ∧ (xn.all fun d => iniB P K d.x d.qual) = true := by
  have c1 := congrArg (fun z : AlX => z.1) c
  simp only [obsX, valX, Bool.and_eq_true] at c1
  exact c1
theorem SaysX.def_ (c : SaysX bf P fn xn K) (i : Nat) {x : Str} {st : Stmt} (h : fn[i]? = some ⟨(x, none), x, x, defArgs st, defBody st, defScope st⟩) {hp : Heap} {mg : Str → Option Value} (X : K.In hp) (G : hp.Ns mainGlobals mg) : ∃ f fdt, Fun K x x st f fdt ∧ mg x = some (.ref f) := by
  have c2 := List.all_eq_true.mp c.bools.2.1 _ (List.mem_of_getElem? h)
  obtain ⟨c3, c4⟩ := Bool.and_eq_true_iff.mp c2
  have e : fn.map (fun d => fnObs K d.at_) = fn.map FnD.val := congrArg (fun z : AlX => z.2.1) c
  have e2 : (fn.map fun d => fnObs K d.at_)[i]? = (fn.map FnD.val)[i]? := by rw [e]
  rw [List.getElem?_map, List.getElem?_map, h] at e2
  obtain ⟨oc, od, osl, kV, doc, pm, an, cdv, ct, lk, hcd⟩ := fn_ok (Option.some.inj e2) c3
  have lk' : K.lookup (ga K x) = _ := lk
  refine ⟨ga K x, _, ⟨⟨oc, od, kV, doc, pm, an, cdv, ct, osl, rfl, lk', hcd⟩, ?_⟩, PySem.W.mg_of X G (eqO_ok c4)⟩
  unfold PySem.W.keepIn
  simp only [lk']
theorem SaysX.ini (c : SaysX bf P fn xn K) (i : Nat) {d : XnD} (h : xn[i]? = some d) : Ini P K d.x d.qual d.st := by
  have c2 := List.all_eq_true.mp c.bools.2.2 _ (List.mem_of_getElem? h)
  have e : xn.map (fun d => xObs K d.x) = xn.map XnD.val := congrArg (fun z : AlX => z.2.2) c
  have e2 : (xn.map fun d => xObs K d.x)[i]? = (xn.map XnD.val)[i]? := by rw [e]
  rw [List.getElem?_map, List.getElem?_map, h] at e2
  exact ini_ok (Option.some.inj e2) c2
end
end HX
namespace HX
open PySem PySem.Spec PyProof.Rows L2 DL He
/-- the law's promise at its script -/
theorem sp_law {K : PySem.W.Frag} {g : PF} {H : Hp} {a : Addr} {ns : List Int} (hO : L2.Only H) (hS : SqL K H a (ns.map V.int)) (h : ∀ (Q : DL.X → Prop) E, Q (.bl true) → g [.scr ns] Q E) : spG K (PFd g) [.ref a] H (fun v _ => v = .bl true) fun _ _ _ => False := by
  refine ⟨fun _ => none, m0, [.scr ns], fun y _ => y = .bl true, fun _ _ _ _ => False, ?_, ?_, ⟨rfl, h _ _ rfl⟩, ?_, ?_⟩
  · refine ⟨fun _ _ z => (nomatch z), fun _ _ z => (nomatch z), fun b xs z => ?_, fun _ _ z => (nomatch z), Ex.refl _, Ex.refl _, Ex.refl _, fun _ _ z => (nomatch z), fun _ z => z, fun _ _ z => (nomatch z)⟩
    rcases hO b with e | ⟨o, ys, e⟩
    · rw [e] at z; cases z
    · rw [e] at z; cases z
  · refine RpA.cons ?_ RpA.nil
    simp only [Rp]
    exact ⟨a, rfl, by rw [fz_m0]; exact hS⟩
  · intro O' M' H' y v _ r _ _ e
    subst e
    simpa only [Rp] using r
  · intro _ _ _ _ _ _ _ _ _ _ _ z
    exact z.elim
end HX

set_option maxRecDepth 100000
set_option maxHeartbeats 0
namespace K65
open PySem PySem.Spec PyProof.Rows L2 DL
def topS (i : Nat) : Stmt := PySem.Challenge.pw_nowherezero_k65_errors.main.body.getD i (.Pass ⟨0, 0, 0, 0⟩)
section
variable {P : Program} {w : World} {K : PySem.W.Frag} {mg : Str → Option Value} {base : Heap}
/-! ### the law's own helpers: the state, the next number -/
theorem line_ge {n : Nat} (h : n ≤ 1000000) : n ≤ sizeLine := by rw [sizeLine_eq]; omega
theorem line_gt {n : Nat} (h : n ≤ 1000000) : n < sizeLine := by rw [sizeLine_eq]; omega
theorem pow10_18 : (10 : Int) ^ (18 : Int).toNat = 1000000000000000000 := by decide
def f_cell : PF := fun xs Q _ => ∃ (ns : List Int) (k : Int), xs = [.scr ns, .int k] ∧ 0 ≤ k ∧ ∀ c, Q (.int c)
abbrev s_law_cell : Stmt := topS 32
theorem sc_law_cell : FnScope ["script", "k"] ["script", "k"] (defScope s_law_cell) := ⟨rfl, rfl, rfl, by decide +kernel, rfl, by decide +kernel, by decide +kernel⟩
theorem cal_law_cell (B : Blt mg) (D : Def K mg "_law_cell" s_law_cell) : Cal P w K mg base CX0 "_law_cell" 1 ["script", "k"] (PFd f_cell) := by
  refine Cal.mk' D (fun _ _ _ _ _ _ us hl => match us, hl with | [_, _], _ => rfl) fun f fdt F => fnD F sc_law_cell (fun xs M Q E h => ?len) fun cdv A outer s H E hr => ⟨_,
    ((pssd_cons (psd_if (ptd_cmp op_lt snd_B (pd_var 1) (pd_callB call_len_seq snd_len (by rfl) B.len PySem.boot_len (pad_cons (pd_var 0) pad_nil)) (nomark _))
(pssd_one (psd_ret (pd_ix (pd_var 0) (pd_var 1))))
pssd_nil)
(pssd_one (psd_ret pd_int)))), fun xs M Qd Ed h => ?rd⟩
  case len =>
    obtain ⟨_, ns, k, rfl, _⟩ := h
    rfl
  case rd =>
    obtain ⟨rfl, ns, k, rfl, hk, q⟩ := h
    simp only [dseq, dasg, dasgG, dgsub, setL, dop, dun, dcb, dcons, dnil, dret, dretN, dnext, ddrop, diff, dif, dtest, dand, dor, dnot, dandV, dorV, dnotV, dchain, daug, dpar, dforS, dlc, dyes, dlst, dtup, dbm, fAppend, fPop, dvar, dc, fIx, fSl, dsl, dpart, dno, fI, fI0, fU, fAdd, fMul, fInt, fAbs, fLen, fMin2, fList, fEq, fIsN, gI, gB, lstOf, lstO, newl, dgname, dgtup, dgcons, dgnil, dirng1, dirng2, dilst, ditup, dienum, dizip, stays, startD, endD, dcallP, dcallN, fS, dfz, fzK, dbreak, dcont, wipeD, List.map_cons, List.map_nil, List.length_cons, List.length_nil, List.replicate, List.cons_append, List.nil_append, List.getElem?_cons_zero, List.getElem?_cons_succ, List.set_cons_zero, List.set_cons_succ, atI_zero, atI_one, atI_two, atI_three, ixN_zero, ixN_one, mset_same, mset_mset, mdel_mset, List.length_map, vw_one, Option.isSome_some, true_and, and_true, dmk, dmk0, dxf, disx, mkS, okX]
    by_cases hl : k < ns.length
    · rw [decide_eq_true hl]
      simp only [dseq, dasg, dasgG, dgsub, setL, dop, dun, dcb, dcons, dnil, dret, dretN, dnext, ddrop, diff, dif, dtest, dand, dor, dnot, dandV, dorV, dnotV, dchain, daug, dpar, dforS, dlc, dyes, dlst, dtup, dbm, fAppend, fPop, dvar, dc, fIx, fSl, dsl, dpart, dno, fI, fI0, fU, fAdd, fMul, fInt, fAbs, fLen, fMin2, fList, fEq, fIsN, gI, gB, lstOf, lstO, newl, dgname, dgtup, dgcons, dgnil, dirng1, dirng2, dilst, ditup, dienum, dizip, stays, startD, endD, dcallP, dcallN, fS, dfz, fzK, dbreak, dcont, wipeD, List.map_cons, List.map_nil, List.length_cons, List.length_nil, List.replicate, List.cons_append, List.nil_append, List.getElem?_cons_zero, List.getElem?_cons_succ, List.set_cons_zero, List.set_cons_succ, atI_zero, atI_one, atI_two, atI_three, ixN_zero, ixN_one, mset_same, mset_mset, mdel_mset, List.length_map, vw_one, Option.isSome_some, true_and, and_true, dmk, dmk0, dxf, disx, mkS, okX, atI_map X.int hk hl 0]
      exact rt_pure rfl (q _)
    · rw [decide_eq_false hl]
      exact rt_pure rfl (q _)
def f_numbers : NF := fun xs Q _ => ∃ (c m : Int), xs = [.int c, .int m] ∧ 0 ≤ m ∧ m ≤ 1000 ∧ ∀ zs : List Int, zs.length = m.toNat → (∀ z ∈ zs, 0 ≤ z ∧ z < 1000) → Q (zs.map .int)
theorem mono_law_numbers : MonoN f_numbers := fun _ _ _ _ h ⟨c, m, e, h0, h1, q⟩ => ⟨c, m, e, h0, h1, fun zs a b => h _ (q zs a b)⟩
theorem cdiv_k {rest : Int} : CDiv rest 1000 := ⟨by decide, by decide⟩
theorem cpow18 : CPow 10 18 := ⟨by decide, by decide, by decide⟩
theorem cmul_r {a b : Int} (h : b.natAbs < 1000000000000) : CMul a b := .inr ⟨by omega, by omega⟩
theorem cmul_l {a b : Int} (h : a.natAbs < 1000000000000) : CMul a b := .inl ⟨by omega, by omega⟩
theorem emod_small {x m : Int} (h : 0 < m) (h2 : m < 1000000000000) : (x % m).natAbs < 1000000000000 := by
  have h3 := Int.emod_nonneg x (show m ≠ 0 by omega)
  have h4 := Int.emod_lt_of_pos x h
  omega
abbrev s_law_numbers : Stmt := topS 33
theorem sc_law_numbers : FnScope ["cell", "many", "rest", "whole", "numbers", "k", "mixed"] ["cell", "many"] (defScope s_law_numbers) := ⟨rfl, rfl, rfl, by decide +kernel, rfl, by decide +kernel, by decide +kernel⟩
theorem cal_law_numbers (B : Blt mg) (D : Def K mg "_law_numbers" s_law_numbers) : Cal P w K mg base CX0 "_law_numbers" 1 ["cell", "many"] (NFd f_numbers) := by
  refine Cal.mk' D (fun _ _ _ _ _ _ us hl => match us, hl with | [_, _], _ => rfl) fun f fdt F => fnD F sc_law_numbers (fun xs M Q E h => ?len) fun cdv A outer s H E hr => ⟨_,
    ((pssd_cons (psd_set 2 sc_law_numbers.nd (pd_callB call_abs snd_abs (by rfl) B.abs (by decide +kernel) (pad_cons (pd_var 0) pad_nil)))
(pssd_cons (psd_set 3 sc_law_numbers.nd (pd_var 2))
(pssd_cons (psd_set 4 sc_law_numbers.nd (pd_lst true pad_nil))
(pssd_cons (psd_for anti0 PassesOwn.never rfl (pid_range1 (by rfl) B.range (pad_cons (pd_var 1) pad_nil)) (pgd_name 5 sc_law_numbers.nd)
(pssd_one (psd_if (pwd_and (ptd_cmp op_ge snd_B (pd_var 3) (pd_pow pd_int pd_int) (nomark _)) (pwd_and1 (ptd_cmp op_gt snd_B (pd_var 2) pd_int (nomark _)))).pt
(pssd_cons (psd_expr (pd_bm PySem.F.slot_list_append PySem.F.type_list_append mt_append snd_append (pd_var 4) (pad_cons (pd_mod (pd_callTy call_int1 snd_int (by rfl) B.int (by decide +kernel) (pad_cons (pd_var 2) pad_nil)) pd_int) pad_nil)))
(pssd_one (psd_set 2 sc_law_numbers.nd (pd_fdiv (pd_var 2) pd_int))))
(pssd_cons (psd_set 6 sc_law_numbers.nd (pd_mod (pd_callTy call_int1 snd_int (by rfl) B.int (by decide +kernel) (pad_cons (pd_add false (pd_add false (pd_mul false (pd_var 3) pd_int) (pd_mul false (pd_var 5) pd_int)) pd_int) pad_nil)) pd_int))
(pssd_cons (psd_set 6 sc_law_numbers.nd (pd_mod (pd_callTy call_int1 snd_int (by rfl) B.int (by decide +kernel) (pad_cons (pd_add false (pd_add false (pd_mul false (pd_var 6) (pd_var 6)) (pd_mul false pd_int (pd_var 5))) pd_int) pad_nil)) pd_int))
(pssd_one (psd_expr (pd_bm PySem.F.slot_list_append PySem.F.type_list_append mt_append snd_append (pd_var 4) (pad_cons (pd_mod (pd_callTy call_int1 snd_int (by rfl) B.int (by decide +kernel) (pad_cons (pd_fdiv (pd_var 6) pd_int) pad_nil)) pd_int) pad_nil)))))))))
(pssd_one (psd_ret (pd_var 4)))))))), fun xs M Qd Ed h => ?rd⟩
  case len =>
    obtain ⟨_, c, m, rfl, _⟩ := h
    rfl
  case rd =>
    obtain ⟨rfl, c, m, rfl, h0, h1, q⟩ := h
    simp only [dseq, dasg, dasgG, dgsub, setL, dop, dun, dcb, dcons, dnil, dret, dretN, dnext, ddrop, diff, dif, dtest, dand, dor, dnot, dandV, dorV, dnotV, dchain, daug, dpar, dforS, dlc, dyes, dlst, dtup, dbm, fAppend, fPop, dvar, dc, fIx, fSl, dsl, dpart, dno, fI, fI0, fU, fAdd, fMul, fInt, fAbs, fLen, fMin2, fList, fEq, fIsN, gI, gB, lstOf, lstO, newl, dgname, dgtup, dgcons, dgnil, dirng1, dirng2, dilst, ditup, dienum, dizip, stays, startD, endD, dcallP, dcallN, fS, dfz, fzK, dbreak, dcont, wipeD, List.map_cons, List.map_nil, List.length_cons, List.length_nil, List.replicate, List.cons_append, List.nil_append, List.getElem?_cons_zero, List.getElem?_cons_succ, List.set_cons_zero, List.set_cons_succ, atI_zero, atI_one, atI_two, atI_three, ixN_zero, ixN_one, mset_same, mset_mset, mdel_mset, List.length_map, vw_one, Option.isSome_some, true_and, and_true, dmk, dmk0, dxf, disx, mkS, okX]
    refine ⟨Nat.zero_le _, fun p hp => ⟨by omega, by omega, ?_⟩⟩
    generalize (if c < 0 then -c else c) = a
    refine dfor_rng (fun i δ M => ∃ (rest : Int) (y5 y6 : Option X) (zs : List Int), δ = [some (.int c), some (.int m), some (.int rest), some (.int a), some (.ptr p), y5, y6] ∧ zs.length = i ∧ (∀ z ∈ zs, 0 ≤ z ∧ z < 1000) ∧ M = mset m0 p (.lst (zs.map .int)))
      ⟨a, none, none, [], rfl, rfl, by simp, rfl⟩ ?_ ?_
    · rintro δ M ⟨rest, y5, y6, zs, rfl, hl, hz, rfl⟩
      simp only [dseq, dasg, dasgG, dgsub, setL, dop, dun, dcb, dcons, dnil, dret, dretN, dnext, ddrop, diff, dif, dtest, dand, dor, dnot, dandV, dorV, dnotV, dchain, daug, dpar, dforS, dlc, dyes, dlst, dtup, dbm, fAppend, fPop, dvar, dc, fIx, fSl, dsl, dpart, dno, fI, fI0, fU, fAdd, fMul, fInt, fAbs, fLen, fMin2, fList, fEq, fIsN, gI, gB, lstOf, lstO, newl, dgname, dgtup, dgcons, dgnil, dirng1, dirng2, dilst, ditup, dienum, dizip, stays, startD, endD, dcallP, dcallN, fS, dfz, fzK, dbreak, dcont, wipeD, List.map_cons, List.map_nil, List.length_cons, List.length_nil, List.replicate, List.cons_append, List.nil_append, List.getElem?_cons_zero, List.getElem?_cons_succ, List.set_cons_zero, List.set_cons_succ, atI_zero, atI_one, atI_two, atI_three, ixN_zero, ixN_one, mset_same, mset_mset, mdel_mset, List.length_map, vw_one, Option.isSome_some, true_and, and_true, dmk, dmk0, dxf, disx, mkS, okX]
      exact rt_new mset_same (ownA_map _ (fun _ => rfl) _) (q zs hl hz p rfl)
    · rintro i δ M R hi ⟨rest, y5, y6, zs, rfl, hl, hz, rfl⟩ k
      simp only [dseq, dasg, dasgG, dgsub, setL, dop, dun, dcb, dcons, dnil, dret, dretN, dnext, ddrop, diff, dif, dtest, dand, dor, dnot, dandV, dorV, dnotV, dchain, daug, dpar, dforS, dlc, dyes, dlst, dtup, dbm, fAppend, fPop, dvar, dc, fIx, fSl, dsl, dpart, dno, fI, fI0, fU, fAdd, fMul, fInt, fAbs, fLen, fMin2, fList, fEq, fIsN, gI, gB, lstOf, lstO, newl, dgname, dgtup, dgcons, dgnil, dirng1, dirng2, dilst, ditup, dienum, dizip, stays, startD, endD, dcallP, dcallN, fS, dfz, fzK, dbreak, dcont, wipeD, List.map_cons, List.map_nil, List.length_cons, List.length_nil, List.replicate, List.cons_append, List.nil_append, List.getElem?_cons_zero, List.getElem?_cons_succ, List.set_cons_zero, List.set_cons_succ, atI_zero, atI_one, atI_two, atI_three, ixN_zero, ixN_one, mset_same, mset_mset, mdel_mset, List.length_map, vw_one, Option.isSome_some, true_and, and_true, dmk, dmk0, dxf, disx, mkS, okX]
      have app : ∀ v : Int, 0 ≤ v → v < 1000 → ∀ z ∈ zs ++ [v], 0 ≤ z ∧ z < 1000 := fun v h1 h2 z hm => by
        rcases List.mem_append.mp hm with h | h
        · exact hz z h
        · rw [List.mem_singleton.mp h]; exact ⟨h1, h2⟩
      refine ⟨cpow18, ?_⟩
      have other : ∀ v1 v2 : Int, CMul a 48271 ∧ CMul (↑i) 69621 ∧ (0 : Int) < 2147483647 ∧ CMul ((a * 48271 + ↑i * 69621 + 11) % 2147483647) ((a * 48271 + ↑i * 69621 + 11) % 2147483647) ∧ CMul 40692 ↑i ∧ (0 : Int) < 2147483629 ∧ CDiv v1 7 ∧ (0 : Int) < 1000 ∧ zs.length < sizeLine ∧
          R [some (X.int c), some (X.int m), some (X.int rest), some (X.int a), some (X.ptr p), some (X.int ↑i), some (X.int v1)] (mset m0 p (Cell.lst (List.map X.int zs ++ [X.int (v2 % 1000)]))) := fun v1 v2 =>
        ⟨cmul_r (by decide), cmul_r (by decide), by decide, cmul_l (emod_small (by decide) (by decide)), cmul_l (by decide), by decide, ⟨by decide, by decide⟩, by decide, line_gt (by omega), k _ _ ⟨rest, _, _, zs ++ [v2 % 1000], rfl, by simp [hl], app _ (Int.emod_nonneg _ (by decide)) (Int.emod_lt_of_pos _ (by decide)), by rw [List.map_append]; rfl⟩⟩
      generalize (decide ((10 : Int) ^ (18 : Int).toNat ≤ a)) = b1
      cases b1 with
      | true =>
        generalize (decide (0 < rest)) = b2
        simp only [dseq, dasg, dasgG, dgsub, setL, dop, dun, dcb, dcons, dnil, dret, dretN, dnext, ddrop, diff, dif, dtest, dand, dor, dnot, dandV, dorV, dnotV, dchain, daug, dpar, dforS, dlc, dyes, dlst, dtup, dbm, fAppend, fPop, dvar, dc, fIx, fSl, dsl, dpart, dno, fI, fI0, fU, fAdd, fMul, fInt, fAbs, fLen, fMin2, fList, fEq, fIsN, gI, gB, lstOf, lstO, newl, dgname, dgtup, dgcons, dgnil, dirng1, dirng2, dilst, ditup, dienum, dizip, stays, startD, endD, dcallP, dcallN, fS, dfz, fzK, dbreak, dcont, wipeD, List.map_cons, List.map_nil, List.length_cons, List.length_nil, List.replicate, List.cons_append, List.nil_append, List.getElem?_cons_zero, List.getElem?_cons_succ, List.set_cons_zero, List.set_cons_succ, atI_zero, atI_one, atI_two, atI_three, ixN_zero, ixN_one, mset_same, mset_mset, mdel_mset, List.length_map, vw_one, Option.isSome_some, true_and, and_true, dmk, dmk0, dxf, disx, mkS, okX]
        cases b2 with
        | true =>
          refine ⟨by decide, line_gt (by omega), cdiv_k, k _ _ ⟨rest / 1000, _, _, zs ++ [rest % 1000], rfl, by simp [hl], app _ (Int.emod_nonneg _ (by decide)) (Int.emod_lt_of_pos _ (by decide)), ?_⟩⟩
          rw [List.map_append]; rfl
        | false => exact other _ _
      | false => exact other _ _
/-- a state as it is made -/
def NumsOk (nums : List Int) : Prop := 0 < nums.length ∧ nums.length ≤ 100000
def f_state : NF := fun xs Q _ => ∃ (ns : List Int) (a m : Int), xs = [.scr ns, .int a, .int m] ∧ 0 ≤ a ∧ a ≤ 1000 ∧ 0 < m ∧ m ≤ 1000 ∧ ∀ nums : List Int, NumsOk nums → Q [.lst true (nums.map .int), .int 0]
theorem mono_law_state : MonoN f_state := fun _ _ _ _ h ⟨ns, a, m, e, h0, h1, h2, h3, q⟩ => ⟨ns, a, m, e, h0, h1, h2, h3, fun zs a => h _ (q zs a)⟩
abbrev s_law_state : Stmt := topS 34
theorem sc_law_state : FnScope ["script", "start", "many", "numbers", "k", "cell"] ["script", "start", "many"] (defScope s_law_state) := ⟨rfl, rfl, rfl, by decide +kernel, rfl, by decide +kernel, by decide +kernel⟩
theorem cal_law_state (B : Blt mg) (D : Def K mg "_law_state" s_law_state) (c_law_cell : Cal P w K mg base CX0 "_law_cell" 1 ["script", "k"] (PFd f_cell)) (c_law_numbers : Cal P w K mg base CX0 "_law_numbers" 1 ["cell", "many"] (NFd f_numbers)) : Cal P w K mg base CX0 "_law_state" 2 ["script", "start", "many"] (NFd f_state) := by
  refine Cal.mk' D (fun _ _ _ _ _ _ us hl => match us, hl with | [_, _, _], _ => rfl) fun f fdt F => fnD F sc_law_state (fun xs M Q E h => ?len) fun cdv A outer s H E hr => ⟨_,
    ((pssd_cons (psd_set 3 sc_law_state.nd (pd_lst false pad_nil))
(pssd_cons (psd_for anti0 PassesOwn.never rfl (pid_range2 (by rfl) B.range (pad_cons (pd_var 1) (pad_cons (pd_add false (pd_var 1) (pd_var 2)) pad_nil))) (pgd_name 4 sc_law_state.nd)
(pssd_cons (psd_set 5 sc_law_state.nd (pd_cP 2 c_law_cell (hr.mono (by decide)) pass0 we0 (pad_cons (pd_var 0) (pad_cons (pd_var 4) pad_nil))))
(pssd_cons (psd_if (ptd_cmp op_lt snd_B (pd_callB call_abs snd_abs (by rfl) B.abs (by decide +kernel) (pad_cons (pd_var 5) pad_nil)) (pd_pow pd_int pd_int) (nomark _))
(pssd_one (psd_set 5 sc_law_state.nd (pd_add false (pd_mul false (pd_var 5) pd_int) (pd_var 4))))
pssd_nil)
(pssd_one (psd_set 3 sc_law_state.nd (pd_add false (pd_var 3) (pd_cNF 2 mono_law_numbers c_law_numbers (hr.mono (by decide)) pass0 we0 (pad_cons (pd_var 5) (pad_cons pd_int pad_nil)))))))))
(pssd_one (psd_ret (pd_lst true (pad_cons (pd_var 3) (pad_cons pd_int pad_nil)))))))), fun xs M Qd Ed h => ?rd⟩
  case len =>
    obtain ⟨_, ns, a, m, rfl, _⟩ := h
    rfl
  case rd =>
    obtain ⟨rfl, ns, a, m, rfl, h0, h1, h2, h3, q⟩ := h
    simp only [dseq, dasg, dasgG, dgsub, setL, dop, dun, dcb, dcons, dnil, dret, dretN, dnext, ddrop, diff, dif, dtest, dand, dor, dnot, dandV, dorV, dnotV, dchain, daug, dpar, dforS, dlc, dyes, dlst, dtup, dbm, fAppend, fPop, dvar, dc, fIx, fSl, dsl, dpart, dno, fI, fI0, fU, fAdd, fMul, fInt, fAbs, fLen, fMin2, fList, fEq, fIsN, gI, gB, lstOf, lstO, newl, dgname, dgtup, dgcons, dgnil, dirng1, dirng2, dilst, ditup, dienum, dizip, stays, startD, endD, dcallP, dcallN, fS, dfz, fzK, dbreak, dcont, wipeD, List.map_cons, List.map_nil, List.length_cons, List.length_nil, List.replicate, List.cons_append, List.nil_append, List.getElem?_cons_zero, List.getElem?_cons_succ, List.set_cons_zero, List.set_cons_succ, atI_zero, atI_one, atI_two, atI_three, ixN_zero, ixN_one, mset_same, mset_mset, mdel_mset, List.length_map, vw_one, Option.isSome_some, true_and, and_true, dmk, dmk0, dxf, disx, mkS, okX]
    refine ⟨Nat.zero_le _, ⟨by omega, by omega, by omega, by omega⟩, ?_⟩
    refine dfor_rng (fun i δ M => ∃ (y4 y5 : Option X) (zs : List Int), δ = [some (.scr ns), some (.int a), some (.int m), some (.lst true (zs.map .int)), y4, y5] ∧ zs.length = i * 20 ∧ M = m0)
      ⟨none, none, [], rfl, rfl, rfl⟩ ?_ ?_
    · rintro δ M ⟨y4, y5, zs, rfl, hl, rfl⟩
      simp only [dseq, dasg, dasgG, dgsub, setL, dop, dun, dcb, dcons, dnil, dret, dretN, dnext, ddrop, diff, dif, dtest, dand, dor, dnot, dandV, dorV, dnotV, dchain, daug, dpar, dforS, dlc, dyes, dlst, dtup, dbm, fAppend, fPop, dvar, dc, fIx, fSl, dsl, dpart, dno, fI, fI0, fU, fAdd, fMul, fInt, fAbs, fLen, fMin2, fList, fEq, fIsN, gI, gB, lstOf, lstO, newl, dgname, dgtup, dgcons, dgnil, dirng1, dirng2, dilst, ditup, dienum, dizip, stays, startD, endD, dcallP, dcallN, fS, dfz, fzK, dbreak, dcont, wipeD, List.map_cons, List.map_nil, List.length_cons, List.length_nil, List.replicate, List.cons_append, List.nil_append, List.getElem?_cons_zero, List.getElem?_cons_succ, List.set_cons_zero, List.set_cons_succ, atI_zero, atI_one, atI_two, atI_three, ixN_zero, ixN_one, mset_same, mset_mset, mdel_mset, List.length_map, vw_one, Option.isSome_some, true_and, and_true, dmk, dmk0, dxf, disx, mkS, okX]
      refine ⟨by decide, fun p hp => rt_new mset_same ?_ (q zs ?_ p rfl)⟩
      · simp only [ownA, own, ownA_map X.int (fun _ => rfl), Bool.and_self]
      · have : (a + m - a).toNat = m.toNat := by rw [Int.add_comm, Int.add_sub_cancel]
        rw [this] at hl
        constructor <;> omega
    · rintro i δ M R hi ⟨y4, y5, zs, rfl, hl, rfl⟩ k
      have hi' : i < 1000 := by omega
      simp only [dseq, dasg, dasgG, dgsub, setL, dop, dun, dcb, dcons, dnil, dret, dretN, dnext, ddrop, diff, dif, dtest, dand, dor, dnot, dandV, dorV, dnotV, dchain, daug, dpar, dforS, dlc, dyes, dlst, dtup, dbm, fAppend, fPop, dvar, dc, fIx, fSl, dsl, dpart, dno, fI, fI0, fU, fAdd, fMul, fInt, fAbs, fLen, fMin2, fList, fEq, fIsN, gI, gB, lstOf, lstO, newl, dgname, dgtup, dgcons, dgnil, dirng1, dirng2, dilst, ditup, dienum, dizip, stays, startD, endD, dcallP, dcallN, fS, dfz, fzK, dbreak, dcont, wipeD, List.map_cons, List.map_nil, List.length_cons, List.length_nil, List.replicate, List.cons_append, List.nil_append, List.getElem?_cons_zero, List.getElem?_cons_succ, List.set_cons_zero, List.set_cons_succ, atI_zero, atI_one, atI_two, atI_three, ixN_zero, ixN_one, mset_same, mset_mset, mdel_mset, List.length_map, vw_one, Option.isSome_some, true_and, and_true, dmk, dmk0, dxf, disx, mkS, okX, vw]
      refine ⟨ns, a + i, rfl, by omega, fun c => ⟨cpow18, ?_⟩⟩
      generalize (if c < 0 then -c else c) = d
      have fin : ∀ c' : Int, f_numbers [.int c', .int 20] (fun zs_1 => (zs.map X.int).length + zs_1.length ≤ sizeLine ∧ R [some (.scr ns), some (.int a), some (.int m), some (.lst true (zs.map X.int ++ zs_1)), some (.int (a + i)), some (.int c')] m0) (fun _ _ _ => False) := fun c' => by
        refine ⟨c', 20, rfl, by decide, by decide, fun ws hw _ => ⟨?_, ?_⟩⟩
        · rw [List.length_map, List.length_map, hw, sizeLine_eq]
          show zs.length + 20 ≤ 16777216
          omega
        · rw [← List.map_append]
          refine k _ _ ⟨_, _, zs ++ ws, rfl, ?_, rfl⟩
          rw [List.length_append, hl, hw]
          show i * 20 + 20 = _
          omega
      rw [List.length_map] at fin
      generalize (decide (d < (10 : Int) ^ (18 : Int).toNat)) = b1
      cases b1 with
      | true =>
        refine ⟨cmul_r (by decide), fin _⟩
      | false => exact fin _
/-- the next number -/
def nxt (nums : List Int) (k n : Int) : Int := (nums.getD (k % nums.length).toNat 0 + k / nums.length * 7) % n
theorem nxt_ge {nums : List Int} {k n : Int} (h : 0 < n) : 0 ≤ nxt nums k n := Int.emod_nonneg _ (by omega)
theorem nxt_lt {nums : List Int} {k n : Int} (h : 0 < n) : nxt nums k n < n := Int.emod_lt_of_pos _ h
def f_next : SF := fun nums k r P => ∃ n : Int, r = [.int n] ∧ 0 < n ∧ NumsOk nums ∧ P (.int (nxt nums k n)) (k + 1)
abbrev s_law_next : Stmt := topS 35
theorem sc_law_next : FnScope ["state", "many", "numbers", "place"] ["state", "many"] (defScope s_law_next) := ⟨rfl, rfl, rfl, by decide +kernel, rfl, by decide +kernel, by decide +kernel⟩
theorem cal_law_next (B : Blt mg) (D : Def K mg "_law_next" s_law_next) : Cal P w K mg base CX0 "_law_next" 1 ["state", "many"] (SFd f_next) := by
  refine Cal.mk' D (fun _ _ _ _ _ _ us hl => match us, hl with | [_, _], _ => rfl) fun f fdt F => fnD F sc_law_next (fun xs M Q E h => ?len) fun cdv A outer s H E hr => ⟨_,
    ((pssd_cons (psd_set 2 sc_law_next.nd (pd_ix (pd_var 0) pd_int))
(pssd_cons (psd_set 3 sc_law_next.nd (pd_ix (pd_var 0) pd_int))
(pssd_cons (psd_asg (pd_add false (pd_var 3) pd_int) (pgd_sub (pd_var 0) pd_int))
(pssd_one (psd_ret (pd_mod (pd_callTy call_int1 snd_int (by rfl) B.int (by decide +kernel) (pad_cons (pd_add false (pd_ix (pd_var 2) (pd_mod (pd_var 3) (pd_callB call_len_seq snd_len (by rfl) B.len PySem.boot_len (pad_cons (pd_var 2) pad_nil)))) (pd_mul false (pd_fdiv (pd_var 3) (pd_callB call_len_seq snd_len (by rfl) B.len PySem.boot_len (pad_cons (pd_var 2) pad_nil))) pd_int)) pad_nil)) (pd_var 1)))))))), fun xs M Qd Ed h => ?rd⟩
  case len =>
    obtain ⟨st, nums, k, r, rfl, _, _, n, rfl, _⟩ := h
    rfl
  case rd =>
    obtain ⟨st, nums, k, r, rfl, h0, hM, n, rfl, hn, ⟨hl, hl2⟩, q⟩ := h
    have hk : atI (nums.map X.int) (k % nums.length) = some (.int (nums.getD (k % nums.length).toNat 0)) := atI_map X.int (Int.emod_nonneg _ (by omega)) (Int.emod_lt_of_pos _ (by omega)) 0
    simp only [DL.stC] at hM
    simp only [dseq, dasg, dasgG, dgsub, setL, dop, dun, dcb, dcons, dnil, dret, dretN, dnext, ddrop, diff, dif, dtest, dand, dor, dnot, dandV, dorV, dnotV, dchain, daug, dpar, dforS, dlc, dyes, dlst, dtup, dbm, fAppend, fPop, dvar, dc, fIx, fSl, dsl, dpart, dno, fI, fI0, fU, fAdd, fMul, fInt, fAbs, fLen, fMin2, fList, fEq, fIsN, gI, gB, lstOf, lstO, newl, dgname, dgtup, dgcons, dgnil, dirng1, dirng2, dilst, ditup, dienum, dizip, stays, startD, endD, dcallP, dcallN, fS, dfz, fzK, dbreak, dcont, wipeD, List.map_cons, List.map_nil, List.length_cons, List.length_nil, List.replicate, List.cons_append, List.nil_append, List.getElem?_cons_zero, List.getElem?_cons_succ, List.set_cons_zero, List.set_cons_succ, atI_zero, atI_one, atI_two, atI_three, ixN_zero, ixN_one, mset_same, mset_mset, mdel_mset, List.length_map, vw_one, Option.isSome_some, true_and, and_true, dmk, dmk0, dxf, disx, mkS, okX, hM, hk]
    exact ⟨by omega, ⟨by omega, by omega⟩, cmul_r (by decide), hn, rt_st h0 mset_same rfl q⟩

/-! ### the error classes -/
def xcls : List (Str × Shp) := [("BadGraph", .s1 "index"), ("UnknownVertex", .s1 "vertex"), ("UnknownEdge", .s1 "edge"), ("Apart", .s2 "start" "goal"), ("SameVertex", .s1 "vertex"), ("TooSmall", .s1 "count"), ("HasBridge", .sB "edge" "side"), ("NotABridge", .s1 "edge"), ("BadRow", .s1 "length"), ("BadAmount", .s1 "edge"), ("OtherGraph", .s0), ("Unbalanced", .s1 "vertex"), ("OddVertex", .s1 "vertex"), ("NotATree", .s0), ("BadBounds", .s1 "edge"), ("BadModulus", .s1 "modulus"), ("NotAStair", .s0), ("NotABeginning", .s0), ("BadStage", .s1 "rule"), ("NotAPiece", .s0), ("HasPiece", .s1 "stage"), ("OneLink", .s1 "stage"), ("BadNeed", .s1 "vertex"), ("BadCount", .s1 "count"), ("Uncovered", .s1 "edge"), ("BadMap", .s1 "vertex"), ("NotPlane", .s1 "euler"), ("NotCubic", .s1 "vertex"), ("BadColours", .s1 "vertex")]
def xnames : List Str := xcls.map (·.1)
def fields : List Str := ["index", "vertex", "edge", "start", "goal", "count", "length", "modulus", "rule", "stage", "side", "euler"]
def btys : List Str := ["ValueError"]
/-- some numbers below the limit -/
def f_chosen : SF := fun nums k r P => ∃ limit most : Int, r = [.int limit, .int most] ∧ 0 < limit ∧ 0 ≤ most ∧ most < 1000 ∧ NumsOk nums ∧ ∀ (zs : List Int) (k' : Int), (zs.length : Int) ≤ most → (∀ z ∈ zs, 0 ≤ z ∧ z < limit) → P (.lst true (zs.map .int)) k'
abbrev s_law_chosen : Stmt := topS 36
theorem sc_law_chosen : FnScope ["state", "limit", "most", "k"] ["state", "limit", "most"] (defScope s_law_chosen) := ⟨rfl, rfl, rfl, by decide +kernel, rfl, by decide +kernel, by decide +kernel⟩
theorem cal_law_chosen (B : Blt mg) (D : Def K mg "_law_chosen" s_law_chosen) (c_law_next : Cal P w K mg base CX0 "_law_next" 1 ["state", "many"] (SFd f_next)) : Cal P w K mg base CX0 "_law_chosen" 2 ["state", "limit", "most"] (SFd f_chosen) := by
  refine Cal.mk' D (fun _ _ _ _ _ _ us hl => match us, hl with | [_, _, _], _ => rfl) fun f fdt F => fnD F sc_law_chosen (fun xs M Q E h => ?len) fun cdv A outer s H E hr => ⟨_,
    ((pssd_cons (psd_if (ptd_cmp op_eq snd_eq (pd_var 1) pd_int (nomark _))
(pssd_one (psd_ret (pd_lst false pad_nil)))
pssd_nil)
(pssd_one (psd_ret (pd_lc false [("k", 3)] anti0 sc_law_chosen.nd (pid_range1 (by rfl) B.range (pad_cons (pd_cS 2 c_law_next (hr.mono (by decide)) pass0 (pad_cons (pd_var 0) (pad_cons (pd_add false (pd_var 2) pd_int) pad_nil))) pad_nil)) (blkOk_by (own := [("k", 3)]) (N := ["state", "limit", "most", "k"]) (sc := defScope s_law_chosen) (by decide +kernel)) (fun _ _ _ _ _ => (pgl_name 3 sc_law_chosen.nd)) (fun _ _ _ _ _ => ptsd_nil) (fun _ _ _ _ _ => (pd_cS 2 c_law_next (hr.mono (by decide)) pass0 (pad_cons (pd_var 0) (pad_cons (pd_var 1) pad_nil))))))))), fun xs M Qd Ed h => ?rd⟩
  case len =>
    obtain ⟨st, nums, k, r, rfl, _, _, n, m, rfl, _⟩ := h
    rfl
  case rd =>
    obtain ⟨st, nums, k, r, rfl, h0, hM, limit, most, rfl, hl, hm, hm2, hn, q⟩ := h
    simp only [dseq, dasg, dasgG, dgsub, setL, dop, dun, dcb, dcons, dnil, dret, dretN, dnext, ddrop, diff, dif, dtest, dand, dor, dnot, dandV, dorV, dnotV, dchain, daug, dpar, dforS, dlc, dyes, dlst, dtup, dbm, fAppend, fPop, dvar, dc, fIx, fSl, dsl, dpart, dno, fI, fI0, fU, fAdd, fMul, fInt, fAbs, fLen, fMin2, fList, fEq, fIsN, gI, gB, lstOf, lstO, newl, dgname, dgtup, dgcons, dgnil, dirng1, dirng2, dilst, ditup, dienum, dizip, stays, startD, endD, dcallP, dcallN, fS, dfz, fzK, dbreak, dcont, wipeD, List.map_cons, List.map_nil, List.length_cons, List.length_nil, List.replicate, List.cons_append, List.nil_append, List.getElem?_cons_zero, List.getElem?_cons_succ, List.set_cons_zero, List.set_cons_succ, atI_zero, atI_one, atI_two, atI_three, ixN_zero, ixN_one, mset_same, mset_mset, mdel_mset, List.length_map, vw_one, Option.isSome_some, true_and, and_true, dmk, dmk0, dxf, disx, mkS, okX]
    rw [decide_eq_false (show ¬ limit = 0 by omega)]
    refine ⟨nums, k, hM, most + 1, rfl, by omega, hn, ?_⟩
    have h1 := nxt_ge (nums := nums) (k := k) (n := most + 1) (by omega)
    have h2 := nxt_lt (nums := nums) (k := k) (n := most + 1) (by omega)
    refine ⟨by omega, by omega, ?_⟩
    refine dlc_rngI (fun i acc M' => ∃ (zs : List Int) (k' : Int), acc = zs.map .int ∧ zs.length = i ∧ (∀ z ∈ zs, 0 ≤ z ∧ z < limit) ∧ M' = mset M st (DL.stC nums k')) ⟨[], k + 1, rfl, rfl, by simp, rfl⟩ ?_ ?_
    · rintro acc M' ⟨zs, k', rfl, hz, hb, rfl⟩
      exact ⟨trivial, rt_st h0 mset_same (by simp only [own, Bool.true_and]; exact ownA_map _ (fun _ => rfl) _) (q zs k' (by omega) hb)⟩
    · rintro i acc M' R hi ⟨zs, k', rfl, hz, hb, rfl⟩ kk
      simp only [dseq, dasg, dasgG, dgsub, setL, dop, dun, dcb, dcons, dnil, dret, dretN, dnext, ddrop, diff, dif, dtest, dand, dor, dnot, dandV, dorV, dnotV, dchain, daug, dpar, dforS, dlc, dyes, dlst, dtup, dbm, fAppend, fPop, dvar, dc, fIx, fSl, dsl, dpart, dno, fI, fI0, fU, fAdd, fMul, fInt, fAbs, fLen, fMin2, fList, fEq, fIsN, gI, gB, lstOf, lstO, newl, dgname, dgtup, dgcons, dgnil, dirng1, dirng2, dilst, ditup, dienum, dizip, stays, startD, endD, dcallP, dcallN, fS, dfz, fzK, dbreak, dcont, wipeD, List.map_cons, List.map_nil, List.length_cons, List.length_nil, List.replicate, List.cons_append, List.nil_append, List.getElem?_cons_zero, List.getElem?_cons_succ, List.set_cons_zero, List.set_cons_succ, atI_zero, atI_one, atI_two, atI_three, ixN_zero, ixN_one, mset_same, mset_mset, mdel_mset, List.length_map, vw_one, Option.isSome_some, true_and, and_true, dmk, dmk0, dxf, disx, mkS, okX]
      refine ⟨nums, k', rfl, limit, rfl, hl, hn, line_gt (by omega), kk _ _ ⟨zs ++ [nxt nums k' limit], k' + 1, by rw [List.map_append]; rfl, by simp [hz], ?_, rfl⟩⟩
      intro z hmem
      rcases List.mem_append.mp hmem with h | h
      · exact hb z h
      · rw [List.mem_singleton.mp h]; exact ⟨nxt_ge hl, nxt_lt hl⟩
/-- a great number -/
def f_great : SF := fun nums k r P => r = [] ∧ NumsOk nums ∧ ∀ (z k' : Int), z.natAbs < 10 ^ 30 → P (.int z) k'
abbrev s_law_great : Stmt := topS 37
theorem sc_law_great : FnScope ["state", "number", "k"] ["state"] (defScope s_law_great) := ⟨rfl, rfl, rfl, by decide +kernel, rfl, by decide +kernel, by decide +kernel⟩
theorem cal_law_great (B : Blt mg) (D : Def K mg "_law_great" s_law_great) (c_law_next : Cal P w K mg base CX0 "_law_next" 1 ["state", "many"] (SFd f_next)) : Cal P w K mg base CX0 "_law_great" 2 ["state"] (SFd f_great) := by
  refine Cal.mk' D (fun _ _ _ _ _ _ us hl => match us, hl with | [_], _ => rfl) fun f fdt F => fnD F sc_law_great (fun xs M Q E h => ?len) fun cdv A outer s H E hr => ⟨_,
    ((pssd_cons (psd_set 1 sc_law_great.nd pd_int)
(pssd_cons (psd_for anti0 PassesOwn.never rfl (pid_range1 (by rfl) B.range (pad_cons (pd_add false pd_int (pd_cS 2 c_law_next (hr.mono (by decide)) pass0 (pad_cons (pd_var 0) (pad_cons pd_int pad_nil)))) pad_nil)) (pgd_name 2 sc_law_great.nd)
(pssd_one (psd_set 1 sc_law_great.nd (pd_add false (pd_mul false (pd_var 1) pd_int) (pd_cS 2 c_law_next (hr.mono (by decide)) pass0 (pad_cons (pd_var 0) (pad_cons pd_int pad_nil)))))))
(pssd_one (psd_ret (pd_if (ptd_cmp op_eq snd_eq (pd_cS 2 c_law_next (hr.mono (by decide)) pass0 (pad_cons (pd_var 0) (pad_cons pd_int pad_nil))) pd_int (nomark _)) (pd_var 1) (pd_sub pd_int (pd_var 1)))))))), fun xs M Qd Ed h => ?rd⟩
  case len =>
    obtain ⟨st, nums, k, r, rfl, _, _, rfl, _⟩ := h
    rfl
  case rd =>
    obtain ⟨st, nums, k, r, rfl, h0, hM, rfl, hn, q⟩ := h
    simp only [dseq, dasg, dasgG, dgsub, setL, dop, dun, dcb, dcons, dnil, dret, dretN, dnext, ddrop, diff, dif, dtest, dand, dor, dnot, dandV, dorV, dnotV, dchain, daug, dpar, dforS, dlc, dyes, dlst, dtup, dbm, fAppend, fPop, dvar, dc, fIx, fSl, dsl, dpart, dno, fI, fI0, fU, fAdd, fMul, fInt, fAbs, fLen, fMin2, fList, fEq, fIsN, gI, gB, lstOf, lstO, newl, dgname, dgtup, dgcons, dgnil, dirng1, dirng2, dilst, ditup, dienum, dizip, stays, startD, endD, dcallP, dcallN, fS, dfz, fzK, dbreak, dcont, wipeD, List.map_cons, List.map_nil, List.length_cons, List.length_nil, List.replicate, List.cons_append, List.nil_append, List.getElem?_cons_zero, List.getElem?_cons_succ, List.set_cons_zero, List.set_cons_succ, atI_zero, atI_one, atI_two, atI_three, ixN_zero, ixN_one, mset_same, mset_mset, mdel_mset, List.length_map, vw_one, Option.isSome_some, true_and, and_true, dmk, dmk0, dxf, disx, mkS, okX]
    refine ⟨nums, k, hM, 9, rfl, by decide, hn, ?_⟩
    have h1 := nxt_ge (nums := nums) (k := k) (n := 9) (by decide)
    have h2 := nxt_lt (nums := nums) (k := k) (n := 9) (by decide)
    refine ⟨by omega, by omega, ?_⟩
    refine dfor_rng (fun i δ M' => ∃ (z k' : Int) (y : Option X), δ = [some (X.ptr st), some (X.int z), y] ∧ 0 ≤ z ∧ z < 1000 ^ i ∧ M' = mset M st (DL.stC nums k')) ⟨0, k + 1, none, rfl, by decide, by decide, rfl⟩ ?_ ?_
    · rintro δ M' ⟨z, k', y, rfl, hz, hz2, rfl⟩
      simp only [dseq, dasg, dasgG, dgsub, setL, dop, dun, dcb, dcons, dnil, dret, dretN, dnext, ddrop, diff, dif, dtest, dand, dor, dnot, dandV, dorV, dnotV, dchain, daug, dpar, dforS, dlc, dyes, dlst, dtup, dbm, fAppend, fPop, dvar, dc, fIx, fSl, dsl, dpart, dno, fI, fI0, fU, fAdd, fMul, fInt, fAbs, fLen, fMin2, fList, fEq, fIsN, gI, gB, lstOf, lstO, newl, dgname, dgtup, dgcons, dgnil, dirng1, dirng2, dilst, ditup, dienum, dizip, stays, startD, endD, dcallP, dcallN, fS, dfz, fzK, dbreak, dcont, wipeD, List.map_cons, List.map_nil, List.length_cons, List.length_nil, List.replicate, List.cons_append, List.nil_append, List.getElem?_cons_zero, List.getElem?_cons_succ, List.set_cons_zero, List.set_cons_succ, atI_zero, atI_one, atI_two, atI_three, ixN_zero, ixN_one, mset_same, mset_mset, mdel_mset, List.length_map, vw_one, Option.isSome_some, true_and, and_true, dmk, dmk0, dxf, disx, mkS, okX]
      have hb : (1000 : Int) ^ (1 + nxt nums k 9).toNat ≤ 10 ^ 27 := by
        have e : (1 + nxt nums k 9).toNat < 10 := by omega
        have all : ∀ j, j < 10 → (1000 : Int) ^ j ≤ 10 ^ 27 := by decide
        exact all _ e
      refine ⟨nums, k', rfl, 2, rfl, by decide, hn, ?_⟩
      have h10 : (10 : Int) ^ 27 < 10 ^ 30 := by decide
      have fin : ∀ v : Int, v.natAbs < 10 ^ 30 → rtK Qd (X.int v) (mset M st (DL.stC nums (k' + 1))) := fun v hv =>
        rt_st (k := k' + 1) h0 mset_same rfl (q v (k' + 1) hv)
      show (match false != decide (nxt nums k' 2 = 0) with
        | true => rtK Qd (X.int z) (mset M st (DL.stC nums (k' + 1)))
        | false => rtK Qd (X.int (0 - z)) (mset M st (DL.stC nums (k' + 1))))
      cases (false != decide (nxt nums k' 2 = 0)) with
      | true => exact fin z (by omega)
      | false => exact fin (0 - z) (by omega)
    · rintro i δ M' R hi ⟨z, k', y, rfl, hz, hz2, rfl⟩ kk
      simp only [dseq, dasg, dasgG, dgsub, setL, dop, dun, dcb, dcons, dnil, dret, dretN, dnext, ddrop, diff, dif, dtest, dand, dor, dnot, dandV, dorV, dnotV, dchain, daug, dpar, dforS, dlc, dyes, dlst, dtup, dbm, fAppend, fPop, dvar, dc, fIx, fSl, dsl, dpart, dno, fI, fI0, fU, fAdd, fMul, fInt, fAbs, fLen, fMin2, fList, fEq, fIsN, gI, gB, lstOf, lstO, newl, dgname, dgtup, dgcons, dgnil, dirng1, dirng2, dilst, ditup, dienum, dizip, stays, startD, endD, dcallP, dcallN, fS, dfz, fzK, dbreak, dcont, wipeD, List.map_cons, List.map_nil, List.length_cons, List.length_nil, List.replicate, List.cons_append, List.nil_append, List.getElem?_cons_zero, List.getElem?_cons_succ, List.set_cons_zero, List.set_cons_succ, atI_zero, atI_one, atI_two, atI_three, ixN_zero, ixN_one, mset_same, mset_mset, mdel_mset, List.length_map, vw_one, Option.isSome_some, true_and, and_true, dmk, dmk0, dxf, disx, mkS, okX]
      refine ⟨cmul_r (by decide), nums, k', rfl, 1000, rfl, by decide, hn, kk _ _ ⟨z * 1000 + nxt nums k' 1000, k' + 1, _, rfl, ?_, ?_, rfl⟩⟩
      · have := nxt_ge (nums := nums) (k := k') (n := 1000) (by decide)
        omega
      · have := nxt_lt (nums := nums) (k := k') (n := 1000) (by decide)
        rw [Int.pow_succ]
        omega
theorem log_small {z : Int} (h : z.natAbs < 10 ^ 30) : z.natAbs.log2 < 1920 := by
  by_cases h0 : z.natAbs = 0
  · rw [h0]; decide
  · exact (Nat.log2_lt h0).mpr (Nat.lt_trans h (by decide))
/-- the errors that are made -/
def madeX (K : PySem.W.Frag) (n : List Int) (letter : Str) (side : List Int) : List X :=
  [.exn (He.ga K "BadGraph") ["index"] [.int (n.getD 0 0)],
   .exn (He.ga K "UnknownVertex") ["vertex"] [.int (n.getD 1 0)],
   .exn (He.ga K "UnknownEdge") ["edge"] [.int (n.getD 2 0)],
   .exn (He.ga K "Apart") ["goal", "start"] [.int (n.getD 4 0), .int (n.getD 3 0)],
   .exn (He.ga K "SameVertex") ["vertex"] [.int (n.getD 5 0)],
   .exn (He.ga K "TooSmall") ["count"] [.int (n.getD 6 0)],
   .exn (He.ga K "HasBridge") ["side", "edge"] [.lst true (side.map .int), .int (n.getD 7 0)],
   .exn (He.ga K "NotABridge") ["edge"] [.int (n.getD 8 0)],
   .exn (He.ga K "BadRow") ["length"] [.int (n.getD 9 0)],
   .exn (He.ga K "BadAmount") ["edge"] [.int (n.getD 10 0)],
   .exn (He.ga K "OtherGraph") [] [],
   .exn (He.ga K "Unbalanced") ["vertex"] [.int (n.getD 11 0)],
   .exn (He.ga K "OddVertex") ["vertex"] [.int (n.getD 12 0)],
   .exn (He.ga K "NotATree") [] [],
   .exn (He.ga K "BadBounds") ["edge"] [.int (n.getD 13 0)],
   .exn (He.ga K "BadModulus") ["modulus"] [.int (n.getD 14 0)],
   .exn (He.ga K "NotAStair") [] [],
   .exn (He.ga K "NotABeginning") [] [],
   .exn (He.ga K "BadStage") ["rule"] [.str letter],
   .exn (He.ga K "NotAPiece") [] [],
   .exn (He.ga K "HasPiece") ["stage"] [.int (n.getD 15 0)],
   .exn (He.ga K "OneLink") ["stage"] [.int (n.getD 16 0)],
   .exn (He.ga K "BadNeed") ["vertex"] [.int (n.getD 17 0)],
   .exn (He.ga K "BadCount") ["count"] [.int (n.getD 18 0)],
   .exn (He.ga K "Uncovered") ["edge"] [.int (n.getD 19 0)],
   .exn (He.ga K "BadMap") ["vertex"] [.int (n.getD 20 0)],
   .exn (He.ga K "NotPlane") ["euler"] [.int (n.getD 21 0)],
   .exn (He.ga K "NotCubic") ["vertex"] [.int (n.getD 22 0)],
   .exn (He.ga K "BadColours") ["vertex"] [.int (n.getD 23 0)]]
theorem own_made (K : PySem.W.Frag) (n : List Int) (letter : Str) (side : List Int) : own (.lst true (madeX K n letter side)) = true := by
  simp only [own, ownA, madeX, ownA_map X.int (fun _ => rfl), Bool.and_self]
def f_made (K : PySem.W.Frag) : PF := fun xs Q _ => ∃ (n side : List Int) (letter : Str) (b b2 : Bool), xs = [.lst b (n.map .int), .str letter, .lst b2 (side.map .int)] ∧ n.length = 24 ∧ (∀ z ∈ n, z.natAbs < 10 ^ 30) ∧ letter.length ≤ 10 ∧ side.length ≤ 100 ∧ Q (.lst true (madeX K n letter side))
abbrev s_law_made : Stmt := topS 38
theorem sc_law_made : FnScope ["n", "letter", "side", "made"] ["n", "letter", "side"] (defScope s_law_made) := ⟨rfl, rfl, rfl, by decide +kernel, rfl, by decide +kernel, by decide +kernel⟩
theorem cal_law_made (B : Blt mg) (D : Def K mg "_law_made" s_law_made) (HX : ∀ (i : Nat) p, xcls[i]? = some p → CalX P w K mg base CX0 p.1 1 (He.ga K p.1) p.2) : Cal P w K mg base CX0 "_law_made" 3 ["n", "letter", "side"] (PFd (f_made K)) := by
  refine Cal.mk' D (fun _ _ _ _ _ _ us hl => match us, hl with | [_, _, _], _ => rfl) fun f fdt F => fnD F sc_law_made (fun xs M Q E h => ?len) fun cdv A outer s H E hr => ⟨_,
    ((pssd_cons (psd_set 3 sc_law_made.nd (pd_lst false (pad_cons (pd_mk (HX 0 _ rfl) (hr.mono (by decide)).toRoom pass0 (pad_cons (pd_ix (pd_var 0) pd_int) pad_nil)) (pad_cons (pd_mk (HX 1 _ rfl) (hr.mono (by decide)).toRoom pass0 (pad_cons (pd_ix (pd_var 0) pd_int) pad_nil)) (pad_cons (pd_mk (HX 2 _ rfl) (hr.mono (by decide)).toRoom pass0 (pad_cons (pd_ix (pd_var 0) pd_int) pad_nil)) (pad_cons (pd_mk (HX 3 _ rfl) (hr.mono (by decide)).toRoom pass0 (pad_cons (pd_ix (pd_var 0) pd_int) (pad_cons (pd_ix (pd_var 0) pd_int) pad_nil))) (pad_cons (pd_mk (HX 4 _ rfl) (hr.mono (by decide)).toRoom pass0 (pad_cons (pd_ix (pd_var 0) pd_int) pad_nil)) (pad_cons (pd_mk (HX 5 _ rfl) (hr.mono (by decide)).toRoom pass0 (pad_cons (pd_ix (pd_var 0) pd_int) pad_nil)) pad_nil))))))))
(pssd_cons (psd_set 3 sc_law_made.nd (pd_add false (pd_var 3) (pd_lst false (pad_cons (pd_mk (HX 6 _ rfl) (hr.mono (by decide)).toRoom pass0 (pad_cons (pd_ix (pd_var 0) pd_int) (pad_cons (pd_var 2) pad_nil))) (pad_cons (pd_mk (HX 7 _ rfl) (hr.mono (by decide)).toRoom pass0 (pad_cons (pd_ix (pd_var 0) pd_int) pad_nil)) (pad_cons (pd_mk (HX 8 _ rfl) (hr.mono (by decide)).toRoom pass0 (pad_cons (pd_ix (pd_var 0) pd_int) pad_nil)) (pad_cons (pd_mk (HX 9 _ rfl) (hr.mono (by decide)).toRoom pass0 (pad_cons (pd_ix (pd_var 0) pd_int) pad_nil)) (pad_cons (pd_mkE (HX 10 _ rfl) (hr.mono (by decide)).toRoom pass0) pad_nil))))))))
(pssd_cons (psd_set 3 sc_law_made.nd (pd_add false (pd_var 3) (pd_lst false (pad_cons (pd_mk (HX 11 _ rfl) (hr.mono (by decide)).toRoom pass0 (pad_cons (pd_ix (pd_var 0) pd_int) pad_nil)) (pad_cons (pd_mk (HX 12 _ rfl) (hr.mono (by decide)).toRoom pass0 (pad_cons (pd_ix (pd_var 0) pd_int) pad_nil)) (pad_cons (pd_mkE (HX 13 _ rfl) (hr.mono (by decide)).toRoom pass0) (pad_cons (pd_mk (HX 14 _ rfl) (hr.mono (by decide)).toRoom pass0 (pad_cons (pd_ix (pd_var 0) pd_int) pad_nil)) (pad_cons (pd_mk (HX 15 _ rfl) (hr.mono (by decide)).toRoom pass0 (pad_cons (pd_ix (pd_var 0) pd_int) pad_nil)) (pad_cons (pd_mkE (HX 16 _ rfl) (hr.mono (by decide)).toRoom pass0) pad_nil)))))))))
(pssd_cons (psd_set 3 sc_law_made.nd (pd_add false (pd_var 3) (pd_lst false (pad_cons (pd_mkE (HX 17 _ rfl) (hr.mono (by decide)).toRoom pass0) (pad_cons (pd_mk (HX 18 _ rfl) (hr.mono (by decide)).toRoom pass0 (pad_cons (pd_var 1) pad_nil)) (pad_cons (pd_mkE (HX 19 _ rfl) (hr.mono (by decide)).toRoom pass0) (pad_cons (pd_mk (HX 20 _ rfl) (hr.mono (by decide)).toRoom pass0 (pad_cons (pd_ix (pd_var 0) pd_int) pad_nil)) (pad_cons (pd_mk (HX 21 _ rfl) (hr.mono (by decide)).toRoom pass0 (pad_cons (pd_ix (pd_var 0) pd_int) pad_nil)) (pad_cons (pd_mk (HX 22 _ rfl) (hr.mono (by decide)).toRoom pass0 (pad_cons (pd_ix (pd_var 0) pd_int) pad_nil)) pad_nil)))))))))
(pssd_cons (psd_set 3 sc_law_made.nd (pd_add false (pd_var 3) (pd_lst false (pad_cons (pd_mk (HX 23 _ rfl) (hr.mono (by decide)).toRoom pass0 (pad_cons (pd_ix (pd_var 0) pd_int) pad_nil)) (pad_cons (pd_mk (HX 24 _ rfl) (hr.mono (by decide)).toRoom pass0 (pad_cons (pd_ix (pd_var 0) pd_int) pad_nil)) (pad_cons (pd_mk (HX 25 _ rfl) (hr.mono (by decide)).toRoom pass0 (pad_cons (pd_ix (pd_var 0) pd_int) pad_nil)) (pad_cons (pd_mk (HX 26 _ rfl) (hr.mono (by decide)).toRoom pass0 (pad_cons (pd_ix (pd_var 0) pd_int) pad_nil)) (pad_cons (pd_mk (HX 27 _ rfl) (hr.mono (by decide)).toRoom pass0 (pad_cons (pd_ix (pd_var 0) pd_int) pad_nil)) pad_nil))))))))
(pssd_one (psd_ret (pd_add false (pd_var 3) (pd_lst false (pad_cons (pd_mk (HX 28 _ rfl) (hr.mono (by decide)).toRoom pass0 (pad_cons (pd_ix (pd_var 0) pd_int) pad_nil)) pad_nil))))))))))), fun xs M Qd Ed h => ?rd⟩
  case len =>
    obtain ⟨_, n, side, letter, b, b2, rfl, _⟩ := h
    rfl
  case rd =>
    obtain ⟨rfl, n, side, letter, b, b2, rfl, hn, hz, hl, hs, q⟩ := h
    have hat : ∀ i : Int, 0 ≤ i → i < 24 → atI (n.map X.int) i = some (.int (n.getD i.toNat 0)) := fun i h1 h2 => atI_map X.int h1 (by omega) 0
    have hok : ∀ j : Nat, j < 24 → okX (.int (n.getD j 0)) := fun j hj => by
      show (n.getD j 0).natAbs.log2 < 1920
      have hm : n.getD j 0 ∈ n := by
        rw [List.getD_eq_getElem?_getD, List.getElem?_eq_getElem (show j < n.length by omega)]
        exact List.getElem_mem _
      exact log_small (hz _ hm)
    have hokS : okX (.str letter) := by
      show letter.length ≤ 10000
      omega
    have hsl : (side.map X.int).length ≤ sizeLine := by rw [List.length_map]; exact line_ge (by omega)
    apply ev_step (M1 := m0)
    · (repeat' first | exact ev_nil | exact ev_c | exact ev_var rfl | apply ev_cons | apply ev_lst | apply ev_addL | apply ev_ix | apply ev_mk1 | apply ev_mk0 | apply ev_mk2 | apply ev_mkB | exact hat _ (by decide) (by decide) | exact hok _ (by decide) | exact hokS | exact line_ge (Nat.le_of_ble_eq_true rfl) | exact hsl | exact rfl)
    apply ev_step (M1 := m0)
    · (repeat' first | exact ev_nil | exact ev_c | exact ev_var rfl | apply ev_cons | apply ev_lst | apply ev_addL | apply ev_ix | apply ev_mk1 | apply ev_mk0 | apply ev_mk2 | apply ev_mkB | exact hat _ (by decide) (by decide) | exact hok _ (by decide) | exact hokS | exact line_ge (Nat.le_of_ble_eq_true rfl) | exact hsl | exact rfl)
    apply ev_step (M1 := m0)
    · (repeat' first | exact ev_nil | exact ev_c | exact ev_var rfl | apply ev_cons | apply ev_lst | apply ev_addL | apply ev_ix | apply ev_mk1 | apply ev_mk0 | apply ev_mk2 | apply ev_mkB | exact hat _ (by decide) (by decide) | exact hok _ (by decide) | exact hokS | exact line_ge (Nat.le_of_ble_eq_true rfl) | exact hsl | exact rfl)
    apply ev_step (M1 := m0)
    · (repeat' first | exact ev_nil | exact ev_c | exact ev_var rfl | apply ev_cons | apply ev_lst | apply ev_addL | apply ev_ix | apply ev_mk1 | apply ev_mk0 | apply ev_mk2 | apply ev_mkB | exact hat _ (by decide) (by decide) | exact hok _ (by decide) | exact hokS | exact line_ge (Nat.le_of_ble_eq_true rfl) | exact hsl | exact rfl)
    apply ev_step (M1 := m0)
    · (repeat' first | exact ev_nil | exact ev_c | exact ev_var rfl | apply ev_cons | apply ev_lst | apply ev_addL | apply ev_ix | apply ev_mk1 | apply ev_mk0 | apply ev_mk2 | apply ev_mkB | exact hat _ (by decide) (by decide) | exact hok _ (by decide) | exact hokS | exact line_ge (Nat.le_of_ble_eq_true rfl) | exact hsl | exact rfl)
    apply ev_ret (M1 := m0)
    · (repeat' first | exact ev_nil | exact ev_c | exact ev_var rfl | apply ev_cons | apply ev_lst | apply ev_addL | apply ev_ix | apply ev_mk1 | apply ev_mk0 | apply ev_mk2 | apply ev_mkB | exact hat _ (by decide) (by decide) | exact hok _ (by decide) | exact hokS | exact line_ge (Nat.le_of_ble_eq_true rfl) | exact hsl | exact rfl)
    · show rtK Qd (X.lst true (madeX K n letter side)) m0
      exact rt_pure (own_made ..) q
theorem list_getD {n : List Int} {k : Nat} (h : n.length = k) : n.map X.int = (List.range k).map fun j => X.int (n.getD j 0) := by
  refine List.ext_getElem (by simp [h]) fun i h1 h2 => ?_
  have hi : i < n.length := by simpa using h1
  simp [List.getD_eq_getElem?_getD, List.getElem?_eq_getElem hi]
/-- what the text says of the classes and their fields -/
structure ClsOk (K : PySem.W.Frag) : Prop where
  xi : ∀ x ∈ xnames, XiC K (He.ga K x)
  no : ∀ f ∈ fields, ∀ x ∈ xnames, PySem.W.findIn K (.ref (He.ga K x)) f = some none
theorem idx_of {α : Type} {xs : List α} {i : Nat} {x : α} (h : xs[i]? = some x) : atI xs (i : Int) = some x := atI_nat h
def f_told (K : PySem.W.Frag) : PF := fun xs Q _ => ∃ (n side : List Int) (letter : Str) (b : Bool), xs = [.lst b (madeX K n letter side)] ∧ n.length = 24 ∧ ClsOk K ∧ Q (.lst true [.lst true (n.map .int), .str letter, .lst true (side.map .int)])
abbrev s_law_told : Stmt := topS 39
theorem sc_law_told : FnScope ["made", "told"] ["made"] (defScope s_law_told) := ⟨rfl, rfl, rfl, by decide +kernel, rfl, by decide +kernel, by decide +kernel⟩
theorem cal_law_told (B : Blt mg) (D : Def K mg "_law_told" s_law_told) : Cal P w K mg base CX0 "_law_told" 1 ["made"] (PFd (f_told K)) := by
  refine Cal.mk' D (fun _ _ _ _ _ _ us hl => match us, hl with | [_], _ => rfl) fun f fdt F => fnD F sc_law_told (fun xs M Q E h => ?len) fun cdv A outer s H E hr => ⟨_,
    ((pssd_cons (psd_set 1 sc_law_told.nd (pd_lst false (pad_cons (pd_xf (pd_ix (pd_var 0) pd_int)) (pad_cons (pd_xf (pd_ix (pd_var 0) pd_int)) (pad_cons (pd_xf (pd_ix (pd_var 0) pd_int)) (pad_cons (pd_xf (pd_ix (pd_var 0) pd_int)) (pad_cons (pd_xf (pd_ix (pd_var 0) pd_int)) (pad_cons (pd_xf (pd_ix (pd_var 0) pd_int)) (pad_cons (pd_xf (pd_ix (pd_var 0) pd_int)) pad_nil)))))))))
(pssd_cons (psd_set 1 sc_law_told.nd (pd_add false (pd_var 1) (pd_lst false (pad_cons (pd_xf (pd_ix (pd_var 0) pd_int)) (pad_cons (pd_xf (pd_ix (pd_var 0) pd_int)) (pad_cons (pd_xf (pd_ix (pd_var 0) pd_int)) (pad_cons (pd_xf (pd_ix (pd_var 0) pd_int)) (pad_cons (pd_xf (pd_ix (pd_var 0) pd_int)) (pad_cons (pd_xf (pd_ix (pd_var 0) pd_int)) pad_nil)))))))))
(pssd_cons (psd_set 1 sc_law_told.nd (pd_add false (pd_var 1) (pd_lst false (pad_cons (pd_xf (pd_ix (pd_var 0) pd_int)) (pad_cons (pd_xf (pd_ix (pd_var 0) pd_int)) (pad_cons (pd_xf (pd_ix (pd_var 0) pd_int)) (pad_cons (pd_xf (pd_ix (pd_var 0) pd_int)) (pad_cons (pd_xf (pd_ix (pd_var 0) pd_int)) (pad_cons (pd_xf (pd_ix (pd_var 0) pd_int)) pad_nil)))))))))
(pssd_cons (psd_set 1 sc_law_told.nd (pd_add false (pd_var 1) (pd_lst false (pad_cons (pd_xf (pd_ix (pd_var 0) pd_int)) (pad_cons (pd_xf (pd_ix (pd_var 0) pd_int)) (pad_cons (pd_xf (pd_ix (pd_var 0) pd_int)) (pad_cons (pd_xf (pd_ix (pd_var 0) pd_int)) (pad_cons (pd_xf (pd_ix (pd_var 0) pd_int)) pad_nil))))))))
(pssd_one (psd_ret (pd_lst false (pad_cons (pd_var 1) (pad_cons (pd_xf (pd_ix (pd_var 0) pd_int)) (pad_cons (pd_xf (pd_ix (pd_var 0) pd_int)) pad_nil))))))))))), fun xs M Qd Ed h => ?rd⟩
  case len =>
    obtain ⟨_, n, side, letter, b, rfl, _⟩ := h
    rfl
  case rd =>
    obtain ⟨rfl, n, side, letter, b, rfl, hn, hc, q⟩ := h
    have hx := fun x e => (hc.xi x e).xf
    have hno := hc.no
    apply ev_step (M1 := m0)
    · (repeat' first | exact ev_nil | exact ev_c | exact ev_var rfl | apply ev_cons | apply ev_lst | apply ev_addL | apply ev_xf | apply ev_ix | exact hx _ (by decide +kernel) | exact hno _ (by decide +kernel) _ (by decide +kernel) | exact line_ge (Nat.le_of_ble_eq_true rfl) | exact idx_of rfl | exact rfl)
    apply ev_step (M1 := m0)
    · (repeat' first | exact ev_nil | exact ev_c | exact ev_var rfl | apply ev_cons | apply ev_lst | apply ev_addL | apply ev_xf | apply ev_ix | exact hx _ (by decide +kernel) | exact hno _ (by decide +kernel) _ (by decide +kernel) | exact line_ge (Nat.le_of_ble_eq_true rfl) | exact idx_of rfl | exact rfl)
    apply ev_step (M1 := m0)
    · (repeat' first | exact ev_nil | exact ev_c | exact ev_var rfl | apply ev_cons | apply ev_lst | apply ev_addL | apply ev_xf | apply ev_ix | exact hx _ (by decide +kernel) | exact hno _ (by decide +kernel) _ (by decide +kernel) | exact line_ge (Nat.le_of_ble_eq_true rfl) | exact idx_of rfl | exact rfl)
    apply ev_step (M1 := m0)
    · (repeat' first | exact ev_nil | exact ev_c | exact ev_var rfl | apply ev_cons | apply ev_lst | apply ev_addL | apply ev_xf | apply ev_ix | exact hx _ (by decide +kernel) | exact hno _ (by decide +kernel) _ (by decide +kernel) | exact line_ge (Nat.le_of_ble_eq_true rfl) | exact idx_of rfl | exact rfl)
    apply ev_ret (M1 := m0)
    · (repeat' first | exact ev_nil | exact ev_c | exact ev_var rfl | apply ev_cons | apply ev_lst | apply ev_addL | apply ev_xf | apply ev_ix | exact hx _ (by decide +kernel) | exact hno _ (by decide +kernel) _ (by decide +kernel) | exact line_ge (Nat.le_of_ble_eq_true rfl) | exact idx_of rfl | exact rfl)
    · rw [list_getD hn] at q
      exact rt_pure (y := .lst true [.lst true ((List.range 24).map fun j => X.int (n.getD j 0)), .str letter, .lst true (side.map X.int)]) (by simp only [own, ownA, ownA_map X.int (fun _ => rfl), ownA_map (fun j => X.int (n.getD j 0)) (fun _ => rfl), Bool.and_self]) q
/-- the kinds of an error -/
def f_kinds (K : PySem.W.Frag) : PF := fun xs Q _ => ∃ (C : Addr) (ns : List Str) (ys : List X) (bf : Str → Bool), xs = [.exn C ns ys] ∧ XiC K C ∧ (∀ x ∈ xnames, PySem.W.kitOne K (.ref C) (.ref (He.ga K x)) = some (bf x)) ∧ Q (.lst true (xcls.map fun p => .bl (bf p.1)))
abbrev s_law_kinds : Stmt := topS 40
theorem sc_law_kinds : FnScope ["e", "kinds"] ["e"] (defScope s_law_kinds) := ⟨rfl, rfl, rfl, by decide +kernel, rfl, by decide +kernel, by decide +kernel⟩
theorem cal_law_kinds (B : Blt mg) (D : Def K mg "_law_kinds" s_law_kinds) (HG : ∀ (i : Nat) p, xcls[i]? = some p → mg p.1 = some (.ref (He.ga K p.1))) : Cal P w K mg base CX0 "_law_kinds" 1 ["e"] (PFd (f_kinds K)) := by
  refine Cal.mk' D (fun _ _ _ _ _ _ us hl => match us, hl with | [_], _ => rfl) fun f fdt F => fnD F sc_law_kinds (fun xs M Q E h => ?len) fun cdv A outer s H E hr => ⟨_,
    ((pssd_cons (psd_set 1 sc_law_kinds.nd (pd_lst false (pad_cons (pd_isC (pd_var 0) (by exact B.isinstance) (HG 0 _ rfl)) (pad_cons (pd_isC (pd_var 0) (by exact B.isinstance) (HG 1 _ rfl)) (pad_cons (pd_isC (pd_var 0) (by exact B.isinstance) (HG 2 _ rfl)) (pad_cons (pd_isC (pd_var 0) (by exact B.isinstance) (HG 3 _ rfl)) pad_nil))))))
(pssd_cons (psd_set 1 sc_law_kinds.nd (pd_add false (pd_var 1) (pd_lst false (pad_cons (pd_isC (pd_var 0) (by exact B.isinstance) (HG 4 _ rfl)) (pad_cons (pd_isC (pd_var 0) (by exact B.isinstance) (HG 5 _ rfl)) (pad_cons (pd_isC (pd_var 0) (by exact B.isinstance) (HG 6 _ rfl)) pad_nil))))))
(pssd_cons (psd_set 1 sc_law_kinds.nd (pd_add false (pd_var 1) (pd_lst false (pad_cons (pd_isC (pd_var 0) (by exact B.isinstance) (HG 7 _ rfl)) (pad_cons (pd_isC (pd_var 0) (by exact B.isinstance) (HG 8 _ rfl)) (pad_cons (pd_isC (pd_var 0) (by exact B.isinstance) (HG 9 _ rfl)) (pad_cons (pd_isC (pd_var 0) (by exact B.isinstance) (HG 10 _ rfl)) pad_nil)))))))
(pssd_cons (psd_set 1 sc_law_kinds.nd (pd_add false (pd_var 1) (pd_lst false (pad_cons (pd_isC (pd_var 0) (by exact B.isinstance) (HG 11 _ rfl)) (pad_cons (pd_isC (pd_var 0) (by exact B.isinstance) (HG 12 _ rfl)) (pad_cons (pd_isC (pd_var 0) (by exact B.isinstance) (HG 13 _ rfl)) pad_nil))))))
(pssd_cons (psd_set 1 sc_law_kinds.nd (pd_add false (pd_var 1) (pd_lst false (pad_cons (pd_isC (pd_var 0) (by exact B.isinstance) (HG 14 _ rfl)) (pad_cons (pd_isC (pd_var 0) (by exact B.isinstance) (HG 15 _ rfl)) (pad_cons (pd_isC (pd_var 0) (by exact B.isinstance) (HG 16 _ rfl)) pad_nil))))))
(pssd_cons (psd_set 1 sc_law_kinds.nd (pd_add false (pd_var 1) (pd_lst false (pad_cons (pd_isC (pd_var 0) (by exact B.isinstance) (HG 17 _ rfl)) (pad_cons (pd_isC (pd_var 0) (by exact B.isinstance) (HG 18 _ rfl)) (pad_cons (pd_isC (pd_var 0) (by exact B.isinstance) (HG 19 _ rfl)) pad_nil))))))
(pssd_cons (psd_set 1 sc_law_kinds.nd (pd_add false (pd_var 1) (pd_lst false (pad_cons (pd_isC (pd_var 0) (by exact B.isinstance) (HG 20 _ rfl)) (pad_cons (pd_isC (pd_var 0) (by exact B.isinstance) (HG 21 _ rfl)) (pad_cons (pd_isC (pd_var 0) (by exact B.isinstance) (HG 22 _ rfl)) (pad_cons (pd_isC (pd_var 0) (by exact B.isinstance) (HG 23 _ rfl)) pad_nil)))))))
(pssd_cons (psd_set 1 sc_law_kinds.nd (pd_add false (pd_var 1) (pd_lst false (pad_cons (pd_isC (pd_var 0) (by exact B.isinstance) (HG 24 _ rfl)) (pad_cons (pd_isC (pd_var 0) (by exact B.isinstance) (HG 25 _ rfl)) (pad_cons (pd_isC (pd_var 0) (by exact B.isinstance) (HG 26 _ rfl)) (pad_cons (pd_isC (pd_var 0) (by exact B.isinstance) (HG 27 _ rfl)) pad_nil)))))))
(pssd_one (psd_ret (pd_add false (pd_var 1) (pd_lst false (pad_cons (pd_isC (pd_var 0) (by exact B.isinstance) (HG 28 _ rfl)) pad_nil)))))))))))))), fun xs M Qd Ed h => ?rd⟩
  case len =>
    obtain ⟨_, C, ns, ys, bf, rfl, _⟩ := h
    rfl
  case rd =>
    obtain ⟨rfl, C, ns, ys, bf, rfl, hx, hk, q⟩ := h
    apply ev_step (M1 := m0)
    · (repeat' first | exact ev_nil | exact ev_c | exact ev_var rfl | apply ev_cons | apply ev_lst | apply ev_addL | apply ev_is | exact hx | exact hk _ (by decide +kernel) | exact line_ge (Nat.le_of_ble_eq_true rfl) | exact rfl)
    apply ev_step (M1 := m0)
    · (repeat' first | exact ev_nil | exact ev_c | exact ev_var rfl | apply ev_cons | apply ev_lst | apply ev_addL | apply ev_is | exact hx | exact hk _ (by decide +kernel) | exact line_ge (Nat.le_of_ble_eq_true rfl) | exact rfl)
    apply ev_step (M1 := m0)
    · (repeat' first | exact ev_nil | exact ev_c | exact ev_var rfl | apply ev_cons | apply ev_lst | apply ev_addL | apply ev_is | exact hx | exact hk _ (by decide +kernel) | exact line_ge (Nat.le_of_ble_eq_true rfl) | exact rfl)
    apply ev_step (M1 := m0)
    · (repeat' first | exact ev_nil | exact ev_c | exact ev_var rfl | apply ev_cons | apply ev_lst | apply ev_addL | apply ev_is | exact hx | exact hk _ (by decide +kernel) | exact line_ge (Nat.le_of_ble_eq_true rfl) | exact rfl)
    apply ev_step (M1 := m0)
    · (repeat' first | exact ev_nil | exact ev_c | exact ev_var rfl | apply ev_cons | apply ev_lst | apply ev_addL | apply ev_is | exact hx | exact hk _ (by decide +kernel) | exact line_ge (Nat.le_of_ble_eq_true rfl) | exact rfl)
    apply ev_step (M1 := m0)
    · (repeat' first | exact ev_nil | exact ev_c | exact ev_var rfl | apply ev_cons | apply ev_lst | apply ev_addL | apply ev_is | exact hx | exact hk _ (by decide +kernel) | exact line_ge (Nat.le_of_ble_eq_true rfl) | exact rfl)
    apply ev_step (M1 := m0)
    · (repeat' first | exact ev_nil | exact ev_c | exact ev_var rfl | apply ev_cons | apply ev_lst | apply ev_addL | apply ev_is | exact hx | exact hk _ (by decide +kernel) | exact line_ge (Nat.le_of_ble_eq_true rfl) | exact rfl)
    apply ev_step (M1 := m0)
    · (repeat' first | exact ev_nil | exact ev_c | exact ev_var rfl | apply ev_cons | apply ev_lst | apply ev_addL | apply ev_is | exact hx | exact hk _ (by decide +kernel) | exact line_ge (Nat.le_of_ble_eq_true rfl) | exact rfl)
    apply ev_ret (M1 := m0)
    · (repeat' first | exact ev_nil | exact ev_c | exact ev_var rfl | apply ev_cons | apply ev_lst | apply ev_addL | apply ev_is | exact hx | exact hk _ (by decide +kernel) | exact line_ge (Nat.le_of_ble_eq_true rfl) | exact rfl)
    · exact rt_pure (y := .lst true (xcls.map fun p => .bl (bf p.1))) (by simp only [own, Bool.true_and]; exact ownA_map _ (fun _ => rfl) _) q
theorem made_at (K : PySem.W.Frag) (n : List Int) (letter : Str) (side : List Int) : ∀ i, i < 29 → ∃ p ns ys, xcls[i]? = some p ∧ (madeX K n letter side)[i]? = some (.exn (He.ga K p.1) ns ys)
  | 0, _ => ⟨_, _, _, rfl, rfl⟩
  | 1, _ => ⟨_, _, _, rfl, rfl⟩
  | 2, _ => ⟨_, _, _, rfl, rfl⟩
  | 3, _ => ⟨_, _, _, rfl, rfl⟩
  | 4, _ => ⟨_, _, _, rfl, rfl⟩
  | 5, _ => ⟨_, _, _, rfl, rfl⟩
  | 6, _ => ⟨_, _, _, rfl, rfl⟩
  | 7, _ => ⟨_, _, _, rfl, rfl⟩
  | 8, _ => ⟨_, _, _, rfl, rfl⟩
  | 9, _ => ⟨_, _, _, rfl, rfl⟩
  | 10, _ => ⟨_, _, _, rfl, rfl⟩
  | 11, _ => ⟨_, _, _, rfl, rfl⟩
  | 12, _ => ⟨_, _, _, rfl, rfl⟩
  | 13, _ => ⟨_, _, _, rfl, rfl⟩
  | 14, _ => ⟨_, _, _, rfl, rfl⟩
  | 15, _ => ⟨_, _, _, rfl, rfl⟩
  | 16, _ => ⟨_, _, _, rfl, rfl⟩
  | 17, _ => ⟨_, _, _, rfl, rfl⟩
  | 18, _ => ⟨_, _, _, rfl, rfl⟩
  | 19, _ => ⟨_, _, _, rfl, rfl⟩
  | 20, _ => ⟨_, _, _, rfl, rfl⟩
  | 21, _ => ⟨_, _, _, rfl, rfl⟩
  | 22, _ => ⟨_, _, _, rfl, rfl⟩
  | 23, _ => ⟨_, _, _, rfl, rfl⟩
  | 24, _ => ⟨_, _, _, rfl, rfl⟩
  | 25, _ => ⟨_, _, _, rfl, rfl⟩
  | 26, _ => ⟨_, _, _, rfl, rfl⟩
  | 27, _ => ⟨_, _, _, rfl, rfl⟩
  | 28, _ => ⟨_, _, _, rfl, rfl⟩
  | k + 29, h => absurd h (by omega)
theorem kinds_eq : ∀ i, i < 29 → (xcls.map fun p => decide (p.1 = (xcls.getD i ("", .s0)).1)) = (List.range 29).map fun k => decide (k = i) := by decide +kernel
structure KitOk (K : PySem.W.Frag) : Prop where
  xf : XiC K (He.ga K "FlowError")
  kt : ∀ x ∈ xnames, ∀ y ∈ xnames, PySem.W.kitOne K (.ref (He.ga K x)) (.ref (He.ga K y)) = some (decide (y = x))
  kf : ∀ x ∈ xnames, PySem.W.kitOne K (.ref (He.ga K x)) (.ref (He.ga K "FlowError")) = some true
  kv : ∀ x ∈ xnames, PySem.W.kitOne K (.ref (He.ga K x)) (.type "ValueError") = some true
  ff : ∀ y ∈ xnames, PySem.W.kitOne K (.ref (He.ga K "FlowError")) (.ref (He.ga K y)) = some false
  fv : PySem.W.kitOne K (.ref (He.ga K "FlowError")) (.type "ValueError") = some true
def f_law (K : PySem.W.Frag) : PF := fun xs Q _ => ∃ ns : List Int, xs = [.scr ns] ∧ ClsOk K ∧ KitOk K ∧ Q (.bl true)
abbrev s_law : Stmt := topS 41
theorem sc_law : FnScope ["script", "state", "numbers", "letter", "side", "passed", "made", "place", "plain", "k"] ["script"] (defScope s_law) := ⟨rfl, rfl, rfl, by decide +kernel, rfl, by decide +kernel, by decide +kernel⟩
theorem ok_law (B : Blt mg) {f : Addr} {fdt : FuncData} (F : Fun K "law" "law" s_law f fdt) (c_law_state : Cal P w K mg base CX0 "_law_state" 2 ["script", "start", "many"] (NFd f_state)) (c_law_great : Cal P w K mg base CX0 "_law_great" 2 ["state"] (SFd f_great)) (c_law_next : Cal P w K mg base CX0 "_law_next" 1 ["state", "many"] (SFd f_next)) (c_law_chosen : Cal P w K mg base CX0 "_law_chosen" 2 ["state", "limit", "most"] (SFd f_chosen)) (c_law_made : Cal P w K mg base CX0 "_law_made" 3 ["n", "letter", "side"] (PFd (f_made K))) (c_law_told : Cal P w K mg base CX0 "_law_told" 1 ["made"] (PFd (f_told K))) (c_law_kinds : Cal P w K mg base CX0 "_law_kinds" 1 ["e"] (PFd (f_kinds K))) (HX : ∀ (i : Nat) p, xcls[i]? = some p → CalX P w K mg base CX0 p.1 1 (He.ga K p.1) p.2) (HT : ∀ x ∈ btys, mg x = none) (HP : OexC K (He.ga K "FlowError") ∧ PySem.W.findIn K (.ref (He.ga K "FlowError")) "__init__" = some (some (.builtin "ValueError.__init__")) ∧ mg "FlowError" = some (.ref (He.ga K "FlowError"))) : FnOkG P w K mg base CX0 4 f fdt ["script"] (spG K (PFd (f_law K))) := by
  refine fnD F sc_law (fun xs M Q E h => ?len) fun cdv A outer s H E hr => ⟨_,
    ((pssd_cons (psd_set 1 sc_law.nd (pd_cN 2 c_law_state (hr.mono (by decide)) pass0 we0 (pad_cons (pd_var 0) (pad_cons pd_int (pad_cons pd_int pad_nil)))))
(pssd_cons (psd_setLc false 2 [("k", 9)] anti0 sc_law.nd (sw_true rfl rfl rfl (by decide +kernel)) (pid_range1 (by rfl) B.range (pad_cons pd_int pad_nil)) (blkOk_by (own := [("k", 9)]) (N := ["script", "state", "numbers", "letter", "side", "passed", "made", "place", "plain", "k"]) (sc := defScope s_law) (by decide +kernel)) (fun _ _ _ _ _ => (pgl_name 9 sc_law.nd)) (fun _ _ _ _ _ => ptsd_nil) (fun _ _ _ _ _ => (pd_cS 2 c_law_great (hr.mono (by decide)) pass0 (pad_cons (pd_var 1) pad_nil))))
(pssd_cons (psd_set 3 sc_law.nd (pd_ix (pd_lst false (pad_cons pd_str (pad_cons pd_str (pad_cons pd_str (pad_cons pd_str (pad_cons pd_str (pad_cons pd_str (pad_cons pd_str pad_nil)))))))) (pd_cS 2 c_law_next (hr.mono (by decide)) pass0 (pad_cons (pd_var 1) (pad_cons pd_int pad_nil)))))
(pssd_cons (psd_set 4 sc_law.nd (pd_sortSet false rfl (by exact B.sorted) (by exact B.set) (pd_cS 2 c_law_chosen (hr.mono (by decide)) pass0 (pad_cons (pd_var 1) (pad_cons pd_int (pad_cons pd_int pad_nil))))))
(pssd_cons (psd_set 5 sc_law.nd (pd_callTy call_list_of (snd_list true) (by rfl) B.list (by decide +kernel) (pad_cons (pd_var 4) pad_nil)))
(pssd_cons (psd_set 6 sc_law.nd (pd_cP 2 c_law_made (hr.mono (by decide)) pass0 we0 (pad_cons (pd_var 2) (pad_cons (pd_var 3) (pad_cons (pd_var 5) pad_nil)))))
(pssd_cons (psd_expr (pd_bm PySem.F.slot_list_append PySem.F.type_list_append mt_append snd_append (pd_var 5) (pad_cons pd_int pad_nil)))
(pssd_cons (psd_if (ptd_cmp op_ne snd_ne (pd_callB (call_reprL hr.gd hr.units) snd_repr (by rfl) B.repr (by decide +kernel) (pad_cons (pd_cP 2 c_law_told (hr.mono (by decide)) pass0 we0 (pad_cons (pd_var 6) pad_nil)) pad_nil)) (pd_callB (call_reprL hr.gd hr.units) snd_repr (by rfl) B.repr (by decide +kernel) (pad_cons (pd_lst false (pad_cons (pd_var 2) (pad_cons (pd_var 3) (pad_cons (pd_var 4) pad_nil)))) pad_nil)) (nomark _))
(pssd_one (psd_ret pd_bl))
pssd_nil)
(pssd_cons (psd_for anti0 PassesOwn.never rfl (pid_range1 (by rfl) B.range (pad_cons (pd_callB call_len_seq snd_len (by rfl) B.len PySem.boot_len (pad_cons (pd_var 6) pad_nil)) pad_nil)) (pgd_name 7 sc_law.nd)
(pssd_cons (psd_if (pwd_or (ptd_not (ptd_val (pd_isC (pd_ix (pd_var 6) (pd_var 7)) (by exact B.isinstance) HP.2.2))) (pwd_or1 (ptd_not (ptd_val (pd_isT (T := "ValueError") (pd_ix (pd_var 6) (pd_var 7)) (by exact B.isinstance) (HT "ValueError" (by decide +kernel)) (by decide +kernel)))))).pt
(pssd_one (psd_ret pd_bl))
pssd_nil)
(pssd_one (psd_if (ptd_cmp (op_neD hr.units) snd_neD (pd_cP 2 c_law_kinds (hr.mono (by decide)) pass0 we0 (pad_cons (pd_ix (pd_var 6) (pd_var 7)) pad_nil)) (pd_lc false [("k", 9)] anti0 sc_law.nd (pid_range1 (by rfl) B.range (pad_cons (pd_callB call_len_seq snd_len (by rfl) B.len PySem.boot_len (pad_cons (pd_var 6) pad_nil)) pad_nil)) (blkOk_by (own := [("k", 9)]) (N := ["script", "state", "numbers", "letter", "side", "passed", "made", "place", "plain", "k"]) (sc := defScope s_law) (by decide +kernel)) (fun _ _ _ _ _ => (pgl_name 9 sc_law.nd)) (fun _ _ _ _ _ => ptsd_nil) (fun _ _ _ _ _ => (pd_cmp op_eq snd_eq (pd_var 9) (pd_var 7) (nomark _)))) (nomark _))
(pssd_one (psd_ret pd_bl))
pssd_nil))))
(pssd_cons (psd_set 8 sc_law.nd (pd_mk0 HP.1 HP.2.1 HP.2.2))
(pssd_one (psd_ret (pd_and (pd_isT (T := "ValueError") (pd_var 8) (by exact B.isinstance) (HT "ValueError" (by decide +kernel)) (by decide +kernel)) (pd_one (pd_cmp op_notIn_seq (snd_in true) pd_bl (pd_cP 2 c_law_kinds (hr.mono (by decide)) pass0 we0 (pad_cons (pd_var 8) pad_nil)) (by rfl))))))))))))))))), fun xs M Qd Ed h => ?rd⟩
  case len =>
    obtain ⟨_, ns, rfl, _⟩ := h
    rfl
  case rd =>
    obtain ⟨rfl, ns, rfl, hc, hk, q⟩ := h
    refine step_asg (fun x M1 => ∃ nums p, NumsOk nums ∧ x = .ptr p ∧ M1 = mset m0 p (DL.stC nums 0)) (fun Q hQ => ?_) ?_
    · simp only [dseq, dasg, dasgG, dgsub, setL, dop, dun, dcb, dcons, dnil, dret, dretN, dnext, ddrop, diff, dif, dtest, dand, dor, dnot, dandV, dorV, dnotV, dchain, daug, dpar, dforS, dlc, dyes, dlst, dtup, dbm, fAppend, fPop, dvar, dc, fIx, fSl, dsl, dpart, dno, fI, fI0, fU, fAdd, fMul, fInt, fAbs, fLen, fMin2, fList, fEq, fIsN, gI, gB, lstOf, lstO, newl, dgname, dgtup, dgcons, dgnil, dirng1, dirng2, dilst, ditup, dienum, dizip, stays, startD, endD, dcallP, dcallN, fS, dfz, fzK, dbreak, dcont, wipeD, List.map_cons, List.map_nil, List.length_cons, List.length_nil, List.replicate, List.cons_append, List.nil_append, List.getElem?_cons_zero, List.getElem?_cons_succ, List.set_cons_zero, List.set_cons_succ, atI_zero, atI_one, atI_two, atI_three, ixN_zero, ixN_one, mset_same, mset_mset, mdel_mset, List.length_map, vw_one, Option.isSome_some, true_and, and_true, dmk, dmk0, dxf, disx, mkS, okX]
      exact ⟨ns, 0, 14, rfl, by decide, by decide, by decide, by decide, fun nums hnums p _ => hQ _ _ ⟨nums, p, hnums, rfl, rfl⟩⟩
    rintro _ _ ⟨nums, p, hnums, rfl, rfl⟩
    refine step_asg (fun x M1 => ∃ (zs : List Int) (k : Int), x = .lst true (zs.map .int) ∧ zs.length = 24 ∧ (∀ z ∈ zs, z.natAbs < 10 ^ 30) ∧ M1 = mset m0 p (DL.stC nums k)) (fun Q hQ => ?_) ?_
    · simp only [dseq, dasg, dasgG, dgsub, setL, dop, dun, dcb, dcons, dnil, dret, dretN, dnext, ddrop, diff, dif, dtest, dand, dor, dnot, dandV, dorV, dnotV, dchain, daug, dpar, dforS, dlc, dyes, dlst, dtup, dbm, fAppend, fPop, dvar, dc, fIx, fSl, dsl, dpart, dno, fI, fI0, fU, fAdd, fMul, fInt, fAbs, fLen, fMin2, fList, fEq, fIsN, gI, gB, lstOf, lstO, newl, dgname, dgtup, dgcons, dgnil, dirng1, dirng2, dilst, ditup, dienum, dizip, stays, startD, endD, dcallP, dcallN, fS, dfz, fzK, dbreak, dcont, wipeD, List.map_cons, List.map_nil, List.length_cons, List.length_nil, List.replicate, List.cons_append, List.nil_append, List.getElem?_cons_zero, List.getElem?_cons_succ, List.set_cons_zero, List.set_cons_succ, atI_zero, atI_one, atI_two, atI_three, ixN_zero, ixN_one, mset_same, mset_mset, mdel_mset, List.length_map, vw_one, Option.isSome_some, true_and, and_true, dmk, dmk0, dxf, disx, mkS, okX]
      refine ⟨by decide, by decide, ?_⟩
      refine dlc_rngI (fun i acc M' => ∃ (zs : List Int) (k' : Int), acc = zs.map .int ∧ zs.length = i ∧ (∀ z ∈ zs, z.natAbs < 10 ^ 30) ∧ M' = mset m0 p (DL.stC nums k')) ⟨[], 0, rfl, rfl, by simp, rfl⟩ ?_ ?_
      · rintro acc M' ⟨zs, k1, rfl, hl, hb, rfl⟩
        exact ⟨trivial, hQ _ _ ⟨zs, k1, rfl, hl, hb, rfl⟩⟩
      · rintro i acc M' R hi ⟨zs, k1, rfl, hl, hb, rfl⟩ kk
        simp only [dseq, dasg, dasgG, dgsub, setL, dop, dun, dcb, dcons, dnil, dret, dretN, dnext, ddrop, diff, dif, dtest, dand, dor, dnot, dandV, dorV, dnotV, dchain, daug, dpar, dforS, dlc, dyes, dlst, dtup, dbm, fAppend, fPop, dvar, dc, fIx, fSl, dsl, dpart, dno, fI, fI0, fU, fAdd, fMul, fInt, fAbs, fLen, fMin2, fList, fEq, fIsN, gI, gB, lstOf, lstO, newl, dgname, dgtup, dgcons, dgnil, dirng1, dirng2, dilst, ditup, dienum, dizip, stays, startD, endD, dcallP, dcallN, fS, dfz, fzK, dbreak, dcont, wipeD, List.map_cons, List.map_nil, List.length_cons, List.length_nil, List.replicate, List.cons_append, List.nil_append, List.getElem?_cons_zero, List.getElem?_cons_succ, List.set_cons_zero, List.set_cons_succ, atI_zero, atI_one, atI_two, atI_three, ixN_zero, ixN_one, mset_same, mset_mset, mdel_mset, List.length_map, vw_one, Option.isSome_some, true_and, and_true, dmk, dmk0, dxf, disx, mkS, okX]
        refine ⟨nums, k1, rfl, rfl, hnums, fun z k2 hz => ⟨line_gt (by omega), kk _ _ ⟨zs ++ [z], k2, by rw [List.map_append]; rfl, by simp [hl], ?_, rfl⟩⟩⟩
        intro y hy
        rcases List.mem_append.mp hy with h | h
        · exact hb y h
        · rw [List.mem_singleton.mp h]; exact hz
    rintro _ _ ⟨zs, k1, rfl, hzl, hzb, rfl⟩
    refine step_asg (fun x M1 => ∃ (s : Str) (k : Int), x = .str s ∧ s.length ≤ 10 ∧ (s.cps.toList.all fun c => decide (c < 16 ^ 8)) = true ∧ s.cps.size ≤ 10 ∧ M1 = mset m0 p (DL.stC nums k)) (fun Q hQ => ?_) ?_
    · simp only [dseq, dasg, dasgG, dgsub, setL, dop, dun, dcb, dcons, dnil, dret, dretN, dnext, ddrop, diff, dif, dtest, dand, dor, dnot, dandV, dorV, dnotV, dchain, daug, dpar, dforS, dlc, dyes, dlst, dtup, dbm, fAppend, fPop, dvar, dc, fIx, fSl, dsl, dpart, dno, fI, fI0, fU, fAdd, fMul, fInt, fAbs, fLen, fMin2, fList, fEq, fIsN, gI, gB, lstOf, lstO, newl, dgname, dgtup, dgcons, dgnil, dirng1, dirng2, dilst, ditup, dienum, dizip, stays, startD, endD, dcallP, dcallN, fS, dfz, fzK, dbreak, dcont, wipeD, List.map_cons, List.map_nil, List.length_cons, List.length_nil, List.replicate, List.cons_append, List.nil_append, List.getElem?_cons_zero, List.getElem?_cons_succ, List.set_cons_zero, List.set_cons_succ, atI_zero, atI_one, atI_two, atI_three, ixN_zero, ixN_one, mset_same, mset_mset, mdel_mset, List.length_map, vw_one, Option.isSome_some, true_and, and_true, dmk, dmk0, dxf, disx, mkS, okX]
      refine ⟨line_ge (by decide), nums, k1, rfl, 7, rfl, by decide, hnums, ?_⟩
      have h1 := nxt_ge (nums := nums) (k := k1) (n := 7) (by decide)
      have h2 := nxt_lt (nums := nums) (k := k1) (n := 7) (by decide)
      have all : ∀ v : Int, 0 ≤ v → v < 7 → ∃ s : Str, atI [X.str "a", X.str "b", X.str "c", X.str "d", X.str "e", X.str "f", X.str "g"] v = some (.str s) ∧ s.length ≤ 10 ∧ (s.cps.toList.all fun c => decide (c < 16 ^ 8)) = true ∧ s.cps.size ≤ 10 := fun v h1 h2 => by
        have : v = 0 ∨ v = 1 ∨ v = 2 ∨ v = 3 ∨ v = 4 ∨ v = 5 ∨ v = 6 := by omega
        rcases this with rfl | rfl | rfl | rfl | rfl | rfl | rfl
        · exact ⟨_, rfl, by decide, by decide, by decide⟩
        · exact ⟨_, rfl, by decide, by decide, by decide⟩
        · exact ⟨_, rfl, by decide, by decide, by decide⟩
        · exact ⟨_, rfl, by decide, by decide, by decide⟩
        · exact ⟨_, rfl, by decide, by decide, by decide⟩
        · exact ⟨_, rfl, by decide, by decide, by decide⟩
        · exact ⟨_, rfl, by decide, by decide, by decide⟩
      obtain ⟨s, e1, e2, e4, e5⟩ := all _ h1 h2
      show (match atI [X.str "a", X.str "b", X.str "c", X.str "d", X.str "e", X.str "f", X.str "g"] (nxt nums k1 7) with | some z => Q z (mset m0 p (DL.stC nums (k1 + 1))) | none => False)
      rw [e1]
      exact hQ _ _ ⟨s, k1 + 1, rfl, e2, e4, e5, rfl⟩
    rintro _ _ ⟨s, k2, rfl, hs1, hs3, hs4, rfl⟩
    refine step_asg (fun x M1 => ∃ (side : List Int) (k : Int), x = .lst true (side.map .int) ∧ side.length < 64 ∧ (∀ z ∈ side, 0 ≤ z ∧ z < 100) ∧ M1 = mset m0 p (DL.stC nums k)) (fun Q hQ => ?_) ?_
    · unfold fSortSet
      simp only [dseq, dasg, dasgG, dgsub, setL, dop, dun, dcb, dcons, dnil, dret, dretN, dnext, ddrop, diff, dif, dtest, dand, dor, dnot, dandV, dorV, dnotV, dchain, daug, dpar, dforS, dlc, dyes, dlst, dtup, dbm, fAppend, fPop, dvar, dc, fIx, fSl, dsl, dpart, dno, fI, fI0, fU, fAdd, fMul, fInt, fAbs, fLen, fMin2, fList, fEq, fIsN, gI, gB, lstOf, lstO, newl, dgname, dgtup, dgcons, dgnil, dirng1, dirng2, dilst, ditup, dienum, dizip, stays, startD, endD, dcallP, dcallN, fS, dfz, fzK, dbreak, dcont, wipeD, List.map_cons, List.map_nil, List.length_cons, List.length_nil, List.replicate, List.cons_append, List.nil_append, List.getElem?_cons_zero, List.getElem?_cons_succ, List.set_cons_zero, List.set_cons_succ, atI_zero, atI_one, atI_two, atI_three, ixN_zero, ixN_one, mset_same, mset_mset, mdel_mset, List.length_map, vw_one, Option.isSome_some, true_and, and_true, dmk, dmk0, dxf, disx, mkS, okX]
      refine ⟨nums, k2, rfl, 100, 9, rfl, by decide, by decide, by decide, hnums, fun cs k3 hcl hcb => ?_⟩
      refine ⟨cs, rfl, by omega, fun side hp hm hl => hQ _ _ ⟨side, k3, rfl, by omega, fun z hz => hcb z ((hm z).mp hz), rfl⟩⟩
    rintro _ _ ⟨side, k3, rfl, hsl, hsb, rfl⟩
    refine step_asg (fun x M1 => ∃ q, x = .ptr q ∧ M1 = mset (mset m0 p (DL.stC nums k3)) q (.lst (side.map .int)) ∧ mset m0 p (DL.stC nums k3) q = none) (fun Q hQ => ?_) ?_
    · simp only [dseq, dasg, dasgG, dgsub, setL, dop, dun, dcb, dcons, dnil, dret, dretN, dnext, ddrop, diff, dif, dtest, dand, dor, dnot, dandV, dorV, dnotV, dchain, daug, dpar, dforS, dlc, dyes, dlst, dtup, dbm, fAppend, fPop, dvar, dc, fIx, fSl, dsl, dpart, dno, fI, fI0, fU, fAdd, fMul, fInt, fAbs, fLen, fMin2, fList, fEq, fIsN, gI, gB, lstOf, lstO, newl, dgname, dgtup, dgcons, dgnil, dirng1, dirng2, dilst, ditup, dienum, dizip, stays, startD, endD, dcallP, dcallN, fS, dfz, fzK, dbreak, dcont, wipeD, List.map_cons, List.map_nil, List.length_cons, List.length_nil, List.replicate, List.cons_append, List.nil_append, List.getElem?_cons_zero, List.getElem?_cons_succ, List.set_cons_zero, List.set_cons_succ, atI_zero, atI_one, atI_two, atI_three, ixN_zero, ixN_one, mset_same, mset_mset, mdel_mset, List.length_map, vw_one, Option.isSome_some, true_and, and_true, dmk, dmk0, dxf, disx, mkS, okX]
      exact fun q hq => hQ _ _ ⟨q, rfl, rfl, hq⟩
    rintro _ _ ⟨p2, rfl, rfl, hp2⟩
    refine step_asg (fun x M1 => x = .lst true (madeX K zs s side) ∧ M1 = mset (mset m0 p (DL.stC nums k3)) p2 (.lst (side.map .int))) (fun Q hQ => ?_) ?_
    · simp only [dseq, dasg, dasgG, dgsub, setL, dop, dun, dcb, dcons, dnil, dret, dretN, dnext, ddrop, diff, dif, dtest, dand, dor, dnot, dandV, dorV, dnotV, dchain, daug, dpar, dforS, dlc, dyes, dlst, dtup, dbm, fAppend, fPop, dvar, dc, fIx, fSl, dsl, dpart, dno, fI, fI0, fU, fAdd, fMul, fInt, fAbs, fLen, fMin2, fList, fEq, fIsN, gI, gB, lstOf, lstO, newl, dgname, dgtup, dgcons, dgnil, dirng1, dirng2, dilst, ditup, dienum, dizip, stays, startD, endD, dcallP, dcallN, fS, dfz, fzK, dbreak, dcont, wipeD, List.map_cons, List.map_nil, List.length_cons, List.length_nil, List.replicate, List.cons_append, List.nil_append, List.getElem?_cons_zero, List.getElem?_cons_succ, List.set_cons_zero, List.set_cons_succ, atI_zero, atI_one, atI_two, atI_three, ixN_zero, ixN_one, mset_same, mset_mset, mdel_mset, List.length_map, vw_one, Option.isSome_some, true_and, and_true, dmk, dmk0, dxf, disx, mkS, okX]
      refine ⟨zs, side, s, true, false, ?_, hzl, hzb, hs1, by omega, hQ _ _ ⟨rfl, rfl⟩⟩
      have e : vw m0 (mset (mset m0 p (DL.stC nums k3)) p2 (.lst (side.map .int))) 2 (.ptr p2) = .lst false (side.map .int) := by
        show (match (none : Option Cell) with | some _ => X.ptr p2 | none => match mset (mset m0 p (DL.stC nums k3)) p2 (.lst (side.map .int)) p2 with | some (.lst zs) => X.lst false (zs.map (vw m0 _ 1)) | some (.ins C ns zs) => X.obj false C ns (zs.map (vw m0 _ 1)) | _ => X.ptr p2) = _
        rw [mset_same]
        show X.lst false ((side.map X.int).map (vw m0 _ 1)) = _
        rw [List.map_map]
        rfl
      rw [e]
      rfl
    rintro _ _ ⟨rfl, rfl⟩
    refine step_drop (fun _ M1 => M1 = mset (mset m0 p (DL.stC nums k3)) p2 (.lst (side.map .int ++ [.int 100]))) (fun Q hQ => ?_) ?_
    · simp only [dseq, dasg, dasgG, dgsub, setL, dop, dun, dcb, dcons, dnil, dret, dretN, dnext, ddrop, diff, dif, dtest, dand, dor, dnot, dandV, dorV, dnotV, dchain, daug, dpar, dforS, dlc, dyes, dlst, dtup, dbm, fAppend, fPop, dvar, dc, fIx, fSl, dsl, dpart, dno, fI, fI0, fU, fAdd, fMul, fInt, fAbs, fLen, fMin2, fList, fEq, fIsN, gI, gB, lstOf, lstO, newl, dgname, dgtup, dgcons, dgnil, dirng1, dirng2, dilst, ditup, dienum, dizip, stays, startD, endD, dcallP, dcallN, fS, dfz, fzK, dbreak, dcont, wipeD, List.map_cons, List.map_nil, List.length_cons, List.length_nil, List.replicate, List.cons_append, List.nil_append, List.getElem?_cons_zero, List.getElem?_cons_succ, List.set_cons_zero, List.set_cons_succ, atI_zero, atI_one, atI_two, atI_three, ixN_zero, ixN_one, mset_same, mset_mset, mdel_mset, List.length_map, vw_one, Option.isSome_some, true_and, and_true, dmk, dmk0, dxf, disx, mkS, okX]
      exact ⟨line_gt (by omega), hQ _ _ rfl⟩
    rintro _ _ rfl
    have hin := ints_ok hzb
    have his := ints_ok (zs := side) fun z hz => by
      have := hsb z hz
      have h100 : (100 : Nat) < 10 ^ 30 := by decide
      omega
    have hok : okR (.list [.list (zs.map .int), .str s, .list (side.map .int)]) := by
      refine okR_of ?_ ?_ ?_ ?_ ?_
      · simp only [PyData.showable, PyData.showableAll, hin.1, his.1, Bool.and_self]
      · simp only [PyData.hasDict, PyData.hasDictAll, hin.2.1, his.2.1, Bool.or_self]
      · simp only [PyData.depth, PyData.depthAll, hin.2.2.1, his.2.2.1]
        decide
      · simp only [PyData.leavesShort, PyData.leavesShortAll, hin.2.2.2.1, his.2.2.2.1, hs3, Bool.and_self]
      · have h1 := hin.2.2.2.2
        have h2 := his.2.2.2.2
        simp only [PyData.weight, PyData.weightAll]
        omega
    have hdx : ∀ g, dX g (.lst true [.lst true (zs.map .int), .str s, .lst true (side.map .int)]) = some (.list [.list (zs.map .int), .str s, .list (side.map .int)]) := fun g => by
      simp only [dX, dXs, dXs_ints, Option.map_some]
    refine step_if0 (evt_test (ev_eqq (ev_repr (xs := [.lst true (zs.map .int), .str s, .lst true (side.map .int)]) (b := true) (ev_callP (xs := [.lst true (madeX K zs s side)]) (ev_cons (ev_var rfl) ev_nil) fun P E h => ⟨zs, side, s, true, rfl, hzl, hc, h⟩) (hdx _) hok)
      (ev_repr (b := true) (ev_lst (ev_cons (ev_var rfl) (ev_cons (ev_var rfl) (ev_cons (ev_var rfl) ev_nil))) (line_ge (Nat.le_of_ble_eq_true rfl))) (hdx _) hok))) ?_
    refine step_rng (j := 29) (ev_cons (ev_lenN (b := true) (xs := madeX K zs s side) (ev_var rfl) rfl) ev_nil) (by decide) (by decide) (fun i δ M => ∃ y, δ = [some (.scr ns), some (.ptr p), some (.lst true (zs.map .int)), some (.str s), some (.lst true (side.map .int)), some (.ptr p2), some (.lst true (madeX K zs s side)), y, none, none] ∧
      M = mset (mset m0 p (DL.stC nums k3)) p2 (.lst (side.map .int ++ [.int 100]))) ⟨_, rfl, rfl⟩ ?_ ?_
    · rintro δ M ⟨y, rfl, rfl⟩
      apply ev_step
      · exact ev_mkP
      refine ev_ret (x := .bl true) (M1 := mset (mset m0 p (DL.stC nums k3)) p2 (.lst (side.map .int ++ [.int 100]))) (ev_and1 (ev_is (ev_var rfl) hk.xf hk.fv) ?_) (rt_pure rfl q)
      intro Q hQ
      refine ⟨_, _, _, fun _ => false, rfl, hk.xf, hk.ff, ?_⟩
      exact ⟨rfl, by decide, hQ⟩
    · rintro i δ M R B hi ⟨y, rfl, rfl⟩ kk
      obtain ⟨pc, ns', ys', hpc, hat⟩ := made_at K zs s side i hi
      have hix : atI (madeX K zs s side) (i : Int) = some (.exn (He.ga K pc.1) ns' ys') := idx_of hat
      have hmem : pc.1 ∈ xnames := List.mem_map.mpr ⟨pc, List.mem_of_getElem? hpc, rfl⟩
      have hpc2 : xcls.getD i ("", .s0) = pc := by
        rw [List.getD_eq_getElem?_getD, hpc]
        rfl
      have hke := kinds_eq i hi
      rw [hpc2] at hke
      show dseq _ _ _ _ _
      refine step_if0 (evt_or0 (evt_not (k := true) (evt_test (ev_is (ev_ix (ev_var rfl) (ev_var rfl) hix) (hc.xi _ hmem) (hk.kf _ hmem)))) (evt_not (k := true) (evt_test (ev_is (ev_ix (ev_var rfl) (ev_var rfl) hix) (hc.xi _ hmem) (hk.kv _ hmem))))) ?_
      refine (?_ : diff _ _ _ _ _ _)
      refine evt_test (k := false) (M1 := mset (mset m0 p (DL.stC nums k3)) p2 (.lst (side.map .int ++ [.int 100]))) (ev_eqqD (M1 := mset (mset m0 p (DL.stC nums k3)) p2 (.lst (side.map .int ++ [.int 100]))) (x := .lst true (xcls.map fun c => .bl (decide (c.1 = pc.1)))) (y := .lst true ((List.range 29).map fun k => .bl (decide (k = i)))) (d := .list ((List.range 29).map fun k => .bool (decide (k = i)))) ?_ ?_ ?_ ?_ ?_) _ ?_
      · refine ev_callP (xs := [.exn (He.ga K pc.1) ns' ys']) (ev_cons (ev_ix (ev_var rfl) (ev_var rfl) hix) ev_nil) fun P E h => ?_
        exact ⟨_, _, _, fun x => decide (x = pc.1), rfl, hc.xi _ hmem, fun x hx => hk.kt _ hmem x hx, h⟩
      · refine ev_lcr (j := 29) (v := fun k => .bl (decide (k = i))) (ev_cons (ev_lenN (b := true) (xs := madeX K zs s side) (ev_var rfl) rfl) ev_nil) (by decide) (by decide) fun k R hkk h => ?_
        show R (.bl (false != decide ((k : Int) = (i : Int)))) _
        have e : (false != decide ((k : Int) = (i : Int))) = decide (k = i) := by
          rw [Bool.false_bne]
          exact decide_eq_decide.mpr (by omega)
        rw [e]
        exact h
      · have e : (xcls.map fun c => X.bl (decide (c.1 = pc.1))) = (xcls.map fun c => decide (c.1 = pc.1)).map X.bl := by rw [List.map_map]; rfl
        rw [e, hke]
        simp only [dX]
        rw [dXs_map _ X.bl PyData.bool (fun _ => by simp only [dX]), List.map_map]
        rfl
      · simp only [dX]
        rw [dXs_map _ (fun k => X.bl (decide (k = i))) (fun k => PyData.bool (decide (k = i))) (fun _ => by simp only [dX])]
        rfl
      · exact shaped_map _ (fun _ => ⟨rfl, rfl⟩) _
      · exact kk _ _ ⟨_, rfl, rfl⟩
end
end K65


set_option maxRecDepth 100000
set_option maxHeartbeats 0
namespace K65
open PySem PySem.Spec PyProof.Rows L2 DL
section
variable {P : Program} {w : World} {K : PySem.W.Frag} {mg : Str → Option Value} {base : Heap}
def iniOf : Stmt → Stmt
  | .ClassDef _ _ _ b _ _ _ _ _ _ _ => b.headD (.Pass ⟨0, 0, 0, 0⟩)
  | s => s

theorem cx_BadGraph (I : HX.Ini P K "BadGraph" "BadGraph.__init__" (iniOf (topS 2))) (T : OexC K (He.ga K "BadGraph")) (hs : mg "super" = none) (hl : mg "list" = none) (top : (P.main.scope.names.lookup ("super" : Str)).isSome = false) (n0 : PySem.W.findIn K (.ref (He.ga K "BadGraph")) "index" = some none) (gx : mg "BadGraph" = some (.ref (He.ga K "BadGraph"))) : CalX P w K mg base CX0 "BadGraph" 1 (He.ga K "BadGraph") (.s1 "index") := by
  obtain ⟨oc, od, kV, doc, pm, an, cda, ct, cc, osl, lk, hcd, S⟩ := I.sup T hs ⟨_, rfl, rfl⟩ rfl rfl rfl top
  exact ⟨⟨_, _, ["self", "index"], fn_x1 lk hcd ⟨rfl, rfl, rfl, by decide +kernel, rfl, by decide +kernel, by decide +kernel, by decide +kernel⟩ S n0 (fun A outer s H E => msg_1 (i := 1) rfl (.inl rfl) (by decide)) (fun env => ⟨_, rfl⟩) (fun _ => rfl) (fun _ => rfl) (fun _ => rfl), gx, I.i1, I.i2, .all fun us hl => match us, hl with | [_, _], _ => rfl⟩, T⟩
theorem cx_UnknownVertex (I : HX.Ini P K "UnknownVertex" "UnknownVertex.__init__" (iniOf (topS 3))) (T : OexC K (He.ga K "UnknownVertex")) (hs : mg "super" = none) (hl : mg "list" = none) (top : (P.main.scope.names.lookup ("super" : Str)).isSome = false) (n0 : PySem.W.findIn K (.ref (He.ga K "UnknownVertex")) "vertex" = some none) (gx : mg "UnknownVertex" = some (.ref (He.ga K "UnknownVertex"))) : CalX P w K mg base CX0 "UnknownVertex" 1 (He.ga K "UnknownVertex") (.s1 "vertex") := by
  obtain ⟨oc, od, kV, doc, pm, an, cda, ct, cc, osl, lk, hcd, S⟩ := I.sup T hs ⟨_, rfl, rfl⟩ rfl rfl rfl top
  exact ⟨⟨_, _, ["self", "vertex"], fn_x1 lk hcd ⟨rfl, rfl, rfl, by decide +kernel, rfl, by decide +kernel, by decide +kernel, by decide +kernel⟩ S n0 (fun A outer s H E => msg_1 (i := 1) rfl (.inl rfl) (by decide)) (fun env => ⟨_, rfl⟩) (fun _ => rfl) (fun _ => rfl) (fun _ => rfl), gx, I.i1, I.i2, .all fun us hl => match us, hl with | [_, _], _ => rfl⟩, T⟩
theorem cx_UnknownEdge (I : HX.Ini P K "UnknownEdge" "UnknownEdge.__init__" (iniOf (topS 4))) (T : OexC K (He.ga K "UnknownEdge")) (hs : mg "super" = none) (hl : mg "list" = none) (top : (P.main.scope.names.lookup ("super" : Str)).isSome = false) (n0 : PySem.W.findIn K (.ref (He.ga K "UnknownEdge")) "edge" = some none) (gx : mg "UnknownEdge" = some (.ref (He.ga K "UnknownEdge"))) : CalX P w K mg base CX0 "UnknownEdge" 1 (He.ga K "UnknownEdge") (.s1 "edge") := by
  obtain ⟨oc, od, kV, doc, pm, an, cda, ct, cc, osl, lk, hcd, S⟩ := I.sup T hs ⟨_, rfl, rfl⟩ rfl rfl rfl top
  exact ⟨⟨_, _, ["self", "edge"], fn_x1 lk hcd ⟨rfl, rfl, rfl, by decide +kernel, rfl, by decide +kernel, by decide +kernel, by decide +kernel⟩ S n0 (fun A outer s H E => msg_1 (i := 1) rfl (.inl rfl) (by decide)) (fun env => ⟨_, rfl⟩) (fun _ => rfl) (fun _ => rfl) (fun _ => rfl), gx, I.i1, I.i2, .all fun us hl => match us, hl with | [_, _], _ => rfl⟩, T⟩
theorem cx_Apart (I : HX.Ini P K "Apart" "Apart.__init__" (iniOf (topS 5))) (T : OexC K (He.ga K "Apart")) (hs : mg "super" = none) (hl : mg "list" = none) (top : (P.main.scope.names.lookup ("super" : Str)).isSome = false) (n0 : PySem.W.findIn K (.ref (He.ga K "Apart")) "start" = some none) (n1 : PySem.W.findIn K (.ref (He.ga K "Apart")) "goal" = some none) (gx : mg "Apart" = some (.ref (He.ga K "Apart"))) : CalX P w K mg base CX0 "Apart" 1 (He.ga K "Apart") (.s2 "start" "goal") := by
  obtain ⟨oc, od, kV, doc, pm, an, cda, ct, cc, osl, lk, hcd, S⟩ := I.sup T hs ⟨_, rfl, rfl⟩ rfl rfl rfl top
  exact ⟨⟨_, _, ["self", "start", "goal"], fn_x2 lk hcd ⟨rfl, rfl, rfl, by decide +kernel, rfl, by decide +kernel, by decide +kernel, by decide +kernel⟩ S n0 n1 (fun A outer s H E => msg_2 (i := 1) (i2 := 2) rfl (.inl rfl) rfl (.inl rfl) (by decide) (by decide)) (fun env => ⟨_, rfl⟩) (fun _ => rfl) (fun _ => rfl) (fun _ => rfl) (fun _ => rfl), gx, I.i1, I.i2, .all fun us hl => match us, hl with | [_, _, _], _ => rfl⟩, T⟩
theorem cx_SameVertex (I : HX.Ini P K "SameVertex" "SameVertex.__init__" (iniOf (topS 6))) (T : OexC K (He.ga K "SameVertex")) (hs : mg "super" = none) (hl : mg "list" = none) (top : (P.main.scope.names.lookup ("super" : Str)).isSome = false) (n0 : PySem.W.findIn K (.ref (He.ga K "SameVertex")) "vertex" = some none) (gx : mg "SameVertex" = some (.ref (He.ga K "SameVertex"))) : CalX P w K mg base CX0 "SameVertex" 1 (He.ga K "SameVertex") (.s1 "vertex") := by
  obtain ⟨oc, od, kV, doc, pm, an, cda, ct, cc, osl, lk, hcd, S⟩ := I.sup T hs ⟨_, rfl, rfl⟩ rfl rfl rfl top
  exact ⟨⟨_, _, ["self", "vertex"], fn_x1 lk hcd ⟨rfl, rfl, rfl, by decide +kernel, rfl, by decide +kernel, by decide +kernel, by decide +kernel⟩ S n0 (fun A outer s H E => msg_1 (i := 1) rfl (.inl rfl) (by decide)) (fun env => ⟨_, rfl⟩) (fun _ => rfl) (fun _ => rfl) (fun _ => rfl), gx, I.i1, I.i2, .all fun us hl => match us, hl with | [_, _], _ => rfl⟩, T⟩
theorem cx_TooSmall (I : HX.Ini P K "TooSmall" "TooSmall.__init__" (iniOf (topS 7))) (T : OexC K (He.ga K "TooSmall")) (hs : mg "super" = none) (hl : mg "list" = none) (top : (P.main.scope.names.lookup ("super" : Str)).isSome = false) (n0 : PySem.W.findIn K (.ref (He.ga K "TooSmall")) "count" = some none) (gx : mg "TooSmall" = some (.ref (He.ga K "TooSmall"))) : CalX P w K mg base CX0 "TooSmall" 1 (He.ga K "TooSmall") (.s1 "count") := by
  obtain ⟨oc, od, kV, doc, pm, an, cda, ct, cc, osl, lk, hcd, S⟩ := I.sup T hs ⟨_, rfl, rfl⟩ rfl rfl rfl top
  exact ⟨⟨_, _, ["self", "count"], fn_x1 lk hcd ⟨rfl, rfl, rfl, by decide +kernel, rfl, by decide +kernel, by decide +kernel, by decide +kernel⟩ S n0 (fun A outer s H E => msg_1 (i := 1) rfl (.inl rfl) (by decide)) (fun env => ⟨_, rfl⟩) (fun _ => rfl) (fun _ => rfl) (fun _ => rfl), gx, I.i1, I.i2, .all fun us hl => match us, hl with | [_, _], _ => rfl⟩, T⟩
theorem cx_HasBridge (I : HX.Ini P K "HasBridge" "HasBridge.__init__" (iniOf (topS 8))) (T : OexC K (He.ga K "HasBridge")) (hs : mg "super" = none) (hl : mg "list" = none) (top : (P.main.scope.names.lookup ("super" : Str)).isSome = false) (n0 : PySem.W.findIn K (.ref (He.ga K "HasBridge")) "edge" = some none) (n1 : PySem.W.findIn K (.ref (He.ga K "HasBridge")) "side" = some none) (gx : mg "HasBridge" = some (.ref (He.ga K "HasBridge"))) : CalX P w K mg base CX0 "HasBridge" 1 (He.ga K "HasBridge") (.sB "edge" "side") := by
  obtain ⟨oc, od, kV, doc, pm, an, cda, ct, cc, osl, lk, hcd, S⟩ := I.sup T hs ⟨_, rfl, rfl⟩ rfl rfl rfl top
  exact ⟨⟨_, _, ["self", "edge", "side"], fn_xB lk hcd ⟨rfl, rfl, rfl, by decide +kernel, rfl, by decide +kernel, by decide +kernel, by decide +kernel⟩ S n0 n1 (fun A outer s H E => msg_1 (i := 1) rfl (.inl rfl) (by decide)) (fun env => ⟨_, rfl⟩) (fun _ => rfl) (fun _ => rfl) (fun _ => rfl) (fun _ => rfl) rfl hl, gx, I.i1, I.i2, .all fun us hl => match us, hl with | [_, _, _], _ => rfl⟩, T⟩
theorem cx_NotABridge (I : HX.Ini P K "NotABridge" "NotABridge.__init__" (iniOf (topS 9))) (T : OexC K (He.ga K "NotABridge")) (hs : mg "super" = none) (hl : mg "list" = none) (top : (P.main.scope.names.lookup ("super" : Str)).isSome = false) (n0 : PySem.W.findIn K (.ref (He.ga K "NotABridge")) "edge" = some none) (gx : mg "NotABridge" = some (.ref (He.ga K "NotABridge"))) : CalX P w K mg base CX0 "NotABridge" 1 (He.ga K "NotABridge") (.s1 "edge") := by
  obtain ⟨oc, od, kV, doc, pm, an, cda, ct, cc, osl, lk, hcd, S⟩ := I.sup T hs ⟨_, rfl, rfl⟩ rfl rfl rfl top
  exact ⟨⟨_, _, ["self", "edge"], fn_x1 lk hcd ⟨rfl, rfl, rfl, by decide +kernel, rfl, by decide +kernel, by decide +kernel, by decide +kernel⟩ S n0 (fun A outer s H E => msg_1 (i := 1) rfl (.inl rfl) (by decide)) (fun env => ⟨_, rfl⟩) (fun _ => rfl) (fun _ => rfl) (fun _ => rfl), gx, I.i1, I.i2, .all fun us hl => match us, hl with | [_, _], _ => rfl⟩, T⟩
theorem cx_BadRow (I : HX.Ini P K "BadRow" "BadRow.__init__" (iniOf (topS 10))) (T : OexC K (He.ga K "BadRow")) (hs : mg "super" = none) (hl : mg "list" = none) (top : (P.main.scope.names.lookup ("super" : Str)).isSome = false) (n0 : PySem.W.findIn K (.ref (He.ga K "BadRow")) "length" = some none) (gx : mg "BadRow" = some (.ref (He.ga K "BadRow"))) : CalX P w K mg base CX0 "BadRow" 1 (He.ga K "BadRow") (.s1 "length") := by
  obtain ⟨oc, od, kV, doc, pm, an, cda, ct, cc, osl, lk, hcd, S⟩ := I.sup T hs ⟨_, rfl, rfl⟩ rfl rfl rfl top
  exact ⟨⟨_, _, ["self", "length"], fn_x1 lk hcd ⟨rfl, rfl, rfl, by decide +kernel, rfl, by decide +kernel, by decide +kernel, by decide +kernel⟩ S n0 (fun A outer s H E => msg_1 (i := 1) rfl (.inl rfl) (by decide)) (fun env => ⟨_, rfl⟩) (fun _ => rfl) (fun _ => rfl) (fun _ => rfl), gx, I.i1, I.i2, .all fun us hl => match us, hl with | [_, _], _ => rfl⟩, T⟩
theorem cx_BadAmount (I : HX.Ini P K "BadAmount" "BadAmount.__init__" (iniOf (topS 11))) (T : OexC K (He.ga K "BadAmount")) (hs : mg "super" = none) (hl : mg "list" = none) (top : (P.main.scope.names.lookup ("super" : Str)).isSome = false) (n0 : PySem.W.findIn K (.ref (He.ga K "BadAmount")) "edge" = some none) (gx : mg "BadAmount" = some (.ref (He.ga K "BadAmount"))) : CalX P w K mg base CX0 "BadAmount" 1 (He.ga K "BadAmount") (.s1 "edge") := by
  obtain ⟨oc, od, kV, doc, pm, an, cda, ct, cc, osl, lk, hcd, S⟩ := I.sup T hs ⟨_, rfl, rfl⟩ rfl rfl rfl top
  exact ⟨⟨_, _, ["self", "edge"], fn_x1 lk hcd ⟨rfl, rfl, rfl, by decide +kernel, rfl, by decide +kernel, by decide +kernel, by decide +kernel⟩ S n0 (fun A outer s H E => msg_1 (i := 1) rfl (.inl rfl) (by decide)) (fun env => ⟨_, rfl⟩) (fun _ => rfl) (fun _ => rfl) (fun _ => rfl), gx, I.i1, I.i2, .all fun us hl => match us, hl with | [_, _], _ => rfl⟩, T⟩
theorem cx_OtherGraph (I : HX.Ini P K "OtherGraph" "OtherGraph.__init__" (iniOf (topS 12))) (T : OexC K (He.ga K "OtherGraph")) (hs : mg "super" = none) (hl : mg "list" = none) (top : (P.main.scope.names.lookup ("super" : Str)).isSome = false) (gx : mg "OtherGraph" = some (.ref (He.ga K "OtherGraph"))) : CalX P w K mg base CX0 "OtherGraph" 1 (He.ga K "OtherGraph") (.s0) := by
  obtain ⟨oc, od, kV, doc, pm, an, cda, ct, cc, osl, lk, hcd, S⟩ := I.sup T hs ⟨_, rfl, rfl⟩ rfl rfl rfl top
  exact ⟨⟨_, _, ["self"], fn_x0 lk hcd ⟨rfl, rfl, rfl, by decide +kernel, rfl, by decide +kernel, by decide +kernel, by decide +kernel⟩ S (fun A outer s H E => msg_c) (fun env => ⟨_, rfl⟩) (fun _ => rfl) (fun _ => rfl), gx, I.i1, I.i2, .all fun us hl => match us, hl with | [_], _ => rfl⟩, T⟩
theorem cx_Unbalanced (I : HX.Ini P K "Unbalanced" "Unbalanced.__init__" (iniOf (topS 13))) (T : OexC K (He.ga K "Unbalanced")) (hs : mg "super" = none) (hl : mg "list" = none) (top : (P.main.scope.names.lookup ("super" : Str)).isSome = false) (n0 : PySem.W.findIn K (.ref (He.ga K "Unbalanced")) "vertex" = some none) (gx : mg "Unbalanced" = some (.ref (He.ga K "Unbalanced"))) : CalX P w K mg base CX0 "Unbalanced" 1 (He.ga K "Unbalanced") (.s1 "vertex") := by
  obtain ⟨oc, od, kV, doc, pm, an, cda, ct, cc, osl, lk, hcd, S⟩ := I.sup T hs ⟨_, rfl, rfl⟩ rfl rfl rfl top
  exact ⟨⟨_, _, ["self", "vertex"], fn_x1 lk hcd ⟨rfl, rfl, rfl, by decide +kernel, rfl, by decide +kernel, by decide +kernel, by decide +kernel⟩ S n0 (fun A outer s H E => msg_1 (i := 1) rfl (.inl rfl) (by decide)) (fun env => ⟨_, rfl⟩) (fun _ => rfl) (fun _ => rfl) (fun _ => rfl), gx, I.i1, I.i2, .all fun us hl => match us, hl with | [_, _], _ => rfl⟩, T⟩
theorem cx_OddVertex (I : HX.Ini P K "OddVertex" "OddVertex.__init__" (iniOf (topS 14))) (T : OexC K (He.ga K "OddVertex")) (hs : mg "super" = none) (hl : mg "list" = none) (top : (P.main.scope.names.lookup ("super" : Str)).isSome = false) (n0 : PySem.W.findIn K (.ref (He.ga K "OddVertex")) "vertex" = some none) (gx : mg "OddVertex" = some (.ref (He.ga K "OddVertex"))) : CalX P w K mg base CX0 "OddVertex" 1 (He.ga K "OddVertex") (.s1 "vertex") := by
  obtain ⟨oc, od, kV, doc, pm, an, cda, ct, cc, osl, lk, hcd, S⟩ := I.sup T hs ⟨_, rfl, rfl⟩ rfl rfl rfl top
  exact ⟨⟨_, _, ["self", "vertex"], fn_x1 lk hcd ⟨rfl, rfl, rfl, by decide +kernel, rfl, by decide +kernel, by decide +kernel, by decide +kernel⟩ S n0 (fun A outer s H E => msg_1 (i := 1) rfl (.inl rfl) (by decide)) (fun env => ⟨_, rfl⟩) (fun _ => rfl) (fun _ => rfl) (fun _ => rfl), gx, I.i1, I.i2, .all fun us hl => match us, hl with | [_, _], _ => rfl⟩, T⟩
theorem cx_NotATree (I : HX.Ini P K "NotATree" "NotATree.__init__" (iniOf (topS 15))) (T : OexC K (He.ga K "NotATree")) (hs : mg "super" = none) (hl : mg "list" = none) (top : (P.main.scope.names.lookup ("super" : Str)).isSome = false) (gx : mg "NotATree" = some (.ref (He.ga K "NotATree"))) : CalX P w K mg base CX0 "NotATree" 1 (He.ga K "NotATree") (.s0) := by
  obtain ⟨oc, od, kV, doc, pm, an, cda, ct, cc, osl, lk, hcd, S⟩ := I.sup T hs ⟨_, rfl, rfl⟩ rfl rfl rfl top
  exact ⟨⟨_, _, ["self"], fn_x0 lk hcd ⟨rfl, rfl, rfl, by decide +kernel, rfl, by decide +kernel, by decide +kernel, by decide +kernel⟩ S (fun A outer s H E => msg_c) (fun env => ⟨_, rfl⟩) (fun _ => rfl) (fun _ => rfl), gx, I.i1, I.i2, .all fun us hl => match us, hl with | [_], _ => rfl⟩, T⟩
theorem cx_BadBounds (I : HX.Ini P K "BadBounds" "BadBounds.__init__" (iniOf (topS 16))) (T : OexC K (He.ga K "BadBounds")) (hs : mg "super" = none) (hl : mg "list" = none) (top : (P.main.scope.names.lookup ("super" : Str)).isSome = false) (n0 : PySem.W.findIn K (.ref (He.ga K "BadBounds")) "edge" = some none) (gx : mg "BadBounds" = some (.ref (He.ga K "BadBounds"))) : CalX P w K mg base CX0 "BadBounds" 1 (He.ga K "BadBounds") (.s1 "edge") := by
  obtain ⟨oc, od, kV, doc, pm, an, cda, ct, cc, osl, lk, hcd, S⟩ := I.sup T hs ⟨_, rfl, rfl⟩ rfl rfl rfl top
  exact ⟨⟨_, _, ["self", "edge"], fn_x1 lk hcd ⟨rfl, rfl, rfl, by decide +kernel, rfl, by decide +kernel, by decide +kernel, by decide +kernel⟩ S n0 (fun A outer s H E => msg_1 (i := 1) rfl (.inl rfl) (by decide)) (fun env => ⟨_, rfl⟩) (fun _ => rfl) (fun _ => rfl) (fun _ => rfl), gx, I.i1, I.i2, .all fun us hl => match us, hl with | [_, _], _ => rfl⟩, T⟩
theorem cx_BadModulus (I : HX.Ini P K "BadModulus" "BadModulus.__init__" (iniOf (topS 17))) (T : OexC K (He.ga K "BadModulus")) (hs : mg "super" = none) (hl : mg "list" = none) (top : (P.main.scope.names.lookup ("super" : Str)).isSome = false) (n0 : PySem.W.findIn K (.ref (He.ga K "BadModulus")) "modulus" = some none) (gx : mg "BadModulus" = some (.ref (He.ga K "BadModulus"))) : CalX P w K mg base CX0 "BadModulus" 1 (He.ga K "BadModulus") (.s1 "modulus") := by
  obtain ⟨oc, od, kV, doc, pm, an, cda, ct, cc, osl, lk, hcd, S⟩ := I.sup T hs ⟨_, rfl, rfl⟩ rfl rfl rfl top
  exact ⟨⟨_, _, ["self", "modulus"], fn_x1 lk hcd ⟨rfl, rfl, rfl, by decide +kernel, rfl, by decide +kernel, by decide +kernel, by decide +kernel⟩ S n0 (fun A outer s H E => msg_1 (i := 1) rfl (.inl rfl) (by decide)) (fun env => ⟨_, rfl⟩) (fun _ => rfl) (fun _ => rfl) (fun _ => rfl), gx, I.i1, I.i2, .all fun us hl => match us, hl with | [_, _], _ => rfl⟩, T⟩
theorem cx_NotAStair (I : HX.Ini P K "NotAStair" "NotAStair.__init__" (iniOf (topS 18))) (T : OexC K (He.ga K "NotAStair")) (hs : mg "super" = none) (hl : mg "list" = none) (top : (P.main.scope.names.lookup ("super" : Str)).isSome = false) (gx : mg "NotAStair" = some (.ref (He.ga K "NotAStair"))) : CalX P w K mg base CX0 "NotAStair" 1 (He.ga K "NotAStair") (.s0) := by
  obtain ⟨oc, od, kV, doc, pm, an, cda, ct, cc, osl, lk, hcd, S⟩ := I.sup T hs ⟨_, rfl, rfl⟩ rfl rfl rfl top
  exact ⟨⟨_, _, ["self"], fn_x0 lk hcd ⟨rfl, rfl, rfl, by decide +kernel, rfl, by decide +kernel, by decide +kernel, by decide +kernel⟩ S (fun A outer s H E => msg_c) (fun env => ⟨_, rfl⟩) (fun _ => rfl) (fun _ => rfl), gx, I.i1, I.i2, .all fun us hl => match us, hl with | [_], _ => rfl⟩, T⟩
theorem cx_NotABeginning (I : HX.Ini P K "NotABeginning" "NotABeginning.__init__" (iniOf (topS 19))) (T : OexC K (He.ga K "NotABeginning")) (hs : mg "super" = none) (hl : mg "list" = none) (top : (P.main.scope.names.lookup ("super" : Str)).isSome = false) (gx : mg "NotABeginning" = some (.ref (He.ga K "NotABeginning"))) : CalX P w K mg base CX0 "NotABeginning" 1 (He.ga K "NotABeginning") (.s0) := by
  obtain ⟨oc, od, kV, doc, pm, an, cda, ct, cc, osl, lk, hcd, S⟩ := I.sup T hs ⟨_, rfl, rfl⟩ rfl rfl rfl top
  exact ⟨⟨_, _, ["self"], fn_x0 lk hcd ⟨rfl, rfl, rfl, by decide +kernel, rfl, by decide +kernel, by decide +kernel, by decide +kernel⟩ S (fun A outer s H E => msg_c) (fun env => ⟨_, rfl⟩) (fun _ => rfl) (fun _ => rfl), gx, I.i1, I.i2, .all fun us hl => match us, hl with | [_], _ => rfl⟩, T⟩
theorem cx_BadStage (I : HX.Ini P K "BadStage" "BadStage.__init__" (iniOf (topS 20))) (T : OexC K (He.ga K "BadStage")) (hs : mg "super" = none) (hl : mg "list" = none) (top : (P.main.scope.names.lookup ("super" : Str)).isSome = false) (n0 : PySem.W.findIn K (.ref (He.ga K "BadStage")) "rule" = some none) (gx : mg "BadStage" = some (.ref (He.ga K "BadStage"))) : CalX P w K mg base CX0 "BadStage" 1 (He.ga K "BadStage") (.s1 "rule") := by
  obtain ⟨oc, od, kV, doc, pm, an, cda, ct, cc, osl, lk, hcd, S⟩ := I.sup T hs ⟨_, rfl, rfl⟩ rfl rfl rfl top
  exact ⟨⟨_, _, ["self", "rule"], fn_x1 lk hcd ⟨rfl, rfl, rfl, by decide +kernel, rfl, by decide +kernel, by decide +kernel, by decide +kernel⟩ S n0 (fun A outer s H E => msg_1 (i := 1) rfl (.inl rfl) (by decide)) (fun env => ⟨_, rfl⟩) (fun _ => rfl) (fun _ => rfl) (fun _ => rfl), gx, I.i1, I.i2, .all fun us hl => match us, hl with | [_, _], _ => rfl⟩, T⟩
theorem cx_NotAPiece (I : HX.Ini P K "NotAPiece" "NotAPiece.__init__" (iniOf (topS 22))) (T : OexC K (He.ga K "NotAPiece")) (hs : mg "super" = none) (hl : mg "list" = none) (top : (P.main.scope.names.lookup ("super" : Str)).isSome = false) (gx : mg "NotAPiece" = some (.ref (He.ga K "NotAPiece"))) : CalX P w K mg base CX0 "NotAPiece" 1 (He.ga K "NotAPiece") (.s0) := by
  obtain ⟨oc, od, kV, doc, pm, an, cda, ct, cc, osl, lk, hcd, S⟩ := I.sup T hs ⟨_, rfl, rfl⟩ rfl rfl rfl top
  exact ⟨⟨_, _, ["self"], fn_x0 lk hcd ⟨rfl, rfl, rfl, by decide +kernel, rfl, by decide +kernel, by decide +kernel, by decide +kernel⟩ S (fun A outer s H E => msg_c) (fun env => ⟨_, rfl⟩) (fun _ => rfl) (fun _ => rfl), gx, I.i1, I.i2, .all fun us hl => match us, hl with | [_], _ => rfl⟩, T⟩
theorem cx_HasPiece (I : HX.Ini P K "HasPiece" "HasPiece.__init__" (iniOf (topS 21))) (T : OexC K (He.ga K "HasPiece")) (hs : mg "super" = none) (hl : mg "list" = none) (top : (P.main.scope.names.lookup ("super" : Str)).isSome = false) (n0 : PySem.W.findIn K (.ref (He.ga K "HasPiece")) "stage" = some none) (gx : mg "HasPiece" = some (.ref (He.ga K "HasPiece"))) : CalX P w K mg base CX0 "HasPiece" 1 (He.ga K "HasPiece") (.s1 "stage") := by
  obtain ⟨oc, od, kV, doc, pm, an, cda, ct, cc, osl, lk, hcd, S⟩ := I.sup T hs ⟨_, rfl, rfl⟩ rfl rfl rfl top
  exact ⟨⟨_, _, ["self", "stage"], fn_x1 lk hcd ⟨rfl, rfl, rfl, by decide +kernel, rfl, by decide +kernel, by decide +kernel, by decide +kernel⟩ S n0 (fun A outer s H E => msg_1c (i := 1) rfl (.inl rfl) (by decide) (by decide)) (fun env => ⟨_, rfl⟩) (fun _ => rfl) (fun _ => rfl) (fun _ => rfl), gx, I.i1, I.i2, .all fun us hl => match us, hl with | [_, _], _ => rfl⟩, T⟩
theorem cx_OneLink (I : HX.Ini P K "OneLink" "OneLink.__init__" (iniOf (topS 24))) (T : OexC K (He.ga K "OneLink")) (hs : mg "super" = none) (hl : mg "list" = none) (top : (P.main.scope.names.lookup ("super" : Str)).isSome = false) (n0 : PySem.W.findIn K (.ref (He.ga K "OneLink")) "stage" = some none) (gx : mg "OneLink" = some (.ref (He.ga K "OneLink"))) : CalX P w K mg base CX0 "OneLink" 1 (He.ga K "OneLink") (.s1 "stage") := by
  obtain ⟨oc, od, kV, doc, pm, an, cda, ct, cc, osl, lk, hcd, S⟩ := I.sup T hs ⟨_, rfl, rfl⟩ rfl rfl rfl top
  exact ⟨⟨_, _, ["self", "stage"], fn_x1 lk hcd ⟨rfl, rfl, rfl, by decide +kernel, rfl, by decide +kernel, by decide +kernel, by decide +kernel⟩ S n0 (fun A outer s H E => msg_1 (i := 1) rfl (.inl rfl) (by decide)) (fun env => ⟨_, rfl⟩) (fun _ => rfl) (fun _ => rfl) (fun _ => rfl), gx, I.i1, I.i2, .all fun us hl => match us, hl with | [_, _], _ => rfl⟩, T⟩
theorem cx_BadNeed (I : HX.Ini P K "BadNeed" "BadNeed.__init__" (iniOf (topS 23))) (T : OexC K (He.ga K "BadNeed")) (hs : mg "super" = none) (hl : mg "list" = none) (top : (P.main.scope.names.lookup ("super" : Str)).isSome = false) (n0 : PySem.W.findIn K (.ref (He.ga K "BadNeed")) "vertex" = some none) (gx : mg "BadNeed" = some (.ref (He.ga K "BadNeed"))) : CalX P w K mg base CX0 "BadNeed" 1 (He.ga K "BadNeed") (.s1 "vertex") := by
  obtain ⟨oc, od, kV, doc, pm, an, cda, ct, cc, osl, lk, hcd, S⟩ := I.sup T hs ⟨_, rfl, rfl⟩ rfl rfl rfl top
  exact ⟨⟨_, _, ["self", "vertex"], fn_x1 lk hcd ⟨rfl, rfl, rfl, by decide +kernel, rfl, by decide +kernel, by decide +kernel, by decide +kernel⟩ S n0 (fun A outer s H E => msg_1 (i := 1) rfl (.inl rfl) (by decide)) (fun env => ⟨_, rfl⟩) (fun _ => rfl) (fun _ => rfl) (fun _ => rfl), gx, I.i1, I.i2, .all fun us hl => match us, hl with | [_, _], _ => rfl⟩, T⟩
theorem cx_BadCount (I : HX.Ini P K "BadCount" "BadCount.__init__" (iniOf (topS 25))) (T : OexC K (He.ga K "BadCount")) (hs : mg "super" = none) (hl : mg "list" = none) (top : (P.main.scope.names.lookup ("super" : Str)).isSome = false) (n0 : PySem.W.findIn K (.ref (He.ga K "BadCount")) "count" = some none) (gx : mg "BadCount" = some (.ref (He.ga K "BadCount"))) : CalX P w K mg base CX0 "BadCount" 1 (He.ga K "BadCount") (.s1 "count") := by
  obtain ⟨oc, od, kV, doc, pm, an, cda, ct, cc, osl, lk, hcd, S⟩ := I.sup T hs ⟨_, rfl, rfl⟩ rfl rfl rfl top
  exact ⟨⟨_, _, ["self", "count"], fn_x1 lk hcd ⟨rfl, rfl, rfl, by decide +kernel, rfl, by decide +kernel, by decide +kernel, by decide +kernel⟩ S n0 (fun A outer s H E => msg_1 (i := 1) rfl (.inl rfl) (by decide)) (fun env => ⟨_, rfl⟩) (fun _ => rfl) (fun _ => rfl) (fun _ => rfl), gx, I.i1, I.i2, .all fun us hl => match us, hl with | [_, _], _ => rfl⟩, T⟩
theorem cx_Uncovered (I : HX.Ini P K "Uncovered" "Uncovered.__init__" (iniOf (topS 26))) (T : OexC K (He.ga K "Uncovered")) (hs : mg "super" = none) (hl : mg "list" = none) (top : (P.main.scope.names.lookup ("super" : Str)).isSome = false) (n0 : PySem.W.findIn K (.ref (He.ga K "Uncovered")) "edge" = some none) (gx : mg "Uncovered" = some (.ref (He.ga K "Uncovered"))) : CalX P w K mg base CX0 "Uncovered" 1 (He.ga K "Uncovered") (.s1 "edge") := by
  obtain ⟨oc, od, kV, doc, pm, an, cda, ct, cc, osl, lk, hcd, S⟩ := I.sup T hs ⟨_, rfl, rfl⟩ rfl rfl rfl top
  exact ⟨⟨_, _, ["self", "edge"], fn_x1 lk hcd ⟨rfl, rfl, rfl, by decide +kernel, rfl, by decide +kernel, by decide +kernel, by decide +kernel⟩ S n0 (fun A outer s H E => msg_1 (i := 1) rfl (.inl rfl) (by decide)) (fun env => ⟨_, rfl⟩) (fun _ => rfl) (fun _ => rfl) (fun _ => rfl), gx, I.i1, I.i2, .all fun us hl => match us, hl with | [_, _], _ => rfl⟩, T⟩
theorem cx_BadMap (I : HX.Ini P K "BadMap" "BadMap.__init__" (iniOf (topS 27))) (T : OexC K (He.ga K "BadMap")) (hs : mg "super" = none) (hl : mg "list" = none) (top : (P.main.scope.names.lookup ("super" : Str)).isSome = false) (n0 : PySem.W.findIn K (.ref (He.ga K "BadMap")) "vertex" = some none) (gx : mg "BadMap" = some (.ref (He.ga K "BadMap"))) : CalX P w K mg base CX0 "BadMap" 1 (He.ga K "BadMap") (.s1 "vertex") := by
  obtain ⟨oc, od, kV, doc, pm, an, cda, ct, cc, osl, lk, hcd, S⟩ := I.sup T hs ⟨_, rfl, rfl⟩ rfl rfl rfl top
  exact ⟨⟨_, _, ["self", "vertex"], fn_x1 lk hcd ⟨rfl, rfl, rfl, by decide +kernel, rfl, by decide +kernel, by decide +kernel, by decide +kernel⟩ S n0 (fun A outer s H E => msg_1 (i := 1) rfl (.inl rfl) (by decide)) (fun env => ⟨_, rfl⟩) (fun _ => rfl) (fun _ => rfl) (fun _ => rfl), gx, I.i1, I.i2, .all fun us hl => match us, hl with | [_, _], _ => rfl⟩, T⟩
theorem cx_NotPlane (I : HX.Ini P K "NotPlane" "NotPlane.__init__" (iniOf (topS 28))) (T : OexC K (He.ga K "NotPlane")) (hs : mg "super" = none) (hl : mg "list" = none) (top : (P.main.scope.names.lookup ("super" : Str)).isSome = false) (n0 : PySem.W.findIn K (.ref (He.ga K "NotPlane")) "euler" = some none) (gx : mg "NotPlane" = some (.ref (He.ga K "NotPlane"))) : CalX P w K mg base CX0 "NotPlane" 1 (He.ga K "NotPlane") (.s1 "euler") := by
  obtain ⟨oc, od, kV, doc, pm, an, cda, ct, cc, osl, lk, hcd, S⟩ := I.sup T hs ⟨_, rfl, rfl⟩ rfl rfl rfl top
  exact ⟨⟨_, _, ["self", "euler"], fn_x1 lk hcd ⟨rfl, rfl, rfl, by decide +kernel, rfl, by decide +kernel, by decide +kernel, by decide +kernel⟩ S n0 (fun A outer s H E => msg_1 (i := 1) rfl (.inl rfl) (by decide)) (fun env => ⟨_, rfl⟩) (fun _ => rfl) (fun _ => rfl) (fun _ => rfl), gx, I.i1, I.i2, .all fun us hl => match us, hl with | [_, _], _ => rfl⟩, T⟩
theorem cx_NotCubic (I : HX.Ini P K "NotCubic" "NotCubic.__init__" (iniOf (topS 29))) (T : OexC K (He.ga K "NotCubic")) (hs : mg "super" = none) (hl : mg "list" = none) (top : (P.main.scope.names.lookup ("super" : Str)).isSome = false) (n0 : PySem.W.findIn K (.ref (He.ga K "NotCubic")) "vertex" = some none) (gx : mg "NotCubic" = some (.ref (He.ga K "NotCubic"))) : CalX P w K mg base CX0 "NotCubic" 1 (He.ga K "NotCubic") (.s1 "vertex") := by
  obtain ⟨oc, od, kV, doc, pm, an, cda, ct, cc, osl, lk, hcd, S⟩ := I.sup T hs ⟨_, rfl, rfl⟩ rfl rfl rfl top
  exact ⟨⟨_, _, ["self", "vertex"], fn_x1 lk hcd ⟨rfl, rfl, rfl, by decide +kernel, rfl, by decide +kernel, by decide +kernel, by decide +kernel⟩ S n0 (fun A outer s H E => msg_1 (i := 1) rfl (.inl rfl) (by decide)) (fun env => ⟨_, rfl⟩) (fun _ => rfl) (fun _ => rfl) (fun _ => rfl), gx, I.i1, I.i2, .all fun us hl => match us, hl with | [_, _], _ => rfl⟩, T⟩
theorem cx_BadColours (I : HX.Ini P K "BadColours" "BadColours.__init__" (iniOf (topS 30))) (T : OexC K (He.ga K "BadColours")) (hs : mg "super" = none) (hl : mg "list" = none) (top : (P.main.scope.names.lookup ("super" : Str)).isSome = false) (n0 : PySem.W.findIn K (.ref (He.ga K "BadColours")) "vertex" = some none) (gx : mg "BadColours" = some (.ref (He.ga K "BadColours"))) : CalX P w K mg base CX0 "BadColours" 1 (He.ga K "BadColours") (.s1 "vertex") := by
  obtain ⟨oc, od, kV, doc, pm, an, cda, ct, cc, osl, lk, hcd, S⟩ := I.sup T hs ⟨_, rfl, rfl⟩ rfl rfl rfl top
  exact ⟨⟨_, _, ["self", "vertex"], fn_x1 lk hcd ⟨rfl, rfl, rfl, by decide +kernel, rfl, by decide +kernel, by decide +kernel, by decide +kernel⟩ S n0 (fun A outer s H E => msg_1 (i := 1) rfl (.inl rfl) (by decide)) (fun env => ⟨_, rfl⟩) (fun _ => rfl) (fun _ => rfl) (fun _ => rfl), gx, I.i1, I.i2, .all fun us hl => match us, hl with | [_, _], _ => rfl⟩, T⟩
/-! ### the head -/
abbrev frees : List Str := ["super", "len", "abs", "int", "range", "list", "isinstance", "sorted", "set", "repr", "ValueError"]
def bf (K : PySem.W.Frag) : Bool :=
  ((xnames ++ [PySem.Str.ofString "FlowError"]).all fun x => HX.clsB K (He.ga K x) && He.eqO (PySem.W.nsIn K mainGlobals x) (some (some (.ref (He.ga K x))))) &&
  ((fields.all fun f => xnames.all fun x => HX.o1 K (.ref (He.ga K x)) f none) &&
  ((xnames.all fun x => xnames.all fun y => HX.b1 (PySem.W.kitOne K (.ref (He.ga K x)) (.ref (He.ga K y))) (decide (y = x))) &&
  ((xnames.all fun x => HX.b1 (PySem.W.kitOne K (.ref (He.ga K x)) (.ref (He.ga K "FlowError"))) true && (HX.b1 (PySem.W.kitOne K (.ref (He.ga K x)) (.type "ValueError")) true && HX.b1 (PySem.W.kitOne K (.ref (He.ga K "FlowError")) (.ref (He.ga K x))) false)) &&
  (HX.b1 (PySem.W.kitOne K (.ref (He.ga K "FlowError")) (.type "ValueError")) true && (HX.o1 K (.ref (He.ga K "FlowError")) "__init__" (some (.builtin "ValueError.__init__")) && (frees.all fun x => He.eqO (PySem.W.nsIn K mainGlobals x) (some none)))))))
structure Facts (K : PySem.W.Frag) (mg : Str → Option Value) : Prop where
  cls : ∀ x ∈ xnames ++ [PySem.Str.ofString "FlowError"], OexC K (He.ga K x) ∧ XiC K (He.ga K x) ∧ mg x = some (.ref (He.ga K x))
  no : ∀ f ∈ fields, ∀ x ∈ xnames, PySem.W.findIn K (.ref (He.ga K x)) f = some none
  kit : KitOk K
  fi : PySem.W.findIn K (.ref (He.ga K "FlowError")) "__init__" = some (some (.builtin "ValueError.__init__"))
  free : ∀ x ∈ frees, mg x = none
theorem facts_of {h : Heap} (X : K.In h) (G : h.Ns mainGlobals mg) (c : bf K = true) : Facts K mg := by
  simp only [bf, Bool.and_eq_true, List.all_eq_true] at c
  obtain ⟨c1, c2, c3, c4, c5, c6, c7⟩ := c
  have hc : ∀ x ∈ xnames ++ [PySem.Str.ofString "FlowError"], OexC K (He.ga K x) ∧ XiC K (He.ga K x) ∧ mg x = some (.ref (He.ga K x)) := fun x hx => by
    have z := c1 x hx
    have y := HX.clsB_ok z.1
    exact ⟨y.1, y.2, PySem.W.mg_of X G (He.eqO_ok z.2)⟩
  exact ⟨hc, fun f hf x hx => of_decide_eq_true (c2 f hf x hx), ⟨(hc "FlowError" (by simp)).2.1, fun x hx y hy => of_decide_eq_true (c3 x hx y hy), fun x hx => of_decide_eq_true (c4 x hx).1, fun x hx => of_decide_eq_true (c4 x hx).2.1, fun x hx => of_decide_eq_true (c4 x hx).2.2, of_decide_eq_true c5⟩, of_decide_eq_true c6, fun x hx => PySem.W.mg_none_of X G (He.eqO_ok (c7 x hx))⟩
abbrev RW : PySem.W.OpenLaw := PySem.Challenge.rw_nowherezero_k65_errors
abbrev PP : Program := (PySem.W.OpenLaw.row RW).prog
def fnD (i : Nat) (x : Str) : He.FnD := ⟨(x, none), x, x, defArgs (topS i), defBody (topS i), defScope (topS i)⟩
def fns : List He.FnD := [fnD 32 "_law_cell", fnD 33 "_law_numbers", fnD 34 "_law_state", fnD 35 "_law_next", fnD 36 "_law_chosen", fnD 37 "_law_great", fnD 38 "_law_made", fnD 39 "_law_told", fnD 40 "_law_kinds", fnD 41 "law"]
def xns : List HX.XnD := [⟨"BadGraph", "BadGraph.__init__", iniOf (topS 2)⟩, ⟨"UnknownVertex", "UnknownVertex.__init__", iniOf (topS 3)⟩, ⟨"UnknownEdge", "UnknownEdge.__init__", iniOf (topS 4)⟩, ⟨"Apart", "Apart.__init__", iniOf (topS 5)⟩, ⟨"SameVertex", "SameVertex.__init__", iniOf (topS 6)⟩, ⟨"TooSmall", "TooSmall.__init__", iniOf (topS 7)⟩, ⟨"HasBridge", "HasBridge.__init__", iniOf (topS 8)⟩, ⟨"NotABridge", "NotABridge.__init__", iniOf (topS 9)⟩, ⟨"BadRow", "BadRow.__init__", iniOf (topS 10)⟩, ⟨"BadAmount", "BadAmount.__init__", iniOf (topS 11)⟩, ⟨"OtherGraph", "OtherGraph.__init__", iniOf (topS 12)⟩, ⟨"Unbalanced", "Unbalanced.__init__", iniOf (topS 13)⟩, ⟨"OddVertex", "OddVertex.__init__", iniOf (topS 14)⟩, ⟨"NotATree", "NotATree.__init__", iniOf (topS 15)⟩, ⟨"BadBounds", "BadBounds.__init__", iniOf (topS 16)⟩, ⟨"BadModulus", "BadModulus.__init__", iniOf (topS 17)⟩, ⟨"NotAStair", "NotAStair.__init__", iniOf (topS 18)⟩, ⟨"NotABeginning", "NotABeginning.__init__", iniOf (topS 19)⟩, ⟨"BadStage", "BadStage.__init__", iniOf (topS 20)⟩, ⟨"NotAPiece", "NotAPiece.__init__", iniOf (topS 22)⟩, ⟨"HasPiece", "HasPiece.__init__", iniOf (topS 21)⟩, ⟨"OneLink", "OneLink.__init__", iniOf (topS 24)⟩, ⟨"BadNeed", "BadNeed.__init__", iniOf (topS 23)⟩, ⟨"BadCount", "BadCount.__init__", iniOf (topS 25)⟩, ⟨"Uncovered", "Uncovered.__init__", iniOf (topS 26)⟩, ⟨"BadMap", "BadMap.__init__", iniOf (topS 27)⟩, ⟨"NotPlane", "NotPlane.__init__", iniOf (topS 28)⟩, ⟨"NotCubic", "NotCubic.__init__", iniOf (topS 29)⟩, ⟨"BadColours", "BadColours.__init__", iniOf (topS 30)⟩]
abbrev hk : PySem.W.Hook := HX.hookX 5 bf PP fns xns
def ob (s : PySem.W.SharedT) : HX.AlX := HX.obsXG 5 bf PP fns xns (HandSHeadRun.getT s)
theorem ob_eq (s : PySem.W.SharedT) : ob s = hk.obs s.abs := HX.obsXG_eq (HandSHeadRun.getT_eq s)
def loose : List PySem.Str := [PySem.Str.ofString "FlowError", PySem.Str.ofString "BadGraph", PySem.Str.ofString "UnknownVertex", PySem.Str.ofString "UnknownEdge", PySem.Str.ofString "Apart", PySem.Str.ofString "SameVertex", PySem.Str.ofString "TooSmall", PySem.Str.ofString "HasBridge", PySem.Str.ofString "NotABridge", PySem.Str.ofString "BadRow", PySem.Str.ofString "BadAmount", PySem.Str.ofString "OtherGraph", PySem.Str.ofString "Unbalanced", PySem.Str.ofString "OddVertex", PySem.Str.ofString "NotATree", PySem.Str.ofString "BadBounds", PySem.Str.ofString "BadModulus", PySem.Str.ofString "NotAStair", PySem.Str.ofString "NotABeginning", PySem.Str.ofString "BadStage", PySem.Str.ofString "HasPiece", PySem.Str.ofString "NotAPiece", PySem.Str.ofString "BadNeed", PySem.Str.ofString "OneLink", PySem.Str.ofString "BadCount", PySem.Str.ofString "Uncovered", PySem.Str.ofString "BadMap", PySem.Str.ofString "NotPlane", PySem.Str.ofString "NotCubic", PySem.Str.ofString "BadColours", PySem.Str.ofString "_law_cell", PySem.Str.ofString "_law_numbers", PySem.Str.ofString "_law_state", PySem.Str.ofString "_law_next", PySem.Str.ofString "_law_chosen", PySem.Str.ofString "_law_great", PySem.Str.ofString "_law_made", PySem.Str.ofString "_law_told", PySem.Str.ofString "_law_kinds"]
theorem run (w : World) : HandSHeadRun.RunEq (PySem.W.OpenLaw.row RW) (PySem.W.view PP [41]) hk ob 9000 loose w := by
  intro os
  kernel_rfl
theorem calx (F : Facts K mg) (c : HX.SaysX bf P fns xns K) (top : (P.main.scope.names.lookup ("super" : Str)).isSome = false) : ∀ (i : Nat) p, xcls[i]? = some p → CalX P w K mg base CX0 p.1 1 (He.ga K p.1) p.2 := by
  have hs := F.free "super" (by simp)
  have hl := F.free "list" (by simp)
  intro i p h
  match i, h with
  | 0, h =>
    obtain rfl : (("BadGraph" : Str), Shp.s1 "index") = p := Option.some.inj h
    have z := F.cls "BadGraph" (by decide +kernel)
    exact cx_BadGraph (c.ini 0 rfl) z.1 hs hl top (F.no "index" (by decide +kernel) "BadGraph" (by decide +kernel)) z.2.2
  | 1, h =>
    obtain rfl : (("UnknownVertex" : Str), Shp.s1 "vertex") = p := Option.some.inj h
    have z := F.cls "UnknownVertex" (by decide +kernel)
    exact cx_UnknownVertex (c.ini 1 rfl) z.1 hs hl top (F.no "vertex" (by decide +kernel) "UnknownVertex" (by decide +kernel)) z.2.2
  | 2, h =>
    obtain rfl : (("UnknownEdge" : Str), Shp.s1 "edge") = p := Option.some.inj h
    have z := F.cls "UnknownEdge" (by decide +kernel)
    exact cx_UnknownEdge (c.ini 2 rfl) z.1 hs hl top (F.no "edge" (by decide +kernel) "UnknownEdge" (by decide +kernel)) z.2.2
  | 3, h =>
    obtain rfl : (("Apart" : Str), Shp.s2 "start" "goal") = p := Option.some.inj h
    have z := F.cls "Apart" (by decide +kernel)
    exact cx_Apart (c.ini 3 rfl) z.1 hs hl top (F.no "start" (by decide +kernel) "Apart" (by decide +kernel)) (F.no "goal" (by decide +kernel) "Apart" (by decide +kernel)) z.2.2
  | 4, h =>
    obtain rfl : (("SameVertex" : Str), Shp.s1 "vertex") = p := Option.some.inj h
    have z := F.cls "SameVertex" (by decide +kernel)
    exact cx_SameVertex (c.ini 4 rfl) z.1 hs hl top (F.no "vertex" (by decide +kernel) "SameVertex" (by decide +kernel)) z.2.2
  | 5, h =>
    obtain rfl : (("TooSmall" : Str), Shp.s1 "count") = p := Option.some.inj h
    have z := F.cls "TooSmall" (by decide +kernel)
    exact cx_TooSmall (c.ini 5 rfl) z.1 hs hl top (F.no "count" (by decide +kernel) "TooSmall" (by decide +kernel)) z.2.2
  | 6, h =>
    obtain rfl : (("HasBridge" : Str), Shp.sB "edge" "side") = p := Option.some.inj h
    have z := F.cls "HasBridge" (by decide +kernel)
    exact cx_HasBridge (c.ini 6 rfl) z.1 hs hl top (F.no "edge" (by decide +kernel) "HasBridge" (by decide +kernel)) (F.no "side" (by decide +kernel) "HasBridge" (by decide +kernel)) z.2.2
  | 7, h =>
    obtain rfl : (("NotABridge" : Str), Shp.s1 "edge") = p := Option.some.inj h
    have z := F.cls "NotABridge" (by decide +kernel)
    exact cx_NotABridge (c.ini 7 rfl) z.1 hs hl top (F.no "edge" (by decide +kernel) "NotABridge" (by decide +kernel)) z.2.2
  | 8, h =>
    obtain rfl : (("BadRow" : Str), Shp.s1 "length") = p := Option.some.inj h
    have z := F.cls "BadRow" (by decide +kernel)
    exact cx_BadRow (c.ini 8 rfl) z.1 hs hl top (F.no "length" (by decide +kernel) "BadRow" (by decide +kernel)) z.2.2
  | 9, h =>
    obtain rfl : (("BadAmount" : Str), Shp.s1 "edge") = p := Option.some.inj h
    have z := F.cls "BadAmount" (by decide +kernel)
    exact cx_BadAmount (c.ini 9 rfl) z.1 hs hl top (F.no "edge" (by decide +kernel) "BadAmount" (by decide +kernel)) z.2.2
  | 10, h =>
    obtain rfl : (("OtherGraph" : Str), Shp.s0) = p := Option.some.inj h
    have z := F.cls "OtherGraph" (by decide +kernel)
    exact cx_OtherGraph (c.ini 10 rfl) z.1 hs hl top z.2.2
  | 11, h =>
    obtain rfl : (("Unbalanced" : Str), Shp.s1 "vertex") = p := Option.some.inj h
    have z := F.cls "Unbalanced" (by decide +kernel)
    exact cx_Unbalanced (c.ini 11 rfl) z.1 hs hl top (F.no "vertex" (by decide +kernel) "Unbalanced" (by decide +kernel)) z.2.2
  | 12, h =>
    obtain rfl : (("OddVertex" : Str), Shp.s1 "vertex") = p := Option.some.inj h
    have z := F.cls "OddVertex" (by decide +kernel)
    exact cx_OddVertex (c.ini 12 rfl) z.1 hs hl top (F.no "vertex" (by decide +kernel) "OddVertex" (by decide +kernel)) z.2.2
  | 13, h =>
    obtain rfl : (("NotATree" : Str), Shp.s0) = p := Option.some.inj h
    have z := F.cls "NotATree" (by decide +kernel)
    exact cx_NotATree (c.ini 13 rfl) z.1 hs hl top z.2.2
  | 14, h =>
    obtain rfl : (("BadBounds" : Str), Shp.s1 "edge") = p := Option.some.inj h
    have z := F.cls "BadBounds" (by decide +kernel)
    exact cx_BadBounds (c.ini 14 rfl) z.1 hs hl top (F.no "edge" (by decide +kernel) "BadBounds" (by decide +kernel)) z.2.2
  | 15, h =>
    obtain rfl : (("BadModulus" : Str), Shp.s1 "modulus") = p := Option.some.inj h
    have z := F.cls "BadModulus" (by decide +kernel)
    exact cx_BadModulus (c.ini 15 rfl) z.1 hs hl top (F.no "modulus" (by decide +kernel) "BadModulus" (by decide +kernel)) z.2.2
  | 16, h =>
    obtain rfl : (("NotAStair" : Str), Shp.s0) = p := Option.some.inj h
    have z := F.cls "NotAStair" (by decide +kernel)
    exact cx_NotAStair (c.ini 16 rfl) z.1 hs hl top z.2.2
  | 17, h =>
    obtain rfl : (("NotABeginning" : Str), Shp.s0) = p := Option.some.inj h
    have z := F.cls "NotABeginning" (by decide +kernel)
    exact cx_NotABeginning (c.ini 17 rfl) z.1 hs hl top z.2.2
  | 18, h =>
    obtain rfl : (("BadStage" : Str), Shp.s1 "rule") = p := Option.some.inj h
    have z := F.cls "BadStage" (by decide +kernel)
    exact cx_BadStage (c.ini 18 rfl) z.1 hs hl top (F.no "rule" (by decide +kernel) "BadStage" (by decide +kernel)) z.2.2
  | 19, h =>
    obtain rfl : (("NotAPiece" : Str), Shp.s0) = p := Option.some.inj h
    have z := F.cls "NotAPiece" (by decide +kernel)
    exact cx_NotAPiece (c.ini 19 rfl) z.1 hs hl top z.2.2
  | 20, h =>
    obtain rfl : (("HasPiece" : Str), Shp.s1 "stage") = p := Option.some.inj h
    have z := F.cls "HasPiece" (by decide +kernel)
    exact cx_HasPiece (c.ini 20 rfl) z.1 hs hl top (F.no "stage" (by decide +kernel) "HasPiece" (by decide +kernel)) z.2.2
  | 21, h =>
    obtain rfl : (("OneLink" : Str), Shp.s1 "stage") = p := Option.some.inj h
    have z := F.cls "OneLink" (by decide +kernel)
    exact cx_OneLink (c.ini 21 rfl) z.1 hs hl top (F.no "stage" (by decide +kernel) "OneLink" (by decide +kernel)) z.2.2
  | 22, h =>
    obtain rfl : (("BadNeed" : Str), Shp.s1 "vertex") = p := Option.some.inj h
    have z := F.cls "BadNeed" (by decide +kernel)
    exact cx_BadNeed (c.ini 22 rfl) z.1 hs hl top (F.no "vertex" (by decide +kernel) "BadNeed" (by decide +kernel)) z.2.2
  | 23, h =>
    obtain rfl : (("BadCount" : Str), Shp.s1 "count") = p := Option.some.inj h
    have z := F.cls "BadCount" (by decide +kernel)
    exact cx_BadCount (c.ini 23 rfl) z.1 hs hl top (F.no "count" (by decide +kernel) "BadCount" (by decide +kernel)) z.2.2
  | 24, h =>
    obtain rfl : (("Uncovered" : Str), Shp.s1 "edge") = p := Option.some.inj h
    have z := F.cls "Uncovered" (by decide +kernel)
    exact cx_Uncovered (c.ini 24 rfl) z.1 hs hl top (F.no "edge" (by decide +kernel) "Uncovered" (by decide +kernel)) z.2.2
  | 25, h =>
    obtain rfl : (("BadMap" : Str), Shp.s1 "vertex") = p := Option.some.inj h
    have z := F.cls "BadMap" (by decide +kernel)
    exact cx_BadMap (c.ini 25 rfl) z.1 hs hl top (F.no "vertex" (by decide +kernel) "BadMap" (by decide +kernel)) z.2.2
  | 26, h =>
    obtain rfl : (("NotPlane" : Str), Shp.s1 "euler") = p := Option.some.inj h
    have z := F.cls "NotPlane" (by decide +kernel)
    exact cx_NotPlane (c.ini 26 rfl) z.1 hs hl top (F.no "euler" (by decide +kernel) "NotPlane" (by decide +kernel)) z.2.2
  | 27, h =>
    obtain rfl : (("NotCubic" : Str), Shp.s1 "vertex") = p := Option.some.inj h
    have z := F.cls "NotCubic" (by decide +kernel)
    exact cx_NotCubic (c.ini 27 rfl) z.1 hs hl top (F.no "vertex" (by decide +kernel) "NotCubic" (by decide +kernel)) z.2.2
  | 28, h =>
    obtain rfl : (("BadColours" : Str), Shp.s1 "vertex") = p := Option.some.inj h
    have z := F.cls "BadColours" (by decide +kernel)
    exact cx_BadColours (c.ini 28 rfl) z.1 hs hl top (F.no "vertex" (by decide +kernel) "BadColours" (by decide +kernel)) z.2.2
  | k + 29, h => cases (show (none : Option (Str × Shp)) = some p from h)
theorem facts {w : World} {K : PySem.W.Frag} {h : Heap} {mg : Str → Option Value} {fa : Addr} (X : K.In h) (G : h.Ns mainGlobals mg) (hfa : mg ("law" : Str) = some (.ref fa)) (c : HX.SaysX bf PP fns xns K) :
    ∃ (fd : FuncData) (sp : Sp), (∀ (s : Shared) (u : Value), BindsTo s fd ⟨[u], []⟩ [("script", u)]) ∧
      (∀ (H : Hp) (a : Addr) (ns : List Int), ns.length ≤ 63 → L2.Only H → SqL K H a (ns.map V.int) → sp [.ref a] H (fun v _ => v = .bl true) fun _ _ _ => False) ∧
      ∀ base : Heap, K.In base → base.Ns mainGlobals mg → FnOkG PP w K mg base CX0 4 fa fd ["script"] sp := by
  have F := facts_of X G c.bools.1
  have top : (PP.main.scope.names.lookup ("super" : Str)).isSome = false := by kernel_rfl
  have B : Blt mg := ⟨F.free "len" (by simp), F.free "abs" (by simp), F.free "int" (by simp), F.free "range" (by simp), F.free "list" (by simp), F.free "isinstance" (by simp), F.free "sorted" (by simp), F.free "set" (by simp), F.free "repr" (by simp)⟩
  have d_law_cell : Def K mg "_law_cell" (topS 32) := ⟨c.def_ 0 rfl X G⟩
  have d_law_numbers : Def K mg "_law_numbers" (topS 33) := ⟨c.def_ 1 rfl X G⟩
  have d_law_state : Def K mg "_law_state" (topS 34) := ⟨c.def_ 2 rfl X G⟩
  have d_law_next : Def K mg "_law_next" (topS 35) := ⟨c.def_ 3 rfl X G⟩
  have d_law_chosen : Def K mg "_law_chosen" (topS 36) := ⟨c.def_ 4 rfl X G⟩
  have d_law_great : Def K mg "_law_great" (topS 37) := ⟨c.def_ 5 rfl X G⟩
  have d_law_made : Def K mg "_law_made" (topS 38) := ⟨c.def_ 6 rfl X G⟩
  have d_law_told : Def K mg "_law_told" (topS 39) := ⟨c.def_ 7 rfl X G⟩
  have d_law_kinds : Def K mg "_law_kinds" (topS 40) := ⟨c.def_ 8 rfl X G⟩
  obtain ⟨f, fdt, FL, hm⟩ := c.def_ 9 (x := "law") (st := topS 41) rfl X G
  have e := hfa.symm.trans hm
  cases e
  have bl : Binds K fdt ["script"] [] := FL.binds fun _ _ _ _ _ _ us hl => match us, hl with | [_], _ => rfl
  refine ⟨fdt, spG K (PFd (f_law K)), fun s u => ?_, fun H a ns _ hO hS => HX.sp_law hO hS fun Q E q => ⟨ns, rfl, ⟨fun x hx => (F.cls x (List.mem_append_left _ hx)).2.1, F.no⟩, F.kit, q⟩, fun base KB GB => ?_⟩
  · obtain ⟨oc, od, kV, doc, pm, an, cdv, ct, osl, rfl, _, _⟩ := FL.ex
    exact .of_eq rfl
  · have cell := cal_law_cell (P := PP) (w := w) (base := base) B d_law_cell
    have numbers := cal_law_numbers (P := PP) (w := w) (base := base) B d_law_numbers
    have state := cal_law_state B d_law_state cell numbers
    have next := cal_law_next (P := PP) (w := w) (base := base) B d_law_next
    have chosen := cal_law_chosen B d_law_chosen next
    have great := cal_law_great B d_law_great next
    have cx := calx (P := PP) (w := w) (base := base) F c top
    have hg : ∀ (i : Nat) p, xcls[i]? = some p → mg p.1 = some (.ref (He.ga K p.1)) := fun i p h => (F.cls p.1 (List.mem_append_left _ (List.mem_map.mpr ⟨p, List.mem_of_getElem? h, rfl⟩))).2.2
    have made := cal_law_made (P := PP) (w := w) (base := base) B d_law_made cx
    have told := cal_law_told (P := PP) (w := w) (base := base) B d_law_told
    have kinds := cal_law_kinds (P := PP) (w := w) (base := base) B d_law_kinds hg
    have fe := F.cls "FlowError" (by simp)
    exact ok_law B FL state great next chosen made told kinds cx (fun x hx => by rw [List.mem_singleton.mp hx]; exact F.free "ValueError" (by simp)) ⟨fe.1, F.fi, fe.2.2⟩
end
end K65
open PySem PySem.W PySem.Calls PyProof.Rows
theorem PySem.Challenge.cw_nowherezero_k65_errors_holds : PySem.Challenge.rw_nowherezero_k65_errors.Holds := by
  w_on; o_law
  refine HandSHeadRun.head_any (r := OpenLaw.row PySem.Challenge.rw_nowherezero_k65_errors) (q := view (OpenLaw.row PySem.Challenge.rw_nowherezero_k65_errors).prog [41]) (H := K65.hk) (ob := K65.ob) (M := 9000) (loose := K65.loose) (d := HandSHeadRun.topDef (OpenLaw.row PySem.Challenge.rw_nowherezero_k65_errors).prog 41) (kwd := []) K65.ob_eq
    (by kernel_rfl) (fun s => by kernel_rfl) K65.run (by kernel_rfl) (by kernel_rfl) (by kernel_rfl) (by rfl) (by first | assumption | decide +kernel) (by decide +kernel) ⟨rfl, rfl, rfl, rfl, rfl, by decide +kernel⟩ ?hw ?hc
  case hw => w_witness2
  case hc =>
    refine DL.walk_ofG (l := PySem.Challenge.rw_nowherezero_k65_errors) (n := 63) (k := 4) (x := "script") (CX := fun _ => L2.CX0) rfl (by decide) (by kernel_rfl) ⟨rfl, by decide, by decide⟩ ?F (fun _ _ _ _ _ z => z)
    intro w mg fa h Y G hmg0
    obtain ⟨K, KX, c⟩ := Y
    have hmg : mg ("law" : PySem.Str) = some (.ref fa) := by
      have e : (HandSHeadRun.topDef (OpenLaw.row PySem.Challenge.rw_nowherezero_k65_errors).prog 41).name = ("law" : PySem.Str) := by kernel_rfl
      rw [← e]
      exact hmg0
    obtain ⟨fd, sp, hb, hs, hF⟩ := K65.facts (w := w) KX G hmg c
    exact ⟨K, fd, sp, KX, hb, hs, hF⟩
