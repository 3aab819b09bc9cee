import PyProof.Rows.All
import HandS.ForMost
import HandS.Evl
import HandS.Exc
import HandS.ExcInit
import HandS.WordsExc
import HandS.Ends
import KE.KSuper
import KE.KExcSuper
import HandS.FStr
import KE.KExcIs
import HandS.ExcField
import HandS.IsInst
import HandS.SetFor
import HandS.Strs
import PyProof.ReprRoads
import PyProof.ReprLen
import HandS.HeadHook1
import HandS.HeadHook2
import HandS.Head2
import HandS.IterVal
import HandS.Property
import KE.KOwnIter
import HandS.Zip
import HandS.ExcIs
import HandS.CallSlots
import HandS.Conv
import HandS.Style
import PySem.Challenge.RW_nowherezero_k53_three_flows
set_option Elab.async false
set_option linter.all false
set_option maxRecDepth 100000
/-! DLa: data, how the abstract heap bears it, the state. -/
namespace DL
open PySem PySem.Spec PyProof.Rows L2

/-- data; flags: true = owned (may be shared into results), false = borrowed -/
inductive X where
  | non | bl (b : Bool) | int (i : Int) | str (s : Str)
  | lst (b : Bool) (xs : List X) | tup (xs : List X)
  | obj (b : Bool) (C : Addr) (ns : List Str) (xs : List X)
  | ptr (a : Addr) | scr (ns : List Int) | ref (a : Addr)
  /-- an error object of the class C (not raised) -/
  | exn (C : Addr) (ns : List Str) (xs : List X)

def Ex (H H' : Hp) : Prop := ∀ a o, H a = some o → H' a = some o
theorem Ex.refl (H : Hp) : Ex H H := fun _ _ h => h
theorem Ex.trans {H H1 H2 : Hp} (a : Ex H H1) (b : Ex H1 H2) : Ex H H2 := fun x o h => b x o (a x o h)
def sel (b : Bool) (O B : Hp) : Hp := if b then O else B
/-- an error object that stands in O -/
def ExnAt (O : Hp) (a C : Addr) (fs : List (Str × V)) : Prop := (fs = [] ∧ O a = some (exo a C none)) ∨ ∃ dx, O a = some (exo a C (some dx)) ∧ O dx = some (exd dx fs)
theorem ExnAt.mono {O O' : Hp} {a C : Addr} {fs : List (Str × V)} (e : Ex O O') (h : ExnAt O a C fs) : ExnAt O' a C fs := by
  rcases h with ⟨h, q⟩ | ⟨dx, q1, q2⟩
  · exact .inl ⟨h, e _ _ q⟩
  · exact .inr ⟨dx, e _ _ q1, e _ _ q2⟩

section
variable (K : PySem.W.Frag) (O B : Hp)
mutual
def Rp : X → V → Prop
  | .non, v => v = .non
  | .bl b, v => v = .bl b
  | .int i, v => v = .int i
  | .str s, v => v = .str s
  | .ptr a, v => v = .ref a
  | .ref a, v => v = .ref a
  | .scr ns, v => ∃ a, v = .ref a ∧ SqL K B a (ns.map V.int)
  | .lst b xs, v => ∃ a vs, v = .ref a ∧ sel b O B a = some (.lst vs) ∧ RpA xs vs
  | .tup xs, v => ∃ a vs, v = .ref a ∧ SqT K O a vs ∧ RpA xs vs
  | .obj b C ns xs, v => ∃ a dx vs, v = .ref a ∧ sel b O B a = some (.ins C dx (ns.zip vs)) ∧ ns.length = vs.length ∧ RpA xs vs
  | .exn C ns xs, v => ∃ a vs, v = .ref a ∧ ExnAt O a C (ns.zip vs) ∧ ns.length = vs.length ∧ RpA xs vs
def RpA : List X → List V → Prop
  | [], vs => vs = []
  | x :: xs, vs => ∃ v r, vs = v :: r ∧ Rp x v ∧ RpA xs r
end
end

section
variable {K : PySem.W.Frag} {O B O' B' : Hp}
theorem ex_sqt {H H' : Hp} {a : Addr} {xs : List V} (e : Ex H H') (h : SqT K H a xs) : SqT K H' a xs := Evl.ex_t e h
theorem ex_sql {H H' : Hp} {a : Addr} {xs : List V} (e : Ex H H') (h : SqL K H a xs) : SqL K H' a xs := Evl.ex_l e h
theorem ex_sel {b : Bool} (eo : Ex O O') (eb : Ex B B') : Ex (sel b O B) (sel b O' B') := by
  cases b
  · exact eb
  · exact eo
mutual
theorem Rp.mono (eo : Ex O O') (eb : Ex B B') : ∀ (x : X) {v : V}, Rp K O B x v → Rp K O' B' x v
  | .non, _, h => by simpa only [Rp] using h
  | .bl b, _, h => by simpa only [Rp] using h
  | .int i, _, h => by simpa only [Rp] using h
  | .str s, _, h => by simpa only [Rp] using h
  | .ptr a, _, h => by simpa only [Rp] using h
  | .ref a, _, h => by simpa only [Rp] using h
  | .scr ns, _, h => by
    simp only [Rp] at h ⊢
    obtain ⟨a, e, q⟩ := h
    exact ⟨a, e, ex_sql eb q⟩
  | .lst b xs, _, h => by
    simp only [Rp] at h ⊢
    obtain ⟨a, vs, e, q, r⟩ := h
    exact ⟨a, vs, e, ex_sel eo eb a _ q, RpA.mono eo eb xs r⟩
  | .tup xs, _, h => by
    simp only [Rp] at h ⊢
    obtain ⟨a, vs, e, q, r⟩ := h
    exact ⟨a, vs, e, ex_sqt eo q, RpA.mono eo eb xs r⟩
  | .obj b C ns xs, _, h => by
    simp only [Rp] at h ⊢
    obtain ⟨a, dx, vs, e, q1, q3, r⟩ := h
    exact ⟨a, dx, vs, e, ex_sel eo eb a _ q1, q3, RpA.mono eo eb xs r⟩
  | .exn C ns xs, _, h => by
    simp only [Rp] at h ⊢
    obtain ⟨a, vs, e, q1, q3, r⟩ := h
    exact ⟨a, vs, e, q1.mono eo, q3, RpA.mono eo eb xs r⟩
theorem RpA.mono (eo : Ex O O') (eb : Ex B B') : ∀ (xs : List X) {vs : List V}, RpA K O B xs vs → RpA K O' B' xs vs
  | [], _, h => by simpa only [RpA] using h
  | x :: xs, _, h => by
    simp only [RpA] at h ⊢
    obtain ⟨v, r, e, q, t⟩ := h
    exact ⟨v, r, e, Rp.mono eo eb x q, RpA.mono eo eb xs t⟩
end
theorem RpA.len : ∀ {xs : List X} {vs : List V}, RpA K O B xs vs → vs.length = xs.length
  | [], _, h => by simp only [RpA] at h; simp [h]
  | x :: xs, _, h => by
    simp only [RpA] at h
    obtain ⟨v, r, e, q, t⟩ := h
    rw [e, List.length_cons, List.length_cons, RpA.len t]
theorem RpA.get : ∀ {xs : List X} {vs : List V} {i : Nat} {x : X}, RpA K O B xs vs → xs[i]? = some x → ∃ v, vs[i]? = some v ∧ Rp K O B x v
  | [], _, _, _, _, e => by simp at e
  | y :: ys, _, 0, x, h, e => by
    simp only [RpA] at h
    obtain ⟨v, r, e1, q, t⟩ := h
    simp at e
    subst e e1
    exact ⟨v, rfl, q⟩
  | y :: ys, _, i + 1, x, h, e => by
    simp only [RpA] at h
    obtain ⟨v, r, e1, q, t⟩ := h
    subst e1
    simpa using RpA.get (i := i) t (by simpa using e)
theorem RpA.nil : RpA K O B [] [] := by simp only [RpA]
theorem RpA.cons {x : X} {xs : List X} {v : V} {vs : List V} (h : Rp K O B x v) (t : RpA K O B xs vs) : RpA K O B (x :: xs) (v :: vs) := by
  simp only [RpA]
  exact ⟨v, vs, rfl, h, t⟩
theorem RpA.append : ∀ {xs ys : List X} {vs ws : List V}, RpA K O B xs vs → RpA K O B ys ws → RpA K O B (xs ++ ys) (vs ++ ws)
  | [], _, _, _, h, t => by simp only [RpA] at h; subst h; exact t
  | x :: xs, _, _, _, h, t => by
    simp only [RpA] at h
    obtain ⟨v, r, e, q, u⟩ := h
    subst e
    exact RpA.cons q (RpA.append u t)
theorem RpA.set {x : X} {v : V} (h : Rp K O B x v) : ∀ {xs : List X} {vs : List V} (i : Nat), RpA K O B xs vs → RpA K O B (xs.set i x) (vs.set i v)
  | [], _, _, t => by simp only [RpA] at t; subst t; simp only [List.set_nil, RpA]
  | y :: ys, _, 0, t => by
    simp only [RpA] at t
    obtain ⟨w, r, e, q, u⟩ := t
    subst e
    exact RpA.cons h u
  | y :: ys, _, i + 1, t => by
    simp only [RpA] at t
    obtain ⟨w, r, e, q, u⟩ := t
    subst e
    exact RpA.cons q (RpA.set h i u)
theorem RpA.take : ∀ {xs : List X} {vs : List V} (n : Nat), RpA K O B xs vs → RpA K O B (xs.take n) (vs.take n)
  | xs, vs, 0, _ => by simp only [List.take_zero, RpA]
  | [], _, n + 1, t => by simp only [RpA] at t; subst t; simp only [List.take_nil, RpA]
  | y :: ys, _, n + 1, t => by
    simp only [RpA] at t
    obtain ⟨w, r, e, q, u⟩ := t
    subst e
    exact RpA.cons q (RpA.take n u)
theorem RpA.drop : ∀ {xs : List X} {vs : List V} (n : Nat), RpA K O B xs vs → RpA K O B (xs.drop n) (vs.drop n)
  | xs, vs, 0, t => t
  | [], _, n + 1, t => by simp only [RpA] at t; subst t; simp only [List.drop_nil, RpA]
  | y :: ys, _, n + 1, t => by
    simp only [RpA] at t
    obtain ⟨w, r, e, q, u⟩ := t
    subst e
    exact RpA.drop n u
theorem RpA.reverse : ∀ {xs : List X} {vs : List V}, RpA K O B xs vs → RpA K O B xs.reverse vs.reverse
  | [], _, t => by simp only [RpA] at t; subst t; simp only [List.reverse_nil, RpA]
  | y :: ys, _, t => by
    simp only [RpA] at t
    obtain ⟨w, r, e, q, u⟩ := t
    subst e
    rw [List.reverse_cons, List.reverse_cons]
    exact (RpA.reverse u).append (RpA.cons q RpA.nil)
theorem RpA.rep {xs : List X} {vs : List V} (h : RpA K O B xs vs) : ∀ n : Nat, RpA K O B (List.replicate n xs).flatten (List.replicate n vs).flatten
  | 0 => RpA.nil
  | n + 1 => by
    rw [List.replicate_succ, List.replicate_succ, List.flatten_cons, List.flatten_cons]
    exact h.append (RpA.rep h n)
theorem RpA.dropLast : ∀ {xs : List X} {vs : List V}, RpA K O B xs vs → RpA K O B xs.dropLast vs.dropLast := fun {xs vs} h => by
  rw [List.dropLast_eq_take, List.dropLast_eq_take, h.len]
  exact h.take _
theorem RpA.ints : ∀ {ns : List Int} {vs : List V}, RpA K O B (ns.map X.int) vs → vs = ns.map V.int
  | [], _, h => by simp only [List.map_nil, RpA] at h; exact h
  | n :: ns, _, h => by
    simp only [List.map_cons, RpA] at h
    obtain ⟨v, r, e, q, t⟩ := h
    simp only [Rp] at q
    rw [e, q, RpA.ints t, List.map_cons]
theorem RpA.of_ints : ∀ (ns : List Int), RpA K O B (ns.map X.int) (ns.map V.int)
  | [] => RpA.nil
  | n :: ns => RpA.cons (by simp only [Rp]) (RpA.of_ints ns)
end

/-! ### mutable objects -/
inductive Cell where
  | lst (xs : List X)
  | dK (kvs : List (Key × X))
  | dT (kvs : List (List Key × X))
  | ins (C : Addr) (ns : List Str) (xs : List X)
abbrev Mu := Addr → Option Cell
def mset (M : Mu) (p : Addr) (c : Cell) : Mu := fun a => if a = p then some c else M a
def mdel (M : Mu) (p : Addr) : Mu := fun a => if a = p then none else M a
def m0 : Mu := fun _ => none
@[simp] theorem mset_same {M : Mu} {p : Addr} {c : Cell} : mset M p c p = some c := by simp [mset]
theorem mset_ne {M : Mu} {p q : Addr} {c : Cell} (h : q ≠ p) : mset M p c q = M q := by simp [mset, h]
@[simp] theorem mset_mset {M : Mu} {p : Addr} {c d : Cell} : mset (mset M p c) p d = mset M p d := by
  funext a; simp only [mset]; split <;> rfl
@[simp] theorem mdel_mset {M : Mu} {p : Addr} {c : Cell} : mdel (mset M p c) p = mdel M p := by
  funext a; simp only [mset, mdel]; split <;> rfl
theorem mdel_of {M : Mu} {p : Addr} (h : M p = none) : mdel M p = M := by
  funext a; simp only [mdel]; split
  · rename_i e; rw [e, h]
  · rfl
theorem mset_comm {M : Mu} {p q : Addr} {c d : Cell} (h : p ≠ q) : mset (mset M p c) q d = mset (mset M q d) p c := by
  funext a; simp only [mset]
  by_cases h1 : a = p
  · subst h1; simp [h]
  · simp [h1]
theorem mset_self {M : Mu} {p : Addr} {c : Cell} (h : M p = some c) : mset M p c = M := by
  funext a; simp only [mset]; split
  · rename_i e; rw [e, h]
  · rfl
/-- what is not mutable -/
def fz (H : Hp) (M : Mu) : Hp := fun a => match M a with | some _ => none | none => H a
theorem fz_of {H : Hp} {M : Mu} {a : Addr} (h : M a = none) : fz H M a = H a := by simp [fz, h]
theorem of_fz {H : Hp} {M : Mu} {a : Addr} {o : HO} (h : fz H M a = some o) : H a = some o ∧ M a = none := by
  unfold fz at h
  cases e : M a with
  | none => rw [e] at h; exact ⟨h, rfl⟩
  | some c => rw [e] at h; cases h
theorem fz_sub {H : Hp} {M : Mu} : Ex (fz H M) H := fun _ _ h => (of_fz h).1
theorem fz_m0 {H : Hp} : fz H m0 = H := by funext a; rfl

section
variable (K : PySem.W.Frag)
def RpC (O B H : Hp) (a : Addr) : Cell → Prop
  | .lst xs => ∃ vs, H a = some (.lst vs) ∧ RpA K O B xs vs
  | .dK kvs => ∃ vs, H a = some (.dK ((kvs.map (·.1)).zip vs)) ∧ kvs.length = vs.length ∧ RpA K O B (kvs.map (·.2)) vs
  | .dT kvs => ∃ vs, H a = some (.dT ((kvs.map (·.1)).zip vs)) ∧ kvs.length = vs.length ∧ RpA K O B (kvs.map (·.2)) vs
  | .ins C ns xs => ∃ dx vs, H a = some (.ins C dx (ns.zip vs)) ∧ H dx = some (.own a) ∧ ns.length = vs.length ∧ RpA K O B xs vs
/-- a def's entry: its heap, what is owned there, what is borrowed -/
structure Ent where
  H0 : Hp
  O0 : Hp
  B0 : Hp
  C0 : Hp
  P0 : Addr → Prop
structure Stt (N : Ent) (O : Hp) (M : Mu) (H : Hp) : Prop where
  oh : Ex O H
  om : ∀ a c, M a = some c → O a = none
  tp : ∀ a xs, H a = some (.tup xs) → O a = some (.tup xs)
  cl : ∀ a c, M a = some c → RpC K O N.B0 H a c
  b0 : Ex N.B0 (fz H M)
  c0 : Ex N.C0 (fz H M)
  o0 : Ex N.O0 O
  nw : ∀ a o, O a = some o → N.O0 a = some o ∨ N.H0 a = none ∨ N.P0 a
  dm : ∀ a, H a = none → N.H0 a = none
  mf : ∀ a c, M a = some c → N.H0 a = none ∨ N.P0 a
abbrev Dl := List (Option X)
def Sl (O B : Hp) : Dl → L2.St → Prop
  | [], σ => σ = []
  | none :: δ, σ => ∃ o r, σ = o :: r ∧ Sl O B δ r
  | some x :: δ, σ => ∃ v r, σ = some v :: r ∧ Rp K O B x v ∧ Sl O B δ r
end
section
variable {K : PySem.W.Frag} {N : Ent} {O O' B B' H H' : Hp} {M M' : Mu} {a p : Addr} {c : Cell}
theorem RpC.mono (eo : Ex O O') (eb : Ex B B') (hh : ∀ b o, (b = a ∨ H b = some (.own a)) → H b = some o → H' b = some o) (h : RpC K O B H a c) : RpC K O' B' H' a c := by
  cases c with
  | lst xs => obtain ⟨vs, e, r⟩ := h; exact ⟨vs, hh _ _ (.inl rfl) e, RpA.mono eo eb _ r⟩
  | dK kvs => obtain ⟨vs, e, l, r⟩ := h; exact ⟨vs, hh _ _ (.inl rfl) e, l, RpA.mono eo eb _ r⟩
  | dT kvs => obtain ⟨vs, e, l, r⟩ := h; exact ⟨vs, hh _ _ (.inl rfl) e, l, RpA.mono eo eb _ r⟩
  | ins C ns xs => obtain ⟨dx, vs, e, e2, l, r⟩ := h; exact ⟨dx, vs, hh _ _ (.inl rfl) e, hh _ _ (.inr e2) e2, l, RpA.mono eo eb _ r⟩
theorem RpC.there (h : RpC K O B H a c) : ∃ o, H a = some o ∧ Mut (some o) := by
  cases c with
  | lst xs => obtain ⟨vs, e, r⟩ := h; exact ⟨_, e, trivial⟩
  | dK kvs => obtain ⟨vs, e, l, r⟩ := h; exact ⟨_, e, trivial⟩
  | dT kvs => obtain ⟨vs, e, l, r⟩ := h; exact ⟨_, e, trivial⟩
  | ins C ns xs => obtain ⟨dx, vs, e, e2, l, r⟩ := h; exact ⟨_, e, trivial⟩
theorem Sl.mono (eo : Ex O O') (eb : Ex B B') : ∀ {δ : Dl} {σ : L2.St}, Sl K O B δ σ → Sl K O' B' δ σ
  | [], _, h => by simpa only [Sl] using h
  | none :: δ, _, h => by
    simp only [Sl] at h ⊢
    obtain ⟨o, r, e, t⟩ := h
    exact ⟨o, r, e, Sl.mono eo eb t⟩
  | some x :: δ, _, h => by
    simp only [Sl] at h ⊢
    obtain ⟨v, r, e, q, t⟩ := h
    exact ⟨v, r, e, q.mono eo eb x, Sl.mono eo eb t⟩
theorem Sl.get : ∀ {δ : Dl} {σ : L2.St} {i : Nat} {x : X}, Sl K O B δ σ → δ[i]? = some (some x) → ∃ v, σ[i]? = some (some v) ∧ Rp K O B x v
  | [], _, _, _, _, e => by simp at e
  | none :: δ, _, 0, x, h, e => by simp at e
  | some y :: δ, _, 0, x, h, e => by
    simp only [Sl] at h
    obtain ⟨v, r, e1, q, t⟩ := h
    simp at e
    subst e e1
    exact ⟨v, rfl, q⟩
  | none :: δ, _, i + 1, x, h, e => by
    simp only [Sl] at h
    obtain ⟨o, r, e1, t⟩ := h
    subst e1
    simpa using Sl.get (i := i) t (by simpa using e)
  | some y :: δ, _, i + 1, x, h, e => by
    simp only [Sl] at h
    obtain ⟨v, r, e1, q, t⟩ := h
    subst e1
    simpa using Sl.get (i := i) t (by simpa using e)
theorem Sl.set {x : X} {v : V} (h : Rp K O B x v) : ∀ {δ : Dl} {σ : L2.St} (i : Nat), Sl K O B δ σ → Sl K O B (δ.set i (some x)) (σ.set i (some v))
  | [], _, _, t => by simp only [Sl] at t; subst t; simp only [List.set_nil, Sl]
  | none :: δ, _, 0, t => by
    simp only [Sl] at t
    obtain ⟨o, r, e, u⟩ := t
    subst e
    simp only [List.set_cons_zero, Sl]
    exact ⟨v, r, rfl, h, u⟩
  | some y :: δ, _, 0, t => by
    simp only [Sl] at t
    obtain ⟨w, r, e, q, u⟩ := t
    subst e
    simp only [List.set_cons_zero, Sl]
    exact ⟨v, r, rfl, h, u⟩
  | none :: δ, _, i + 1, t => by
    simp only [Sl] at t
    obtain ⟨o, r, e, u⟩ := t
    subst e
    simp only [List.set_cons_succ, Sl]
    exact ⟨o, _, rfl, Sl.set h i u⟩
  | some y :: δ, _, i + 1, t => by
    simp only [Sl] at t
    obtain ⟨w, r, e, q, u⟩ := t
    subst e
    simp only [List.set_cons_succ, Sl]
    exact ⟨w, _, rfl, q, Sl.set h i u⟩
/-- the wish of a later state to know less -/
def Wk : Dl → Dl → Prop
  | [], [] => True
  | _ :: δ, none :: δ' => Wk δ δ'
  | some x :: δ, some y :: δ' => x = y ∧ Wk δ δ'
  | _, _ => False
theorem Sl.weak : ∀ {δ δ' : Dl} {σ : L2.St}, Wk δ δ' → Sl K O B δ σ → Sl K O B δ' σ
  | [], [], _, _, h => h
  | none :: δ, none :: δ', _, w, h => by
    simp only [Sl] at h ⊢
    obtain ⟨o, r, e, u⟩ := h
    exact ⟨o, r, e, Sl.weak w u⟩
  | some x :: δ, none :: δ', _, w, h => by
    simp only [Sl] at h ⊢
    obtain ⟨v, r, e, q, u⟩ := h
    exact ⟨_, r, e, Sl.weak w u⟩
  | some x :: δ, some y :: δ', _, w, h => by
    simp only [Wk] at w
    obtain ⟨rfl, w⟩ := w
    simp only [Sl] at h ⊢
    obtain ⟨v, r, e, q, u⟩ := h
    exact ⟨_, r, e, q, Sl.weak w u⟩
  | none :: _, some _ :: _, _, w, _ => by simp only [Wk] at w
  | [], _ :: _, _, w, _ => by simp only [Wk] at w
  | _ :: _, [], _, w, _ => by simp only [Wk] at w

/-! ### a new object -/
theorem ex_upd {H : Hp} {p : Addr} {o : HO} (h : H p = none) : Ex H (upd H p o) := fun a u e => by
  rw [upd_ne (ne_of_none e h)]
  exact e
theorem Stt.mnone (S : Stt K N O M H) (h : H p = none) : M p = none := by
  cases e : M p with
  | none => rfl
  | some c =>
    obtain ⟨o, q, _⟩ := (S.cl p c e).there
    rw [h] at q; cases q
theorem Stt.onone (S : Stt K N O M H) (h : H p = none) : O p = none := by
  cases e : O p with
  | none => rfl
  | some o => rw [S.oh p o e] at h; cases h
/-- .. owned -/
theorem Stt.own (S : Stt K N O M H) (h : H p = none) (o : HO) : Stt K N (upd O p o) M (upd H p o) ∧ Ex O (upd O p o) ∧ upd O p o p = some o := by
  have e1 : Ex O (upd O p o) := ex_upd (S.onone h)
  have e2 : Ex H (upd H p o) := ex_upd h
  have e3 : Ex (fz H M) (fz (upd H p o) M) := fun a u q => by
    obtain ⟨q1, q2⟩ := of_fz q
    rw [fz_of q2]
    exact e2 a u q1
  refine ⟨⟨fun a u q => ?_, fun a c q => ?_, fun a xs q => ?_, fun a c q => (S.cl a c q).mono e1 (Ex.refl _) fun b u _ z => e2 b u z, S.b0.trans e3, S.c0.trans e3, S.o0.trans e1, fun a u q => ?_, fun a q => ?_, S.mf⟩, e1, upd_same⟩
  · by_cases hb : a = p
    · subst hb; rw [upd_same] at q ⊢; exact q
    · rw [upd_ne hb] at q ⊢; exact S.oh a u q
  · have hb : a ≠ p := fun z => by rw [z, S.mnone h] at q; cases q
    rw [upd_ne hb]; exact S.om a c q
  · by_cases hb : a = p
    · subst hb; rw [upd_same] at q ⊢; exact q
    · rw [upd_ne hb] at q ⊢; exact S.tp a xs q
  · by_cases hb : a = p
    · subst hb; exact .inr (.inl (S.dm _ h))
    · rw [upd_ne hb] at q; exact S.nw a u q
  · by_cases hb : a = p
    · subst hb; rw [upd_same] at q; cases q
    · rw [upd_ne hb] at q; exact S.dm a q
/-- .. mutable -/
theorem Stt.mut (S : Stt K N O M H) (h : H p = none) {xs : List X} {vs : List V} (r : RpA K O N.B0 xs vs) :
    Stt K N O (mset M p (.lst xs)) (upd H p (.lst vs)) := by
  have e2 : Ex H (upd H p (.lst vs)) := ex_upd h
  have mn := S.mnone h
  have e3 : Ex (fz H M) (fz (upd H p (.lst vs)) (mset M p (.lst xs))) := fun a u q => by
    obtain ⟨q1, q2⟩ := of_fz q
    have hb : a ≠ p := fun z => by rw [z, h] at q1; cases q1
    rw [fz_of (by rw [mset_ne hb]; exact q2)]
    exact e2 a u q1
  refine ⟨S.oh.trans e2, fun a c q => ?_, fun a xs q => ?_, fun a c q => ?_, S.b0.trans e3, S.c0.trans e3, S.o0, S.nw, fun a q => ?_, fun a c q => ?_⟩
  · by_cases hb : a = p
    · subst hb; exact S.onone h
    · rw [mset_ne hb] at q; exact S.om a c q
  · by_cases hb : a = p
    · subst hb; rw [upd_same] at q; cases q
    · rw [upd_ne hb] at q; exact S.tp a xs q
  · by_cases hb : a = p
    · subst hb
      rw [mset_same] at q
      cases q
      exact ⟨vs, upd_same, r⟩
    · rw [mset_ne hb] at q
      exact (S.cl a c q).mono (Ex.refl O) (Ex.refl _) fun b u _ z => e2 b u z
  · by_cases hb : a = p
    · subst hb; rw [upd_same] at q; cases q
    · rw [upd_ne hb] at q; exact S.dm a q
  · by_cases hb : a = p
    · subst hb; exact .inl (S.dm _ h)
    · rw [mset_ne hb] at q; exact S.mf a c q
/-- a mutable list changes -/
theorem Stt.write (S : Stt K N O M H) {xs ys : List X} {ws : List V} (h : M p = some (.lst xs)) (r : RpA K O N.B0 ys ws) :
    Stt K N O (mset M p (.lst ys)) (upd H p (.lst ws)) := by
  obtain ⟨vs, hp, _⟩ := S.cl p _ h
  have op := S.om p _ h
  have e3 : Ex (fz H M) (fz (upd H p (.lst ws)) (mset M p (.lst ys))) := fun a u q => by
    obtain ⟨q1, q2⟩ := of_fz q
    have hb : a ≠ p := fun z => by rw [z, h] at q2; cases q2
    rw [fz_of (by rw [mset_ne hb]; exact q2), upd_ne hb]
    exact q1
  refine ⟨fun a u q => ?_, fun a c q => ?_, fun a xs q => ?_, fun a c q => ?_, S.b0.trans e3, S.c0.trans e3, S.o0, S.nw, fun a q => ?_, fun a c q => ?_⟩
  · have hb : a ≠ p := fun z => by rw [z, op] at q; cases q
    rw [upd_ne hb]; exact S.oh a u q
  · by_cases hb : a = p
    · subst hb; exact op
    · rw [mset_ne hb] at q; exact S.om a c q
  · by_cases hb : a = p
    · subst hb; rw [upd_same] at q; cases q
    · rw [upd_ne hb] at q; exact S.tp a xs q
  · by_cases hb : a = p
    · subst hb
      rw [mset_same] at q
      cases q
      exact ⟨ws, upd_same, r⟩
    · rw [mset_ne hb] at q
      refine (S.cl a c q).mono (Ex.refl O) (Ex.refl _) fun b u hbb z => ?_
      have hb' : b ≠ p := by
        rcases hbb with e | e
        · rw [e]; exact hb
        · intro z; rw [z, hp] at e; cases e
      rw [upd_ne hb']; exact z
  · by_cases hb : a = p
    · subst hb; rw [upd_same] at q; cases q
    · rw [upd_ne hb] at q; exact S.dm a q
  · by_cases hb : a = p
    · subst hb; exact S.mf _ _ h
    · rw [mset_ne hb] at q; exact S.mf a c q
/-- a mutable list is mutable no more: owned from here on -/
theorem Stt.freeze (S : Stt K N O M H) {xs : List X} (h : M p = some (.lst xs)) :
    ∃ O', Stt K N O' (mdel M p) H ∧ Ex O O' ∧ Rp K O' N.B0 (.lst true xs) (.ref p) := by
  obtain ⟨vs, hp, r⟩ := S.cl p _ h
  have op := S.om p _ h
  have e1 : Ex O (upd O p (.lst vs)) := ex_upd op
  have e3 : Ex (fz H M) (fz H (mdel M p)) := fun a u q => by
    obtain ⟨q1, q2⟩ := of_fz q
    rw [fz_of]
    · exact q1
    · unfold mdel
      split
      · rfl
      · exact q2
  refine ⟨upd O p (.lst vs), ⟨fun a u q => ?_, fun a c q => ?_, fun a xs q => ?_, fun a c q => ?_, S.b0.trans e3, S.c0.trans e3, S.o0.trans e1, fun a u q => ?_, S.dm, fun a c q => ?_⟩, e1, ?_⟩
  · by_cases hb : a = p
    · subst hb; rw [upd_same] at q; cases q; exact hp
    · rw [upd_ne hb] at q; exact S.oh a u q
  · by_cases hb : a = p
    · subst hb; unfold mdel at q; simp at q
    · have q' : M a = some c := by unfold mdel at q; rw [if_neg hb] at q; exact q
      rw [upd_ne hb]; exact S.om a c q'
  · by_cases hb : a = p
    · subst hb; rw [hp] at q; cases q
    · rw [upd_ne hb]; exact S.tp a xs q
  · by_cases hb : a = p
    · subst hb; unfold mdel at q; simp at q
    · have q' : M a = some c := by unfold mdel at q; rw [if_neg hb] at q; exact q
      exact (S.cl a c q').mono e1 (Ex.refl _) fun b u _ z => z
  · by_cases hb : a = p
    · subst hb; exact .inr (S.mf _ _ h)
    · rw [upd_ne hb] at q; exact S.nw a u q
  · by_cases hb : a = p
    · subst hb; unfold mdel at q; simp at q
    · have q' : M a = some c := by unfold mdel at q; rw [if_neg hb] at q; exact q
      exact S.mf a c q'
  · simp only [Rp]
    exact ⟨p, vs, rfl, upd_same, RpA.mono e1 (Ex.refl _) _ r⟩
end
end DL

set_option maxRecDepth 100000
/-! DLb: weakest preconditions over data, their soundness: expressions, tests, arguments, statements, loops. -/
namespace DL
open PySem PySem.Spec PyProof.Rows L2

abbrev VKd := X → Mu → Prop
abbrev DE := Dl → Mu → VKd → Prop
abbrev DT := Dl → Mu → (Bool → Mu → Prop) → Prop
abbrev DA := Dl → Mu → (List X → Mu → Prop) → Prop
structure EndsD where
  nx : Dl → Mu → Prop
  rt : VKd
  bk : Dl → Mu → Prop := fun _ _ => False
  ct : Dl → Mu → Prop := fun _ _ => False
abbrev DS := EndsD → Dl → Mu → Prop

structure Nxt (K : PySem.W.Frag) (N : Ent) (O : Hp) (M : Mu) (H : Hp) (O' : Hp) (M' : Mu) (H' : Hp) : Prop where
  st : Stt K N O' M' H'
  eo : Ex O O'
section
variable {K : PySem.W.Frag} {N : Ent} {O O' O1 O2 H H' H1 H2 : Hp} {M M' M1 M2 : Mu}
theorem Nxt.refl (S : Stt K N O M H) : Nxt K N O M H O M H := ⟨S, Ex.refl _⟩
theorem Nxt.trans (a : Nxt K N O M H O1 M1 H1) (b : Nxt K N O1 M1 H1 O2 M2 H2) : Nxt K N O M H O2 M2 H2 := ⟨b.st, a.eo.trans b.eo⟩
theorem Nxt.rp (a : Nxt K N O M H O1 M1 H1) {x : X} {v : V} (h : Rp K O N.B0 x v) : Rp K O1 N.B0 x v := h.mono a.eo (Ex.refl _) x
theorem Nxt.rpa (a : Nxt K N O M H O1 M1 H1) {x : List X} {v : List V} (h : RpA K O N.B0 x v) : RpA K O1 N.B0 x v := h.mono a.eo (Ex.refl _) x
theorem Nxt.sl (a : Nxt K N O M H O1 M1 H1) {x : Dl} {v : L2.St} (h : Sl K O N.B0 x v) : Sl K O1 N.B0 x v := h.mono a.eo (Ex.refl _)
end

section
variable (K : PySem.W.Frag) (W : Ent → Prop)
def SndE (t : TE) (d : DE) : Prop := ∀ (N : Ent) (O : Hp) (M : Mu) (δ : Dl) (σ : L2.St) (H : Hp) (Q : VK) (Qd : VKd), W N → Stt K N O M H → Sl K O N.B0 δ σ → d δ M Qd →
  (∀ O' M' H' x v, Nxt K N O M H O' M' H' → Rp K O' N.B0 x v → Qd x M' → Q v H') → t σ H Q
def SndT (t : TT) (d : DT) : Prop := ∀ (N : Ent) (O : Hp) (M : Mu) (δ : Dl) (σ : L2.St) (H : Hp) (Q : Bool → Hp → Prop) (Qd : Bool → Mu → Prop), W N → Stt K N O M H → Sl K O N.B0 δ σ → d δ M Qd →
  (∀ O' M' H' b, Nxt K N O M H O' M' H' → Qd b M' → Q b H') → t σ H Q
def SndA (t : TA) (d : DA) : Prop := ∀ (N : Ent) (O : Hp) (M : Mu) (δ : Dl) (σ : L2.St) (H : Hp) (Q : List V → Hp → Prop) (Qd : List X → Mu → Prop), W N → Stt K N O M H → Sl K O N.B0 δ σ → d δ M Qd →
  (∀ O' M' H' xs vs, Nxt K N O M H O' M' H' → RpA K O' N.B0 xs vs → Qd xs M' → Q vs H') → t σ H Q
structure Cmp (N : Ent) (D : Ends) (DD : EndsD) : Prop where
  nx : ∀ O M δ σ H, Stt K N O M H → Sl K O N.B0 δ σ → DD.nx δ M → D.nx σ H
  rt : ∀ O M H x v, Stt K N O M H → Rp K O N.B0 x v → DD.rt x M → D.rt v H
  bk : ∀ O M δ σ H, Stt K N O M H → Sl K O N.B0 δ σ → DD.bk δ M → D.bk σ H
  ct : ∀ O M δ σ H, Stt K N O M H → Sl K O N.B0 δ σ → DD.ct δ M → D.ct σ H
def SndS (t : TS) (d : DS) : Prop := ∀ (N : Ent) (D : Ends) (DD : EndsD), W N → Cmp K N D DD → ∀ (O : Hp) (M : Mu) (δ : Dl) (σ : L2.St) (H : Hp), Stt K N O M H → Sl K O N.B0 δ σ → d DD δ M → t D σ H
end
/-- what an entry's wish must bear: fewer states -/
def Anti (K : PySem.W.Frag) (W : Ent → Prop) : Prop := ∀ N N', N'.B0 = N.B0 → (∀ O M H, Stt K N' O M H → Stt K N O M H) → W N → W N'
/-- the entry, told by a later state -/
def Ent.at (N : Ent) (O : Hp) : Ent := ⟨N.H0, O, N.B0, N.C0, N.P0⟩
theorem Stt.to {K : PySem.W.Frag} {N : Ent} {O O1 H H1 : Hp} {M M1 : Mu} (S : Stt K N O M H) (eo : Ex O1 O) (S1 : Stt K N O1 M1 H1) : Stt K (N.at O1) O M H :=
  ⟨S.oh, S.om, S.tp, S.cl, S.b0, S.c0, eo, fun a o q => by
    rcases S.nw a o q with h | h
    · exact .inl (S1.o0 a o h)
    · exact .inr h, S.dm, S.mf⟩
theorem Stt.un {K : PySem.W.Frag} {N : Ent} {O O1 H H1 : Hp} {M M1 : Mu} (S : Stt K (N.at O1) O M H) (S1 : Stt K N O1 M1 H1) : Stt K N O M H :=
  ⟨S.oh, S.om, S.tp, S.cl, S.b0, S.c0, S1.o0.trans S.o0, fun a o q => by
    rcases S.nw a o q with h | h
    · exact S1.nw a o h
    · exact .inr h, S.dm, S.mf⟩
structure PD (X : Cx) (W : Ent → Prop) (e : Expr) (d : DE) : Prop where
  ex : ∃ t, PE X e t ∧ SndE X.K W t d
structure PTD (X : Cx) (W : Ent → Prop) (e : Expr) (d : DT) : Prop where
  ex : ∃ t, PT X e t ∧ SndT X.K W t d
structure PWD (X : Cx) (W : Ent → Prop) (e : Expr) (d : DT) : Prop where
  ex : ∃ t, PW X e t ∧ SndT X.K W t d
structure PAD (X : Cx) (W : Ent → Prop) (es : List Expr) (d : DA) : Prop where
  ex : ∃ t, PA X es t ∧ SndA X.K W t d
structure PSD (X : Cx) (W : Ent → Prop) (s : Stmt) (d : DS) : Prop where
  ex : ∃ t, PS X s t ∧ SndS X.K W t d
structure PSsD (X : Cx) (W : Ent → Prop) (s : List Stmt) (d : DS) : Prop where
  ex : ∃ t, PSs X s t ∧ SndS X.K W t d

/-! ### names, constants -/
def dvar (i : Nat) : DE := fun δ M Q => match δ[i]? with
  | some (some x) => Q x M
  | _ => False
def dc (x : X) : DE := fun _ M Q => Q x M
section
variable {X : Cx} {W : Ent → Prop} {K : PySem.W.Frag}
theorem snd_var {i : Nat} : SndE K W (tVar i) (dvar i) := fun N O M δ σ H Q Qd _ S L h k => by
  unfold dvar at h
  split at h
  · rename_i x e
    obtain ⟨v, e1, r⟩ := L.get e
    exact ⟨v, e1, k O M H x v (Nxt.refl S) r h⟩
  · exact h.elim
theorem pd_var (i : Nat) {x : Str} {pos : Pos} (hN : X.N[i]? = some x := by rfl) (hv : Vis X.env.scope x := by first | exact Or.inl rfl | exact Or.inr (Or.inl rfl) | exact Or.inr (Or.inr rfl)) (hd : (x == ("__debug__" : Str)) = false := by decide)
    (hcd : (x == ("__classdict__" : Str)) = false := by decide) : PD X W (.Name x pos) (dvar i) := ⟨_, pe_var hN hv hd hcd, snd_var⟩
theorem snd_c {v : V} {x : DL.X} (hr : ∀ O B, Rp K O B x v) : SndE K W (tC v) (dc x) := fun N O M δ σ H Q Qd _ S L h k => k O M H x v (Nxt.refl S) (hr _ _) h
theorem pd_int {i j pos} : PD X W (.Constant (.int i) j pos) (dc (.int i)) := ⟨_, pe_int, snd_c fun _ _ => by simp only [Rp]⟩
theorem pd_bl {b j pos} : PD X W (.Constant (.bool b) j pos) (dc (.bl b)) := ⟨_, pe_bl, snd_c fun _ _ => by simp only [Rp]⟩
theorem pd_non {j pos} : PD X W (.Constant .none j pos) (dc .non) := ⟨_, pe_non, snd_c fun _ _ => by simp only [Rp]⟩
theorem pd_str {x j pos} : PD X W (.Constant (.str x) j pos) (dc (.str x)) := ⟨_, pe_str, snd_c fun _ _ => by simp only [Rp]⟩
end

/-! ### arguments, displays -/
def dnil : DA := fun _ M Q => Q [] M
def dcons (a : DE) (r : DA) : DA := fun δ M Q => a δ M fun x M1 => r δ M1 fun xs M2 => Q (x :: xs) M2
/-- a new list: mutable, or owned -/
def newl (m : Bool) (zs : List X) (M : Mu) (Q : VKd) : Prop := match m with
  | true => ∀ p, M p = none → Q (.ptr p) (mset M p (.lst zs))
  | false => Q (.lst true zs) M
def dlst (m : Bool) (a : DA) : DE := fun δ M Q => a δ M fun xs M1 => xs.length ≤ sizeLine ∧ newl m xs M1 Q
def dtup (a : DA) : DE := fun δ M Q => a δ M fun xs M1 => xs.length ≤ sizeLine ∧ Q (.tup xs) M1
section
variable {X : Cx} {W : Ent → Prop} {K : PySem.W.Frag} {a : Expr} {es : List Expr} {pos : Pos} {da : DE} {dr : DA}
theorem snd_nil : SndA K W tNil dnil := fun N O M δ σ H Q Qd _ S L h k => k O M H [] [] (Nxt.refl S) RpA.nil h
theorem snd_cons {t : TE} {u : TA} (h1 : SndE K W t da) (h2 : SndA K W u dr) : SndA K W (tCons t u) (dcons da dr) := fun N O M δ σ H Q Qd w S L h k =>
  h1 N O M δ σ H _ _ w S L h fun O1 M1 H1 x v n1 r1 h => h2 N O1 M1 δ σ H1 _ _ w n1.st (n1.sl L) h fun O2 M2 H2 xs vs n2 r2 h => k O2 M2 H2 _ _ (n1.trans n2) (RpA.cons (n2.rp r1) r2) h
theorem pad_nil : PAD X W [] dnil := ⟨_, pa_nil, snd_nil⟩
theorem pad_cons (ha : PD X W a da) (hr : PAD X W es dr) (hs : starEach (a :: es) X.env = (false, eval a X.env) :: starEach es X.env := by rfl) : PAD X W (a :: es) (dcons da dr) := by
  obtain ⟨t, h1, s1⟩ := ha.ex
  obtain ⟨u, h2, s2⟩ := hr.ex
  exact ⟨_, pa_cons h1 h2 hs, snd_cons s1 s2⟩
/-- what a rule that makes a list gives -/
theorem newl_ok {N : Ent} {O H : Hp} {M : Mu} {m : Bool} {zs : List DL.X} {vs : List V} {Q : VK} {Qd : VKd} (S : Stt K N O M H) (r : RpA K O N.B0 zs vs) (h : newl m zs M Qd)
    (k : ∀ O' M' H' x v, Nxt K N O M H O' M' H' → Rp K O' N.B0 x v → Qd x M' → Q v H') (p : Addr) (hp : H p = none) : Q (.ref p) (upd H p (.lst vs)) := by
  cases m with
  | false =>
    obtain ⟨S', eo, e⟩ := S.own hp (.lst vs)
    refine k _ _ _ (.lst true zs) _ ⟨S', eo⟩ ?_ h
    simp only [Rp]
    exact ⟨p, vs, rfl, e, r.mono eo (Ex.refl _)⟩
  | true =>
    have S' := S.mut hp r
    refine k _ _ _ (.ptr p) _ ⟨S', Ex.refl _⟩ ?_ (h p (S.mnone hp))
    simp only [Rp]
theorem pd_lst (m : Bool) (h : PAD X W es dr) : PD X W (.List es pos) (dlst m dr) := by
  obtain ⟨t, h1, s1⟩ := h.ex
  refine ⟨_, pe_lst h1, fun N O M δ σ H Q Qd w S L h k => s1 N O M δ σ H _ _ w S L h fun O1 M1 H1 xs vs n1 r1 h => ⟨by rw [r1.len]; exact h.1, newl_ok n1.st r1 h.2 fun O' M' H' x v n r q => k O' M' H' x v (n1.trans n) r q⟩⟩
theorem pd_tup {x1} (h : PAD X W es dr) : PD X W (.Tuple es x1 pos) (dtup dr) := by
  obtain ⟨t, h1, s1⟩ := h.ex
  refine ⟨_, pe_tup h1, fun N O M δ σ H Q Qd w S L h k => s1 N O M δ σ H _ _ w S L h fun O1 M1 H1 xs vs n1 r1 h => ⟨by rw [r1.len]; exact h.1, fun p hp => ?_⟩⟩
  obtain ⟨S', eo, e⟩ := n1.st.own hp (.tup vs)
  refine k _ _ _ (.tup xs) _ (n1.trans ⟨S', eo⟩) ?_ h.2
  simp only [Rp]
  exact ⟨p, vs, rfl, st_of' e, r1.mono eo (Ex.refl _)⟩
where st_of' {K : PySem.W.Frag} {H : Hp} {a : Addr} {xs : List V} (h : H a = some (.tup xs)) : SqT K H a xs := .inl (.inl h)
end

/-! ### operations by values -/
def SndOp (K : PySem.W.Frag) (r : R2) (f : X → X → Mu → VKd → Prop) : Prop := ∀ (N : Ent) (O : Hp) (M : Mu) (H : Hp) (x y : X) (v u : V) (Q : VK) (Qd : VKd), Stt K N O M H → Rp K O N.B0 x v → Rp K O N.B0 y u → f x y M Qd →
  (∀ O' M' H' z w, Nxt K N O M H O' M' H' → Rp K O' N.B0 z w → Qd z M' → Q w H') → r v u H Q
def SndU (K : PySem.W.Frag) (r : V → Hp → VK → Prop) (f : X → Mu → VKd → Prop) : Prop := ∀ (N : Ent) (O : Hp) (M : Mu) (H : Hp) (x : X) (v : V) (Q : VK) (Qd : VKd), Stt K N O M H → Rp K O N.B0 x v → f x M Qd →
  (∀ O' M' H' z w, Nxt K N O M H O' M' H' → Rp K O' N.B0 z w → Qd z M' → Q w H') → r v H Q
def SndC (K : PySem.W.Frag) (r : List V → Hp → VK → Prop) (f : List X → Mu → VKd → Prop) : Prop := ∀ (N : Ent) (O : Hp) (M : Mu) (H : Hp) (xs : List X) (vs : List V) (Q : VK) (Qd : VKd), Stt K N O M H → RpA K O N.B0 xs vs → f xs M Qd →
  (∀ O' M' H' z w, Nxt K N O M H O' M' H' → Rp K O' N.B0 z w → Qd z M' → Q w H') → r vs H Q
def dop (f : X → X → Mu → VKd → Prop) (a b : DE) : DE := fun δ M Q => a δ M fun x M1 => b δ M1 fun y M2 => f x y M2 Q
def dun (f : X → Mu → VKd → Prop) (a : DE) : DE := fun δ M Q => a δ M fun x M1 => f x M1 Q
def dcb (f : List X → Mu → VKd → Prop) (a : DA) : DE := fun δ M Q => a δ M fun xs M1 => f xs M1 Q
section
variable {X : Cx} {W : Ent → Prop} {K : PySem.W.Frag} {a b : Expr} {es : List Expr} {pos : Pos} {da db : DE} {dr : DA} {f : DL.X → DL.X → Mu → VKd → Prop}
theorem snd_op {t u : TE} {r : R2} (h1 : SndE K W t da) (h2 : SndE K W u db) (hr : SndOp K r f) : SndE K W (tOp r t u) (dop f da db) := fun N O M δ σ H Q Qd w S L h k =>
  h1 N O M δ σ H _ _ w S L h fun O1 M1 H1 x v n1 r1 h => h2 N O1 M1 δ σ H1 _ _ w n1.st (n1.sl L) h fun O2 M2 H2 y u n2 r2 h =>
    hr N O2 M2 H2 x y v u _ _ n2.st (n2.rp r1) r2 h fun O3 M3 H3 z u3 n3 r3 h => k O3 M3 H3 z u3 ((n1.trans n2).trans n3) r3 h
theorem pd_op {op : Operator} {r : R2} (ho : OpR X (binaryOp op) r) (hr : SndOp X.K r f) (ha : PD X W a da) (hb : PD X W b db) : PD X W (.BinOp a op b pos) (dop f da db) := by
  obtain ⟨t, h1, s1⟩ := ha.ex
  obtain ⟨u, h2, s2⟩ := hb.ex
  exact ⟨_, pe_op ho h1 h2, snd_op s1 s2 hr⟩
theorem pd_cmp {op : CmpOp} {r : R2} (ho : OpR X (compareOp op) r) (hr : SndOp X.K r f) (ha : PD X W a da) (hb : PD X W b db) (hm : behindInMarks op b = false) : PD X W (.Compare a [op] [b] pos) (dop f da db) := by
  obtain ⟨t, h1, s1⟩ := ha.ex
  obtain ⟨u, h2, s2⟩ := hb.ex
  exact ⟨_, pe_cmpR ho h1 h2 hm, snd_op s1 s2 hr⟩
theorem pd_un {op : UnaryOp} {r : V → Hp → VK → Prop} {g : DL.X → Mu → VKd → Prop} (ho : UnR X (unaryOp op) r) (hr : SndU X.K r g) (ha : PD X W a da) : PD X W (.UnaryOp op a pos) (dun g da) := by
  obtain ⟨t, h1, s1⟩ := ha.ex
  exact ⟨_, pe_un ho h1, fun N O M δ σ H Q Qd w S L h k => s1 N O M δ σ H _ _ w S L h fun O1 M1 H1 x v n1 r1 h => hr N O1 M1 H1 x v _ _ n1.st r1 h fun O3 M3 H3 z u3 n3 r3 h => k O3 M3 H3 z u3 (n1.trans n3) r3 h⟩
theorem snd_cb {t : TA} {r : List V → Hp → VK → Prop} {g : List DL.X → Mu → VKd → Prop} (hr : SndC K r g) (s1 : SndA K W t dr) : SndE K W (tCB r t) (dcb g dr) := fun N O M δ σ H Q Qd w S L h k =>
  s1 N O M δ σ H _ _ w S L h fun O1 M1 H1 x v n1 r1 h => hr N O1 M1 H1 x v _ _ n1.st r1 h fun O3 M3 H3 z u3 n3 r3 h => k O3 M3 H3 z u3 (n1.trans n3) r3 h
theorem pd_callB {id : String} {x : Str} {p : Pos} {r : List V → Hp → VK → Prop} {g : List DL.X → Mu → VKd → Prop} (hc : CallR X (.builtin id) r) (hr : SndC X.K r g) (hg : Gl X x) (hm : X.mg x = none) (hv : bootBuiltins x = some (.builtin id)) (ha : PAD X W (a :: es) dr) (hn : x ≠ "__name__" := by decide) (hdb : (x == ("__debug__" : Str)) = false := by decide)
    (he : starEach (a :: es) X.env = (false, eval a X.env) :: starEach es X.env := by rfl) (hpl : (backTo pos (starEach es X.env)).any (·.1) = false := by rfl) : PD X W (.Call (.Name x p) (a :: es) [] pos) (dcb g dr) := by
  obtain ⟨t, h1, s1⟩ := ha.ex
  exact ⟨_, pe_callB hc hg hm hv h1 hn hdb he hpl, snd_cb hr s1⟩
theorem pd_callTy {T : String} {x : Str} {p : Pos} {r : List V → Hp → VK → Prop} {g : List DL.X → Mu → VKd → Prop} (hc : CallR X (.type T) r) (hr : SndC X.K r g) (hg : Gl X x) (hm : X.mg x = none) (hv : bootBuiltins x = some (.type T)) (ha : PAD X W (a :: es) dr) (hn : x ≠ "__name__" := by decide) (hdb : (x == ("__debug__" : Str)) = false := by decide)
    (he : starEach (a :: es) X.env = (false, eval a X.env) :: starEach es X.env := by rfl) (hpl : (backTo pos (starEach es X.env)).any (·.1) = false := by rfl) : PD X W (.Call (.Name x p) (a :: es) [] pos) (dcb g dr) := by
  obtain ⟨t, h1, s1⟩ := ha.ex
  exact ⟨_, pe_callTy hc hg hm hv h1 hn hdb he hpl, snd_cb hr s1⟩
end

/-! ### tests -/
def dtest (d : DE) : DT := fun δ M Q => d δ M fun x M1 => match x with
  | .bl b => Q b M1
  | _ => False
def dand (a b : DT) : DT := fun δ M Q => a δ M fun c M1 => match c with
  | true => b δ M1 Q
  | false => Q false M1
def dor (a b : DT) : DT := fun δ M Q => a δ M fun c M1 => match c with
  | true => Q true M1
  | false => b δ M1 Q
def dnot (a : DT) : DT := fun δ M Q => a δ M fun c M1 => Q (!c) M1
def dif (c : DT) (a b : DE) : DE := fun δ M Q => c δ M fun k M1 => match k with
  | true => a δ M1 Q
  | false => b δ M1 Q
def dandV (a b : DE) : DE := fun δ M Q => a δ M fun x M1 => match x with
  | .bl true => b δ M1 Q
  | .bl false => Q (.bl false) M1
  | _ => False
def dorV (a b : DE) : DE := fun δ M Q => a δ M fun x M1 => match x with
  | .bl true => Q (.bl true) M1
  | .bl false => b δ M1 Q
  | _ => False
def dnotV (a : DE) : DE := fun δ M Q => a δ M fun x M1 => match x with
  | .bl b => Q (.bl (!b)) M1
  | _ => False
section
variable {X : Cx} {W : Ent → Prop} {K : PySem.W.Frag} {a b c : Expr} {rest : List Expr} {pos : Pos} {da db dc' : DE} {dt du : DT} {f g : DL.X → DL.X → Mu → VKd → Prop}
theorem snd_test {t : TE} {u : TT} (h : SndE K W t da) (hu : u = tTest t) : SndT K W u (dtest da) := fun N O M δ σ H Q Qd w S L h0 k => by
  subst hu
  refine h N O M δ σ H _ _ w S L h0 fun O1 M1 H1 x v n1 r1 q => ?_
  split at q
  · rename_i b
    simp only [Rp] at r1
    exact ⟨b, r1, k O1 M1 H1 b n1 q⟩
  · exact q.elim
theorem ptd_cmp {op : CmpOp} {r : R2} (ho : OpR X (compareOp op) r) (hr : SndOp X.K r f) (ha : PD X W a da) (hb : PD X W b db) (hm : behindInMarks op b = false) : PTD X W (.Compare a [op] [b] pos) (dtest (dop f da db)) := by
  obtain ⟨t, h1, s1⟩ := ha.ex
  obtain ⟨u, h2, s2⟩ := hb.ex
  exact ⟨_, pt_cmpR ho h1 h2 hm, snd_test (snd_op s1 s2 hr) rfl⟩
theorem ptd_val {e : Expr} (h : PD X W e da) (he : ∀ whole, isTrue e X.env whole = (do let v ← whole; standAt e.pos; holding [v] (truthy v)) := by intro _; rfl) : PTD X W e (dtest da) := by
  obtain ⟨t, h1, s1⟩ := h.ex
  exact ⟨_, pt_val h1 he, snd_test s1 rfl⟩
theorem pwd_and1 (h : PTD X W a dt) : PWD X W (.BoolOp .And [a] pos) dt := by
  obtain ⟨t, h1, s1⟩ := h.ex
  exact ⟨_, pw_and1 h1, s1⟩
theorem pwd_or1 (h : PTD X W a dt) : PWD X W (.BoolOp .Or [a] pos) dt := by
  obtain ⟨t, h1, s1⟩ := h.ex
  exact ⟨_, pw_or1 h1, s1⟩
theorem pwd_and (ha : PTD X W a dt) (hb : PWD X W (.BoolOp .And (b :: rest) pos) du) : PWD X W (.BoolOp .And (a :: b :: rest) pos) (dand dt du) := by
  obtain ⟨t, h1, s1⟩ := ha.ex
  obtain ⟨u, h2, s2⟩ := hb.ex
  refine ⟨_, pw_and h1 h2, fun N O M δ σ H Q Qd w S L h k => s1 N O M δ σ H _ _ w S L h fun O1 M1 H1 c n1 q => ?_⟩
  cases c with
  | true => exact s2 N O1 M1 δ σ H1 _ _ w n1.st (n1.sl L) q fun O2 M2 H2 b n2 q => k O2 M2 H2 b (n1.trans n2) q
  | false => exact k O1 M1 H1 false n1 q
theorem pwd_or (ha : PTD X W a dt) (hb : PWD X W (.BoolOp .Or (b :: rest) pos) du) : PWD X W (.BoolOp .Or (a :: b :: rest) pos) (dor dt du) := by
  obtain ⟨t, h1, s1⟩ := ha.ex
  obtain ⟨u, h2, s2⟩ := hb.ex
  refine ⟨_, pw_or h1 h2, fun N O M δ σ H Q Qd w S L h k => s1 N O M δ σ H _ _ w S L h fun O1 M1 H1 c n1 q => ?_⟩
  cases c with
  | true => exact k O1 M1 H1 true n1 q
  | false => exact s2 N O1 M1 δ σ H1 _ _ w n1.st (n1.sl L) q fun O2 M2 H2 b n2 q => k O2 M2 H2 b (n1.trans n2) q
theorem PWD.pt (h : PWD X W a dt) : PTD X W a dt := by
  obtain ⟨t, h1, s1⟩ := h.ex
  exact ⟨_, h1.pt, s1⟩
theorem ptd_not (h : PTD X W a dt) : PTD X W (.UnaryOp .Not a pos) (dnot dt) := by
  obtain ⟨t, h1, s1⟩ := h.ex
  exact ⟨_, pt_not h1, fun N O M δ σ H Q Qd w S L h k => s1 N O M δ σ H _ _ w S L h fun O1 M1 H1 c n1 q => k O1 M1 H1 _ n1 q⟩
theorem pd_if (hc : PTD X W c dt) (ha : PD X W a da) (hb : PD X W b db) : PD X W (.IfExp c a b pos) (dif dt da db) := by
  obtain ⟨t, h1, s1⟩ := hc.ex
  obtain ⟨u, h2, s2⟩ := ha.ex
  obtain ⟨u3, h3, s3⟩ := hb.ex
  refine ⟨_, pe_ifExp h1 h2 h3, fun N O M δ σ H Q Qd w S L h k => s1 N O M δ σ H _ _ w S L h fun O1 M1 H1 c n1 q => ?_⟩
  cases c with
  | true => exact s2 N O1 M1 δ σ H1 _ _ w n1.st (n1.sl L) q fun O2 M2 H2 x v n2 r q => k O2 M2 H2 x v (n1.trans n2) r q
  | false => exact s3 N O1 M1 δ σ H1 _ _ w n1.st (n1.sl L) q fun O2 M2 H2 x v n2 r q => k O2 M2 H2 x v (n1.trans n2) r q
theorem pd_one {op} (h : PD X W a da) : PD X W (.BoolOp op [a] pos) da := by
  obtain ⟨t, h1, s1⟩ := h.ex
  exact ⟨_, pe_one h1, s1⟩
theorem pd_and (ha : PD X W a da) (hb : PD X W (.BoolOp .And (b :: rest) pos) db) : PD X W (.BoolOp .And (a :: b :: rest) pos) (dandV da db) := by
  obtain ⟨t, h1, s1⟩ := ha.ex
  obtain ⟨u, h2, s2⟩ := hb.ex
  refine ⟨_, pe_and h1 h2, fun N O M δ σ H Q Qd w S L h k => s1 N O M δ σ H _ _ w S L h fun O1 M1 H1 x v n1 r q => ?_⟩
  split at q
  · simp only [Rp] at r
    exact ⟨true, r, s2 N O1 M1 δ σ H1 _ _ w n1.st (n1.sl L) q fun O2 M2 H2 x v n2 r q => k O2 M2 H2 x v (n1.trans n2) r q⟩
  · simp only [Rp] at r
    exact ⟨false, r, k O1 M1 H1 (.bl false) _ n1 (by simp only [Rp]) q⟩
  · exact q.elim
theorem pd_or (ha : PD X W a da) (hb : PD X W (.BoolOp .Or (b :: rest) pos) db) : PD X W (.BoolOp .Or (a :: b :: rest) pos) (dorV da db) := by
  obtain ⟨t, h1, s1⟩ := ha.ex
  obtain ⟨u, h2, s2⟩ := hb.ex
  refine ⟨_, pe_or h1 h2, fun N O M δ σ H Q Qd w S L h k => s1 N O M δ σ H _ _ w S L h fun O1 M1 H1 x v n1 r q => ?_⟩
  split at q
  · simp only [Rp] at r
    exact ⟨true, r, k O1 M1 H1 (.bl true) _ n1 (by simp only [Rp]) q⟩
  · simp only [Rp] at r
    exact ⟨false, r, s2 N O1 M1 δ σ H1 _ _ w n1.st (n1.sl L) q fun O2 M2 H2 x v n2 r q => k O2 M2 H2 x v (n1.trans n2) r q⟩
  · exact q.elim
theorem pd_not (ha : PD X W a da) : PD X W (.UnaryOp .Not a pos) (dnotV da) := by
  obtain ⟨t, h1, s1⟩ := ha.ex
  refine ⟨_, pe_not h1, fun N O M δ σ H Q Qd w S L h k => s1 N O M δ σ H _ _ w S L h fun O1 M1 H1 x v n1 r q => ?_⟩
  split at q
  · rename_i b
    simp only [Rp] at r
    exact ⟨b, r, k O1 M1 H1 (.bl (!b)) _ n1 (by simp only [Rp]) q⟩
  · exact q.elim
/-- a < b < c -/
def dchain (f g : DL.X → DL.X → Mu → VKd → Prop) (a b c : DE) : DE := fun δ M Q => a δ M fun x M1 => b δ M1 fun y M2 => f x y M2 fun z M3 => match z with
  | .bl true => c δ M3 fun w M4 => g y w M4 Q
  | .bl false => Q (.bl false) M3
  | _ => False
theorem snd_chain {t u s : TE} {r r' : R2} (h1 : SndE K W t da) (h2 : SndE K W u db) (h3 : SndE K W s dc') (hr : SndOp K r f) (hr' : SndOp K r' g) : SndE K W (tChain r r' t u s) (dchain f g da db dc') := fun N O M δ σ H Q Qd w S L h k =>
  h1 N O M δ σ H _ _ w S L h fun O1 M1 H1 x v n1 r1 h => h2 N O1 M1 δ σ H1 _ _ w n1.st (n1.sl L) h fun O2 M2 H2 y u n2 r2 h =>
    hr N O2 M2 H2 x y v u _ _ n2.st (n2.rp r1) r2 h fun O3 M3 H3 z u3 n3 r3 h => by
      split at h
      · simp only [Rp] at r3
        refine ⟨true, r3, ?_⟩
        show s σ H3 _
        exact h3 N O3 M3 δ σ H3 _ _ w n3.st (((n1.trans n2).trans n3).sl L) h fun O4 M4 H4 w4 u4 n4 r4 h => hr' N O4 M4 H4 y w4 u u4 _ _ n4.st ((n3.trans n4).rp r2) r4 h fun O5 M5 H5 z5 u5 n5 r5 h => k O5 M5 H5 z5 u5 ((((n1.trans n2).trans n3).trans n4).trans n5) r5 h
      · simp only [Rp] at r3
        exact ⟨false, r3, k O3 M3 H3 (.bl false) _ ((n1.trans n2).trans n3) (by simp only [Rp]) h⟩
      · exact h.elim
theorem pd_chain {op op' : CmpOp} {r r' : R2} (ho : OpR X (compareOp op) r) (hr : SndOp X.K r f) (ho' : OpR X (compareOp op') r') (hr' : SndOp X.K r' g) (ha : PD X W a da) (hb : PD X W b db) (hc : PD X W c dc') (hm : lastMarks [op, op'] [b, c] = false := by rfl) :
    PD X W (.Compare a [op, op'] [b, c] pos) (dchain f g da db dc') := by
  obtain ⟨t, h1, s1⟩ := ha.ex
  obtain ⟨u, h2, s2⟩ := hb.ex
  obtain ⟨u3, h3, s3⟩ := hc.ex
  exact ⟨_, pe_chain ho ho' h1 h2 h3 hm, snd_chain s1 s2 s3 hr hr'⟩
theorem ptd_chain {op op' : CmpOp} {r r' : R2} (ho : OpR X (compareOp op) r) (hr : SndOp X.K r f) (ho' : OpR X (compareOp op') r') (hr' : SndOp X.K r' g) (ha : PD X W a da) (hb : PD X W b db) (hc : PD X W c dc') (hm : lastMarks [op, op'] [b, c] = false := by rfl) :
    PTD X W (.Compare a [op, op'] [b, c] pos) (dtest (dchain f g da db dc')) := by
  obtain ⟨t, h1, s1⟩ := ha.ex
  obtain ⟨u, h2, s2⟩ := hb.ex
  obtain ⟨u3, h3, s3⟩ := hc.ex
  refine ⟨_, pt_chain ho ho' h1 h2 h3 hm, fun N O M δ σ H Q Qd w S L h k => ?_⟩
  exact snd_test (snd_chain s1 s2 s3 hr hr') rfl N O M δ σ H Q Qd w S L h k
end

/-! ### statements -/
def dnext : DS := fun DD δ M => DD.nx δ M
def dseq (a b : DS) : DS := fun DD δ M => a { DD with nx := b DD } δ M
def dret (e : DE) : DS := fun DD δ M => e δ M DD.rt
def dretN : DS := fun DD _ M => DD.rt .non M
def ddrop (e : DE) : DS := fun DD δ M => e δ M fun _ M1 => DD.nx δ M1
def dasg (e : DE) (i : Nat) : DS := fun DD δ M => e δ M fun x M1 => DD.nx (δ.set i (some x)) M1
def diff (c : DT) (a b : DS) : DS := fun DD δ M => c δ M fun k M1 => match k with
  | true => a DD δ M1
  | false => b DD δ M1
section
variable {X : Cx} {W : Ent → Prop} {K : PySem.W.Frag} {a b c e : Expr} {s : Stmt} {rest as bs : List Stmt} {pos : Pos} {da db dc' : DE} {dt du : DT} {d1 d2 : DS}
theorem Cmp.with {N : Ent} {D : Ends} {DD : EndsD} (C : Cmp K N D DD) {p : L2.St → Hp → Prop} {q : Dl → Mu → Prop} (h : ∀ O M δ σ H, Stt K N O M H → Sl K O N.B0 δ σ → q δ M → p σ H) : Cmp K N { D with nx := p } { DD with nx := q } := ⟨h, C.rt, C.bk, C.ct⟩
theorem pssd_nil : PSsD X W [] dnext := ⟨_, pss_nil, fun N D DD w C O M δ σ H S L h => C.nx O M δ σ H S L h⟩
theorem pssd_cons (h1 : PSD X W s d1) (h2 : PSsD X W rest d2) : PSsD X W (s :: rest) (dseq d1 d2) := by
  obtain ⟨t, h1, s1⟩ := h1.ex
  obtain ⟨u, h2, s2⟩ := h2.ex
  exact ⟨_, pss_cons h1 h2, fun N D DD w C O M δ σ H S L h => s1 N _ { DD with nx := d2 DD } w (C.with fun O M δ σ H S L h => s2 N D DD w C O M δ σ H S L h) O M δ σ H S L h⟩
theorem pssd_one (h1 : PSD X W s d1) : PSsD X W [s] d1 := by
  obtain ⟨t, h1, s1⟩ := h1.ex
  exact ⟨_, pss_one h1, s1⟩
theorem psd_pass : PSD X W (.Pass pos) dnext := ⟨_, ps_pass, fun N D DD w C O M δ σ H S L h => C.nx O M δ σ H S L h⟩
def dbreak : DS := fun DD δ M => DD.bk δ M
def dcont : DS := fun DD δ M => DD.ct δ M
theorem psd_break : PSD X W (.Break pos) dbreak := ⟨_, ps_break, fun N D DD w C O M δ σ H S L h => C.bk O M δ σ H S L h⟩
theorem psd_continue : PSD X W (.Continue pos) dcont := ⟨_, ps_continue, fun N D DD w C O M δ σ H S L h => C.ct O M δ σ H S L h⟩
theorem psd_ret (h : PD X W e da) : PSD X W (.Return (some e) pos) (dret da) := by
  obtain ⟨t, h1, s1⟩ := h.ex
  exact ⟨_, ps_ret h1, fun N D DD w C O M δ σ H S L h => s1 N O M δ σ H _ _ w S L h fun O1 M1 H1 x v n r q => C.rt O1 M1 H1 x v n.st r q⟩
theorem psd_retN : PSD X W (.Return none pos) dretN := ⟨_, ps_retN, fun N D DD w C O M δ σ H S L h => C.rt O M H .non .non S (by simp only [Rp]) h⟩
theorem psd_expr (h : PD X W e da) (hs : swapsWith e none pos.line X.env = pure false := by rfl) : PSD X W (.Expr e pos) (ddrop da) := by
  obtain ⟨t, h1, s1⟩ := h.ex
  exact ⟨_, ps_expr h1 hs, fun N D DD w C O M δ σ H S L h => s1 N O M δ σ H _ _ w S L h fun O1 M1 H1 x v n r q => C.nx O1 M1 δ σ H1 n.st (n.sl L) q⟩
theorem psd_set (i : Nat) {x : Str} {pos' : Pos} (hN : X.N.Nodup) (h : PD X W e da) (hi : X.N[i]? = some x := by rfl) (hx : Loc X.env.scope x := by first | exact Or.inl rfl | exact Or.inr rfl) (hs : swapsWith e (some (.Name x pos')) pos.line X.env = pure false := by rfl) (hf : X.fn x = true ∨ X.env.scope.names.lookup x = some .local := by first | exact .inl rfl | exact .inr rfl | assumption) :
    PSD X W (.Assign [.Name x pos'] e pos) (dasg da i) := by
  obtain ⟨t, h1, s1⟩ := h.ex
  exact ⟨_, ps_set hN hi hx h1 hs hf, fun N D DD w C O M δ σ H S L h => s1 N O M δ σ H _ _ w S L h fun O1 M1 H1 x v n r q => C.nx O1 M1 _ _ H1 n.st ((n.sl L).set r i) q⟩
theorem psd_if (hc : PTD X W c dt) (ha : PSsD X W as d1) (hb : PSsD X W bs d2) : PSD X W (.If c as bs pos) (diff dt d1 d2) := by
  obtain ⟨t, h1, s1⟩ := hc.ex
  obtain ⟨u, h2, s2⟩ := ha.ex
  obtain ⟨u3, h3, s3⟩ := hb.ex
  refine ⟨_, ps_if h1 h2 h3, fun N D DD w C O M δ σ H S L h => s1 N O M δ σ H _ _ w S L h fun O1 M1 H1 k n q => ?_⟩
  cases k with
  | true => exact s2 N D DD w C O1 M1 δ σ H1 n.st (n.sl L) q
  | false => exact s3 N D DD w C O1 M1 δ σ H1 n.st (n.sl L) q
end

/-! ### targets -/
abbrev DG := X → Dl → Mu → (Dl → Mu → Prop) → Prop
abbrev DGs := List X → Dl → Mu → (Dl → Mu → Prop) → Prop
def SndG (K : PySem.W.Frag) (W : Ent → Prop) (t : TG) (d : DG) : Prop := ∀ (N : Ent) (O : Hp) (M : Mu) (δ : Dl) (σ : L2.St) (H : Hp) (x : X) (v : V) (Q : L2.St → Hp → Prop) (Qd : Dl → Mu → Prop), W N → Stt K N O M H → Sl K O N.B0 δ σ → Rp K O N.B0 x v → d x δ M Qd →
  (∀ O' M' H' δ' σ', Nxt K N O M H O' M' H' → Sl K O' N.B0 δ' σ' → Qd δ' M' → Q σ' H') → t v σ H Q
def SndGs (K : PySem.W.Frag) (W : Ent → Prop) (t : TGs) (d : DGs) : Prop := ∀ (N : Ent) (O : Hp) (M : Mu) (δ : Dl) (σ : L2.St) (H : Hp) (xs : List X) (vs : List V) (Q : L2.St → Hp → Prop) (Qd : Dl → Mu → Prop), W N → Stt K N O M H → Sl K O N.B0 δ σ → RpA K O N.B0 xs vs → d xs δ M Qd →
  (∀ O' M' H' δ' σ', Nxt K N O M H O' M' H' → Sl K O' N.B0 δ' σ' → Qd δ' M' → Q σ' H') → t vs σ H Q
structure PGD (X : Cx) (W : Ent → Prop) (e : Expr) (d : DG) : Prop where
  ex : ∃ t, PG X e t ∧ SndG X.K W t d
structure PGsD (X : Cx) (W : Ent → Prop) (es : List Expr) (d : DGs) : Prop where
  ex : ∃ t, PGs X es t ∧ SndGs X.K W t d
def dgname (i : Nat) : DG := fun x δ M Q => Q (δ.set i (some x)) M
def dgnil : DGs := fun xs δ M Q => match xs with
  | [] => Q δ M
  | _ => False
def dgcons (a : DG) (b : DGs) : DGs := fun xs δ M Q => match xs with
  | x :: r => a x δ M fun δ' M' => b r δ' M' Q
  | [] => False
def dgtup (n : Nat) (g : DGs) : DG := fun x δ M Q => match x with
  | .tup xs => xs.length = n ∧ g xs δ M Q
  | _ => False
section
variable {X : Cx} {W : Ent → Prop} {K : PySem.W.Frag} {e o ix : Expr} {es : List Expr} {pos : Pos} {g : DG} {gs : DGs} {da db de : DE}
theorem pgd_name (i : Nat) {x : Str} (hN : X.N.Nodup) (hi : X.N[i]? = some x := by rfl) (hx : Loc X.env.scope x := by first | exact Or.inl rfl | exact Or.inr rfl) (hf : X.fn x = true ∨ X.env.scope.names.lookup x = some .local := by first | exact .inl rfl | exact .inr rfl | assumption) : PGD X W (.Name x pos) (dgname i) :=
  ⟨_, pg_name hN hi hx hf, fun N O M δ σ H x v Q Qd w S L r h k => k O M H _ _ (Nxt.refl S) (L.set r i) h⟩
theorem pgsd_nil : PGsD X W [] dgnil := ⟨_, pgs_nil, fun N O M δ σ H xs vs Q Qd w S L r h k => by
  unfold dgnil at h
  split at h
  · simp only [RpA] at r
    exact ⟨r, k O M H δ σ (Nxt.refl S) L h⟩
  · exact h.elim⟩
theorem pgsd_cons (h1 : PGD X W e g) (h2 : PGsD X W es gs) (hs : (assignEach (e :: es) X.env).map (·.2) = assign e X.env :: (assignEach es X.env).map (·.2) := by rfl) : PGsD X W (e :: es) (dgcons g gs) := by
  obtain ⟨t, h1, s1⟩ := h1.ex
  obtain ⟨u, h2, s2⟩ := h2.ex
  refine ⟨_, pgs_cons h1 h2 hs, fun N O M δ σ H xs vs Q Qd w S L r h k => ?_⟩
  unfold dgcons at h
  split at h
  · simp only [RpA] at r
    obtain ⟨v, vr, e, rv, rr⟩ := r
    exact ⟨v, vr, e, s1 N O M δ σ H _ v _ _ w S L rv h fun O1 M1 H1 δ1 σ1 n1 L1 h => s2 N O1 M1 δ1 σ1 H1 _ vr _ _ w n1.st L1 (n1.rpa rr) h fun O2 M2 H2 δ2 σ2 n2 L2 h => k O2 M2 H2 δ2 σ2 (n1.trans n2) L2 h⟩
  · exact h.elim
theorem pgd_tup {k : Nat} {n : Nat} (hc : X.calm = true) (h : PGsD X W es gs) (hn : (assignEach es X.env).length = n := by rfl) (hst : (assignEach es X.env).findIdx? (·.1) = none := by rfl) : PGD X W (.Tuple es k pos) (dgtup n gs) := by
  obtain ⟨t, h1, s1⟩ := h.ex
  refine ⟨_, pg_tup hc h1 hn hst, fun N O M δ σ H x v Q Qd w S L r h k => ?_⟩
  unfold dgtup at h
  split at h
  · simp only [Rp] at r
    obtain ⟨a, vs, e, q, r⟩ := r
    exact ⟨a, vs, e, ex_sqt S.oh q, by rw [r.len]; exact h.1, s1 N O M δ σ H _ vs _ _ w S L r h.2 k⟩
  · exact h.elim
/-- xs[i] = v by data -/
def setL (o i v : DL.X) (M : Mu) (Q : Mu → Prop) : Prop := match o, i with
  | .ptr p, .int k => (match M p with
    | some (.lst xs) => (match ixN xs.length k with
      | some j => Q (mset M p (.lst (xs.set j v)))
      | none => False)
    | _ => False)
  | _, _ => False
def dgsub (o i : DE) : DG := fun v δ M Q => o δ M fun x M1 => i δ M1 fun y M2 => setL x y v M2 fun M3 => Q δ M3
theorem setL_inv {M : Mu} {x y z : DL.X} {Qd : Mu → Prop} (h : setL x y z M Qd) : ∃ (p : Addr) (k : Int) (xs : List DL.X) (j : Nat), x = .ptr p ∧ y = .int k ∧ M p = some (.lst xs) ∧ ixN xs.length k = some j ∧ Qd (mset M p (.lst (xs.set j z))) := by
  cases x with
  | ptr p =>
    cases y with
    | int k =>
      simp only [setL] at h
      split at h
      · rename_i xs e
        split at h
        · rename_i j ej
          exact ⟨p, k, xs, j, rfl, rfl, e, ej, h⟩
        · exact h.elim
      · exact h.elim
    | _ => simp only [setL] at h
  | _ => simp only [setL] at h
theorem setL_ok {N : Ent} {O H : Hp} {M : Mu} {x y z : DL.X} {v u w : V} {Q : Hp → Prop} {Qd : Mu → Prop} (S : Stt K N O M H) (rx : Rp K O N.B0 x v) (ry : Rp K O N.B0 y u) (rz : Rp K O N.B0 z w) (h : setL x y z M Qd)
    (k : ∀ O' M' H', Nxt K N O M H O' M' H' → Qd M' → Q H') : rSetL v u w H Q := by
  obtain ⟨p, k', xs, j, rfl, rfl, e, ej, h⟩ := setL_inv h
  simp only [Rp] at rx ry
  subst rx ry
  obtain ⟨vs, hp, r⟩ := S.cl _ _ e
  have S' := S.write e (r.set rz j)
  exact ⟨p, vs, k', j, rfl, rfl, hp, by rw [r.len]; exact ej, k O _ _ ⟨S', Ex.refl _⟩ h⟩
theorem pgd_sub (ho : PD X W o da) (hi : PD X W ix db)
    (ha : ∀ v, assign (.Subscript o ix pos) X.env v = (do
      let ov ← holding [v] (eval o X.env)
      let iv ← holding [v, ov] (eval ix X.env)
      standAt pos
      holding [v, ov, iv] (setItem ov iv v)
      release [v, ov, iv] []) := by intro _; rfl) : PGD X W (.Subscript o ix pos) (dgsub da db) := by
  obtain ⟨t, h1, s1⟩ := ho.ex
  obtain ⟨u, h2, s2⟩ := hi.ex
  refine ⟨_, pg_sub h1 h2 set_list ha, fun N O M δ σ H x v Q Qd w S L r h k => s1 N O M δ σ H _ _ w S L h fun O1 M1 H1 x1 v1 n1 r1 h => s2 N O1 M1 δ σ H1 _ _ w n1.st (n1.sl L) h fun O2 M2 H2 x2 v2 n2 r2 h => ?_⟩
  exact setL_ok n2.st (n2.rp r1) r2 ((n1.trans n2).rp r) h fun O3 M3 H3 n3 h => k O3 M3 H3 δ σ ((n1.trans n2).trans n3) (((n1.trans n2).trans n3).sl L) h
/-- target = value -/
def dasgG (e : DE) (g : DG) : DS := fun DD δ M => e δ M fun x M1 => g x δ M1 DD.nx
theorem psd_asg {tg : Expr} (he : PD X W e de) (hg : PGD X W tg g) (hs : swapsWithSole [tg] e pos.line X.env = pure false := by rfl) (hw : swappedStores [tg] e X.env = pure none := by rfl)
    (h1 : (assignEach [tg] X.env).map (·.2) = [assign tg X.env] := by rfl) : PSD X W (.Assign [tg] e pos) (dasgG de g) := by
  obtain ⟨t, q1, s1⟩ := he.ex
  obtain ⟨u, q2, s2⟩ := hg.ex
  exact ⟨_, ps_asg q1 q2 hs hw h1, fun N D DD w C O M δ σ H S L h => s1 N O M δ σ H _ _ w S L h fun O1 M1 H1 x v n r h => s2 N O1 M1 δ σ H1 x v _ _ w n.st (n.sl L) r h fun O2 M2 H2 δ2 σ2 n2 L2 h => C.nx O2 M2 δ2 σ2 H2 n2.st L2 h⟩
/-- a, b = x, y with plain local names -/
def dpar (i j : Nat) (a b : DE) : DS := fun DD δ M => a δ M fun x M1 => b δ M1 fun y M2 => DD.nx ((δ.set i (some x)).set j (some y)) M2
theorem psd_par (i j : Nat) {x y : Str} {a b : Expr} {px py pt : Pos} {kt k2 pt2} (hc : X.calm = true) (hN : X.N.Nodup) (ha : PD X W a da) (hb : PD X W b db)
    (hi : X.N[i]? = some x := by rfl) (hj : X.N[j]? = some y := by rfl) (hij : i ≠ j := by decide) (hx : X.env.scope.names.lookup x = some .local := by rfl) (hy : X.env.scope.names.lookup y = some .local := by rfl)
    (hw : swappedStores [.Tuple [.Name x px, .Name y py] kt pt] (.Tuple [a, b] k2 pt2) X.env = pure (some [x, y]) := by rfl)
    (hs : swapsWithSole [.Tuple [.Name x px, .Name y py] kt pt] (.Tuple [a, b] k2 pt2) pos.line X.env = pure false := by rfl)
    (e1 : starEach (a :: [b]) X.env = (false, eval a X.env) :: starEach [b] X.env := by rfl) (e2 : starEach (b :: []) X.env = (false, eval b X.env) :: starEach [] X.env := by rfl) :
    PSD X W (.Assign [.Tuple [.Name x px, .Name y py] kt pt] (.Tuple [a, b] k2 pt2) pos) (dpar i j da db) := by
  obtain ⟨t, h1, s1⟩ := ha.ex
  obtain ⟨u, h2, s2⟩ := hb.ex
  refine ⟨_, ps_par hc hN hi hj hij hx hy (pa_cons h1 (pa_cons h2 pa_nil e2) e1) hw hs, fun N D DD w C O M δ σ H S L h => s1 N O M δ σ H _ _ w S L h fun O1 M1 H1 x1 v1 n1 r1 h => s2 N O1 M1 δ σ H1 _ _ w n1.st (n1.sl L) h fun O2 M2 H2 x2 v2 n2 r2 h => ?_⟩
  exact ⟨v1, v2, rfl, C.nx O2 M2 _ _ H2 n2.st ((((n1.trans n2).sl L).set (n2.rp r1) i).set r2 j) h⟩
/-- name op= e -/
def SndIp (K : PySem.W.Frag) (t : TIp) (f : DL.X → DL.X → Mu → VKd → Prop) : Prop := SndOp K t f
def daug (i : Nat) (e : DE) (f : DL.X → DL.X → Mu → VKd → Prop) : DS := fun DD δ M => match δ[i]? with
  | some (some x) => e δ M fun y M1 => f x y M1 fun z M2 => DD.nx (δ.set i (some z)) M2
  | _ => False
theorem psd_aug (i : Nat) {x : Str} {op : Operator} {ti : TIp} {pos' : Pos} {f : DL.X → DL.X → Mu → VKd → Prop} (hN : X.N.Nodup) (ho : PIp X op ti) (hr : SndOp X.K ti f) (he : PD X W e de) (hi : X.N[i]? = some x := by rfl) (hx : Loc X.env.scope x := by first | exact Or.inl rfl | exact Or.inr rfl) (hf : X.fn x = true ∨ X.env.scope.names.lookup x = some .local := by first | exact .inl rfl | exact .inr rfl | assumption) :
    PSD X W (.AugAssign (.Name x pos') op e pos) (daug i de f) := by
  obtain ⟨t, h1, s1⟩ := he.ex
  refine ⟨_, ps_aug hN hi hx h1 ho hf, fun N D DD w C O M δ σ H S L h => ?_⟩
  unfold daug at h
  split at h
  · rename_i x0 e0
    obtain ⟨v, ev, r⟩ := L.get e0
    exact ⟨v, ev, s1 N O M δ σ H _ _ w S L h fun O1 M1 H1 y u n1 r1 h => hr N O1 M1 H1 x0 y v u _ _ n1.st (n1.rp r) r1 h fun O2 M2 H2 z w2 n2 r2 h => C.nx O2 M2 _ _ H2 n2.st (((n1.trans n2).sl L).set r2 i) h⟩
  · exact h.elim
end

/-! ### for: the items one after another -/
abbrev DI := Dl → Mu → (List X → (Mu → Prop) → Mu → Prop) → Prop
/-- an iterator that gives the items, while c holds -/
def ItOk (K : PySem.W.Frag) (N0 : Ent) (O : Hp) (M : Mu) (H : Hp) (J : It) (xs : List X) (c : Mu → Prop) : Prop := ∀ (N : Ent) (O1 : Hp) (M1 : Mu) (H1 : Hp) (i : Nat), N.B0 = N0.B0 → Stt K N O1 M1 H1 → Ex O O1 → c M1 →
  (xs.length ≤ i → J.stop i H1) ∧ ∀ x, xs[i]? = some x → J.go i H1 ∧ ∀ v H2, J.yld i H1 v H2 → ∃ O2, Nxt K N O1 M1 H1 O2 M1 H2 ∧ Rp K O2 N.B0 x v
def SndI (K : PySem.W.Frag) (W : Ent → Prop) (t : TI) (d : DI) : Prop := ∀ (N : Ent) (O : Hp) (M : Mu) (δ : Dl) (σ : L2.St) (H : Hp) (Q : It → Hp → Prop) (Qd : List X → (Mu → Prop) → Mu → Prop), W N → Stt K N O M H → Sl K O N.B0 δ σ → d δ M Qd →
  (∀ O' M' H' J xs c, Nxt K N O M H O' M' H' → ItOk K N O' M' H' J xs c → Qd xs c M' → Q J H') → t σ H Q
structure PID (X : Cx) (W : Ent → Prop) (tg e : Expr) (d : DI) : Prop where
  ex : ∃ t, PI X tg e t ∧ SndI X.K W t d
def dfor (g : DG) (b : DS) (c : Mu → Prop) : List X → DS
  | [] => fun DD δ M => c M ∧ DD.nx δ M
  | x :: xs => fun DD δ M => c M ∧ g x δ M fun δ1 M1 => b { DD with nx := dfor g b c xs DD, ct := dfor g b c xs DD, bk := DD.nx } δ1 M1
def dforS (it : DI) (g : DG) (b : DS) : DS := fun DD δ M => it δ M fun xs c M1 => dfor g b c xs DD δ M1
section
variable {X : Cx} {W : Ent → Prop} {K : PySem.W.Frag} {tg iter : Expr} {body : List Stmt} {pos : Pos} {g : DG} {d : DS} {di : DI} {dt : DT} {c : Expr}
theorem psd_for (hW : Anti X.K W) (hp : PassesOwn (model X.prog X.w) X.A X.env X.xe) (hc : X.calm = true) (hi : PID X W tg iter di) (hg : PGD X W tg g) (hb : PSsD X W body d)
    (hs : ∀ x, foldedSetIterable iter X.env x = pure x := by intro _; rfl) : PSD X W (.For tg iter body [] pos) (dforS di g d) := by
  obtain ⟨t1, h1, s1⟩ := hi.ex
  obtain ⟨t2, h2, s2⟩ := hg.ex
  obtain ⟨t3, h3, s3⟩ := hb.ex
  refine ⟨_, ps_for hp hc h1 h2 h3 hs, fun N D DD w C O M δ σ H S L h => s1 N O M δ σ H _ _ w S L h fun O1 M1 H1 J xs cc n1 J1 q => ?_⟩
  refine ⟨fun i m σ' H' => ∃ O' M' δ', m + i = xs.length ∧ Stt X.K N O' M' H' ∧ Ex O1 O' ∧ Sl X.K O' N.B0 δ' σ' ∧ dfor g d cc (xs.drop i) DD δ' M', ⟨xs.length, O1, M1, δ, rfl, n1.st, Ex.refl _, n1.sl L, q⟩, ?_⟩
  rintro i m σ' H' ⟨O', M', δ', em, S', eo, L', q⟩
  by_cases hi : i < xs.length
  · have e : xs.drop i = xs[i] :: xs.drop (i + 1) := List.drop_eq_getElem_cons hi
    rw [e] at q
    obtain ⟨qc, q⟩ := q
    obtain ⟨_, j2⟩ := J1 N O' M' H' i rfl S' eo qc
    obtain ⟨jg, jy⟩ := j2 _ (List.getElem?_eq_getElem hi)
    refine .inr ⟨jg, fun σ2 H2 => ∃ O2 M2 δ2, Stt X.K N O2 M2 H2 ∧ Ex O1 O2 ∧ Sl X.K O2 N.B0 δ2 σ2 ∧ dfor g d cc (xs.drop (i + 1)) DD δ2 M2, ?_, ?_⟩
    · rintro σ2 H2 ⟨O2, M2, δ2, S2, eo2, L2, q2⟩
      exact ⟨m - 1, by omega, O2, M2, δ2, by omega, S2, eo2, L2, q2⟩
    · intro v H2 hy
      obtain ⟨O2, n2, r2⟩ := jy v H2 hy
      refine s2 N O2 M' δ' σ' H2 _ v _ _ w n2.st (n2.sl L') r2 q fun O3 M3 H3 δ3 σ3 n3 L3 q => ?_
      have S3 := (n2.trans n3).st.to (eo.trans (n2.trans n3).eo) n1.st
      refine s3 (N.at O1) _ { DD with nx := dfor g d cc (xs.drop (i + 1)) DD, ct := dfor g d cc (xs.drop (i + 1)) DD, bk := DD.nx } (hW N (N.at O1) rfl (fun _ _ _ z => z.un n1.st) w) ⟨?_, ?_, ?_, ?_⟩ O3 M3 δ3 σ3 H3 S3 L3 q
      · exact fun O4 M4 δ4 σ4 H4 S4 L4 q4 => ⟨O4, M4, δ4, S4.un n1.st, S4.o0, L4, q4⟩
      · exact fun O4 M4 H4 x v S4 r4 q4 => C.rt O4 M4 H4 x v (S4.un n1.st) r4 q4
      · exact fun O4 M4 δ4 σ4 H4 S4 L4 q4 => C.nx O4 M4 δ4 σ4 H4 (S4.un n1.st) L4 q4
      · exact fun O4 M4 δ4 σ4 H4 S4 L4 q4 => ⟨O4, M4, δ4, S4.un n1.st, S4.o0, L4, q4⟩
  · have e : xs.drop i = [] := List.drop_eq_nil_of_le (by omega)
    rw [e] at q
    exact .inl ⟨(J1 N O' M' H' i rfl S' eo q.1).1 (by omega), C.nx O' M' δ' σ' H' S' L' q.2⟩
end
end DL

set_option maxRecDepth 100000
/-! DLc: the operations by data; what is walked; while; comprehensions. -/
namespace DL
open PySem PySem.Spec PyProof.Rows L2

/-! ### ints -/
def fI (C : Int → Int → Prop) (g : Int → Int → X) (x y : X) (M : Mu) (Q : VKd) : Prop := match x, y with
  | .int i, .int j => C i j ∧ Q (g i j) M
  | _, _ => False
def fI0 (g : Int → Int → X) (x y : X) (M : Mu) (Q : VKd) : Prop := match x, y with
  | .int i, .int j => Q (g i j) M
  | _, _ => False
def fU (g : Int → X) (x : X) (M : Mu) (Q : VKd) : Prop := match x with
  | .int i => Q (g i) M
  | _ => False
/-- the list that stands for x -/
def lstOf (M : Mu) : X → Option (List X)
  | .lst _ xs => some xs
  | .ptr p => match M p with
    | some (.lst xs) => some xs
    | _ => none
  | .scr ns => some (ns.map .int)
  | _ => none
/-- .. that may be copied, joined (the script is not) -/
def lstO (M : Mu) : X → Option (List X)
  | .lst _ xs => some xs
  | .ptr p => match M p with
    | some (.lst xs) => some xs
    | _ => none
  | _ => none
section
variable {K : PySem.W.Frag} {N : Ent} {O H : Hp} {M : Mu} {x y : X} {v w : V}
theorem lstO_ok (S : Stt K N O M H) (r : Rp K O N.B0 x v) {xs : List X} (h : lstO M x = some xs) : ∃ a vs, v = .ref a ∧ H a = some (.lst vs) ∧ RpA K O N.B0 xs vs := by
  cases x with
  | lst b ys =>
    simp only [lstO, Option.some.injEq] at h
    subst h
    simp only [Rp] at r
    obtain ⟨a, vs, e, q, r⟩ := r
    cases b with
    | true => exact ⟨a, vs, e, S.oh a _ q, r⟩
    | false => exact ⟨a, vs, e, (of_fz (S.b0 a _ q)).1, r⟩
  | ptr p =>
    simp only [lstO] at h
    split at h
    · rename_i ys e
      cases h
      simp only [Rp] at r
      obtain ⟨vs, hp, rr⟩ := S.cl p _ e
      exact ⟨p, vs, r, hp, rr⟩
    · cases h
  | _ => simp only [lstO] at h; cases h
theorem lstOf_ok (S : Stt K N O M H) (r : Rp K O N.B0 x v) {xs : List X} (h : lstOf M x = some xs) : ∃ a vs, v = .ref a ∧ SqL K H a vs ∧ RpA K O N.B0 xs vs := by
  cases x with
  | scr ns =>
    simp only [lstOf, Option.some.injEq] at h
    subst h
    simp only [Rp] at r
    obtain ⟨a, e, q⟩ := r
    exact ⟨a, _, e, ex_sql (S.b0.trans fz_sub) q, RpA.of_ints ns⟩
  | lst b ys =>
    obtain ⟨a, vs, e, q, r⟩ := lstO_ok S r (xs := xs) h
    exact ⟨a, vs, e, .inl (.inl q), r⟩
  | ptr p =>
    obtain ⟨a, vs, e, q, r⟩ := lstO_ok S r (xs := xs) h
    exact ⟨a, vs, e, .inl (.inl q), r⟩
  | _ => simp only [lstOf] at h; cases h
theorem tup_ok (S : Stt K N O M H) {xs : List X} (r : Rp K O N.B0 (.tup xs) v) : ∃ a vs, v = .ref a ∧ SqT K H a vs ∧ RpA K O N.B0 xs vs := by
  simp only [Rp] at r
  obtain ⟨a, vs, e, q, r⟩ := r
  exact ⟨a, vs, e, ex_sqt S.oh q, r⟩
theorem snd_I {C : Int → Int → Prop} {g : Int → Int → V} {g' : Int → Int → X} (hg : ∀ O B i j, Rp K O B (g' i j) (g i j)) : SndOp K (rI C g) (fI C g') := fun N O M H x y v u Q Qd S rx ry h k => by
  cases x with
  | int i =>
    cases y with
    | int j =>
      simp only [Rp] at rx ry
      exact ⟨i, j, rx, ry, h.1, k O M H _ _ (Nxt.refl S) (hg _ _ i j) h.2⟩
    | _ => exact h.elim
  | _ => exact h.elim
theorem snd_I0 {g : Int → Int → V} {g' : Int → Int → X} (hg : ∀ O B i j, Rp K O B (g' i j) (g i j)) : SndOp K (rI0 g) (fI0 g') := fun N O M H x y v u Q Qd S rx ry h k => by
  cases x with
  | int i =>
    cases y with
    | int j =>
      simp only [Rp] at rx ry
      exact ⟨i, j, rx, ry, k O M H _ _ (Nxt.refl S) (hg _ _ i j) h⟩
    | _ => exact h.elim
  | _ => exact h.elim
theorem snd_ip {f : Int → Int → Int} : SndOp K (ipI f) (fI0 fun i j => .int (f i j)) := snd_I0 (g := fun i j => .int (f i j)) fun _ _ _ _ => by simp only [Rp]
theorem snd_U {g : Int → V} {g' : Int → X} (hg : ∀ O B i, Rp K O B (g' i) (g i)) : SndU K (rU g) (fU g') := fun N O M H x v Q Qd S rx h k => by
  cases x with
  | int i =>
    simp only [Rp] at rx
    exact ⟨i, rx, k O M H _ _ (Nxt.refl S) (hg _ _ i) h⟩
  | _ => exact h.elim
end
abbrev gI (f : Int → Int → Int) : Int → Int → X := fun i j => .int (f i j)
abbrev gB (f : Int → Int → Bool) : Int → Int → X := fun i j => .bl (f i j)
/-- a + b: ints; lists (a new one) -/
def fAdd (m : Bool) (x y : X) (M : Mu) (Q : VKd) : Prop := match x, y with
  | .int i, .int j => Q (.int (i + j)) M
  | _, _ => match lstO M x, lstO M y with
    | some xs, some ys => xs.length + ys.length ≤ sizeLine ∧ newl m (xs ++ ys) M Q
    | _, _ => False
/-- a * b: ints; a list and an int -/
def fMul (m : Bool) (x y : X) (M : Mu) (Q : VKd) : Prop := match x, y with
  | .int i, .int j => CMul i j ∧ Q (.int (i * j)) M
  | _, .int k => (match lstO M x with
    | some xs => k < 2 ^ 60 ∧ -(2 ^ 60) < k ∧ xs.length * k.toNat ≤ sizeLine ∧ newl m (List.replicate k.toNat xs).flatten M Q
    | none => False)
  | _, _ => False
def rAddO : R2 := fun x y H Q => (∃ i j, x = .int i ∧ y = .int j ∧ Q (.int (i + j)) H) ∨ rCat x y H Q
def rMulO : R2 := fun x y H Q => rI CMul (fun i j => .int (i * j)) x y H Q ∨ rRep x y H Q
section
variable {Y : Cx} {K : PySem.W.Frag} {W : Ent → Prop} {a b : Expr} {pos : Pos} {da db : DE}
theorem snd_add (m : Bool) : SndOp K rAddO (fAdd m) := fun N O M H x y v u Q Qd S rx ry h k => by
  have lists : ∀ {xs ys : List X}, lstO M x = some xs → lstO M y = some ys → xs.length + ys.length ≤ sizeLine ∧ newl m (xs ++ ys) M Qd → rAddO v u H Q := fun {xs ys} ex ey h => by
    obtain ⟨p, vs, e1, q1, r1⟩ := lstO_ok S rx ex
    obtain ⟨p2, ws, e2, q2, r2⟩ := lstO_ok S ry ey
    exact .inr ⟨p, p2, vs, ws, e1, e2, q1, q2, by rw [r1.len, r2.len]; exact h.1, newl_ok S (r1.append r2) h.2 k⟩
  unfold fAdd at h
  split at h
  · rename_i i j
    simp only [Rp] at rx ry
    exact .inl ⟨i, j, rx, ry, k O M H _ _ (Nxt.refl S) (by simp only [Rp]) h⟩
  · split at h
    · rename_i ex ey
      exact lists ex ey h
    · exact h.elim
theorem rep_flat {xs : List V} {vs : List V} : True := trivial
theorem snd_mul (m : Bool) : SndOp K rMulO (fMul m) := fun N O M H x y v u Q Qd S rx ry h k => by
  unfold fMul at h
  split at h
  · rename_i i j
    simp only [Rp] at rx ry
    exact .inl ⟨i, j, rx, ry, h.1, k O M H _ _ (Nxt.refl S) (by simp only [Rp]) h.2⟩
  · rename_i x' n hne
    split at h
    · rename_i xs ex
      obtain ⟨p, vs, e1, q1, r1⟩ := lstO_ok S rx ex
      simp only [Rp] at ry
      exact .inr ⟨p, n, vs, e1, ry, q1, by omega, by omega, by rw [r1.len]; exact h.2.2.1, newl_ok S (r1.rep n.toNat) h.2.2.2 k⟩
    · exact h.elim
  · exact h.elim
theorem op_addO : OpR Y (binaryOp .Add) rAddO := OpR.or (r := fun x y H Q => ∃ i j, x = .int i ∧ y = .int j ∧ Q (.int (i + j)) H) op_add op_cat
theorem op_mulO : OpR Y (binaryOp .Mult) rMulO := OpR.or op_mul op_rep
theorem pd_add (m : Bool) (ha : PD Y W a da) (hb : PD Y W b db) : PD Y W (.BinOp a .Add b pos) (dop (fAdd m) da db) := pd_op op_addO (snd_add m) ha hb
theorem pd_mul (m : Bool) (ha : PD Y W a da) (hb : PD Y W b db) : PD Y W (.BinOp a .Mult b pos) (dop (fMul m) da db) := pd_op op_mulO (snd_mul m) ha hb
theorem pd_sub (ha : PD Y W a da) (hb : PD Y W b db) : PD Y W (.BinOp a .Sub b pos) (dop (fI0 (gI fun i j => i - j)) da db) := pd_op op_sub (snd_I0 fun _ _ _ _ => by simp only [Rp]) ha hb
theorem pd_fdiv (ha : PD Y W a da) (hb : PD Y W b db) : PD Y W (.BinOp a .FloorDiv b pos) (dop (fI CDiv (gI fun i j => i / j)) da db) := pd_op op_fdiv (snd_I fun _ _ _ _ => by simp only [Rp]) ha hb
theorem pd_mod (ha : PD Y W a da) (hb : PD Y W b db) : PD Y W (.BinOp a .Mod b pos) (dop (fI (fun _ j => 0 < j) (gI fun i j => i % j)) da db) := pd_op op_mod (snd_I fun _ _ _ _ => by simp only [Rp]) ha hb
theorem pd_pow (ha : PD Y W a da) (hb : PD Y W b db) : PD Y W (.BinOp a .Pow b pos) (dop (fI CPow (gI fun i j => i ^ j.toNat)) da db) := pd_op op_pow (snd_I fun _ _ _ _ => by simp only [Rp]) ha hb
theorem pd_neg (ha : PD Y W a da) : PD Y W (.UnaryOp .USub a pos) (dun (fU fun i => .int (-i)) da) := pd_un un_neg (snd_U fun _ _ _ => by simp only [Rp]) ha
end

/-! ### comparisons -/
/-- scalars: == by what they are -/
def scalX : X → X → Bool
  | .non, _ => true | _, .non => true
  | .bl _, .bl _ => true | .int _, .int _ => true | .str _, .str _ => true
  | _, _ => false
def eqX : X → X → Bool
  | .non, .non => true
  | .bl a, .bl b => a == b
  | .int a, .int b => a == b
  | .str a, .str b => decide (a = b)
  | _, _ => false
def fEq (n : Bool) (x y : X) (M : Mu) (Q : VKd) : Prop := match x, y with
  | .int i, .int j => Q (.bl (n != decide (i = j))) M
  | .bl i, .bl j => Q (.bl (n != decide (i = j))) M
  | .str i, .str j => Q (.bl (n != decide (i = j))) M
  | _, _ => False
section
variable {Y : Cx} {K : PySem.W.Frag} {W : Ent → Prop} {a b : Expr} {pos : Pos} {da db : DE}
theorem snd_eq : SndOp K rEq (fEq false) := fun N O M H x y v u Q Qd S rx ry h k => by
  unfold fEq at h
  split at h <;> first
    | exact h.elim
    | (simp only [Rp] at rx ry
       subst rx ry
       refine ⟨rfl, k O M H _ _ (Nxt.refl S) ?_ h⟩
       simp [Rp])
theorem snd_ne : SndOp K rNe (fEq true) := fun N O M H x y v u Q Qd S rx ry h k => by
  unfold fEq at h
  split at h <;> first
    | exact h.elim
    | (simp only [Rp] at rx ry
       subst rx ry
       refine ⟨rfl, k O M H _ _ (Nxt.refl S) ?_ h⟩
       simp [Rp])
abbrev fLt := fI0 (gB fun i j => decide (i < j))
abbrev fLe := fI0 (gB fun i j => decide (i ≤ j))
abbrev fGt := fI0 (gB fun i j => decide (j < i))
abbrev fGe := fI0 (gB fun i j => decide (j ≤ i))
theorem snd_B {g : Int → Int → Bool} : SndOp K (rI0 fun i j => .bl (g i j)) (fI0 (gB g)) := snd_I0 fun _ _ _ _ => by simp only [Rp]
/-- is None, is not None -/
def fIsN (n : Bool) (x y : X) (M : Mu) (Q : VKd) : Prop := match y with
  | .non => (match x with
    | .non => Q (.bl (!n)) M
    | _ => Q (.bl n) M)
  | _ => False
theorem rp_non {O B : Hp} {x : X} (r : Rp K O B x .non) : x = .non := by
  cases x with
  | non => rfl
  | bl _ => simp only [Rp] at r; cases r
  | int _ => simp only [Rp] at r; cases r
  | str _ => simp only [Rp] at r; cases r
  | ptr _ => simp only [Rp] at r; cases r
  | ref _ => simp only [Rp] at r; cases r
  | scr _ => simp only [Rp] at r; obtain ⟨_, e, _⟩ := r; cases e
  | lst _ _ => simp only [Rp] at r; obtain ⟨_, _, e, _⟩ := r; cases e
  | tup _ => simp only [Rp] at r; obtain ⟨_, _, e, _⟩ := r; cases e
  | obj _ _ _ _ => simp only [Rp] at r; obtain ⟨_, _, _, e, _⟩ := r; cases e
  | exn _ _ _ => simp only [Rp] at r; obtain ⟨_, _, e, _⟩ := r; cases e
theorem snd_isN (n : Bool) : SndOp K (fun x y H Q => y = .non ∧ Q (.bl (n != decide (x = .non))) H) (fIsN n) := fun N O M H x y v u Q Qd S rx ry h k => by
  cases y with
  | non =>
    simp only [Rp] at ry
    refine ⟨ry, ?_⟩
    by_cases e : v = .non
    · subst e
      have ex := rp_non rx
      subst ex
      rw [decide_eq_true rfl]
      refine k O M H (.bl (!n)) _ (Nxt.refl S) ?_ h
      cases n <;> simp [Rp]
    · rw [decide_eq_false e]
      have ex : x ≠ .non := fun z => by subst z; simp only [Rp] at rx; exact e rx
      have h' : Qd (.bl n) M := by
        cases x <;> first | exact absurd rfl ex | exact h
      refine k O M H (.bl n) _ (Nxt.refl S) ?_ h'
      cases n <;> simp [Rp]
  | _ => exact h.elim
theorem op_isN' : OpR Y (compareOp .Is) (fun x y H Q => y = .non ∧ Q (.bl (false != decide (x = .non))) H) := by
  have e : (fun (x y : V) (H : Hp) (Q : VK) => y = .non ∧ Q (.bl (false != decide (x = .non))) H) = fun x y H Q => y = .non ∧ Q (.bl (decide (x = .non))) H := by
    funext x y H Q; simp
  rw [e]; exact op_isN
theorem op_notN' : OpR Y (compareOp .IsNot) (fun x y H Q => y = .non ∧ Q (.bl (true != decide (x = .non))) H) := by
  have e : (fun (x y : V) (H : Hp) (Q : VK) => y = .non ∧ Q (.bl (true != decide (x = .non))) H) = fun x y H Q => y = .non ∧ Q (.bl (!decide (x = .non))) H := by
    funext x y H Q; simp
  rw [e]; exact op_notN
/-- x in xs: flat things -/
def flatX : X → Bool
  | .non => true | .bl _ => true | .int _ => true | .str _ => true
  | _ => false
def toV : X → V
  | .bl b => .bl b | .int i => .int i | .str s => .str s
  | _ => .non
def fIn (n : Bool) (x y : X) (M : Mu) (Q : VKd) : Prop := match (match y with | .tup ys => some ys | _ => lstOf M y) with
  | some ys => flatX x = true ∧ ys.all flatX = true ∧ Q (.bl (n != inV (toV x) (ys.map toV))) M
  | none => False
theorem rp_flat {O B : Hp} {x : X} {v : V} (r : Rp K O B x v) (f : flatX x = true) : v = toV x ∧ flatV v = true := by
  cases x with
  | non => simp only [Rp] at r; subst r; exact ⟨rfl, rfl⟩
  | bl _ => simp only [Rp] at r; subst r; exact ⟨rfl, rfl⟩
  | int _ => simp only [Rp] at r; subst r; exact ⟨rfl, rfl⟩
  | str _ => simp only [Rp] at r; subst r; exact ⟨rfl, rfl⟩
  | _ => cases f
theorem rpa_flat {O B : Hp} : ∀ {xs : List X} {vs : List V}, RpA K O B xs vs → xs.all flatX = true → vs = xs.map toV ∧ vs.all flatV = true
  | [], _, r, _ => by simp only [RpA] at r; subst r; exact ⟨rfl, rfl⟩
  | x :: xs, _, r, f => by
    simp only [RpA] at r
    obtain ⟨v, t, e, q, u⟩ := r
    rw [List.all_cons, Bool.and_eq_true] at f
    obtain ⟨e1, f1⟩ := rp_flat q f.1
    obtain ⟨e2, f2⟩ := rpa_flat u f.2
    subst e e2
    rw [e1]
    refine ⟨rfl, ?_⟩
    rw [List.all_cons, ← e1, f1, f2]; rfl
theorem snd_in (n : Bool) : SndOp K (rIn K n) (fIn n) := fun N O M H x y v u Q Qd S rx ry h k => by
  have go : ∀ {a : Addr} {ys : List X} {vs : List V}, u = .ref a → (SqL K H a vs ∨ SqT K H a vs) → RpA K O N.B0 ys vs → (flatX x = true ∧ ys.all flatX = true ∧ Qd (.bl (n != inV (toV x) (ys.map toV))) M) → rIn K n v u H Q := fun {a ys vs} e1 q1 r1 h => by
    obtain ⟨e2, f2⟩ := rp_flat rx h.1
    obtain ⟨e3, f3⟩ := rpa_flat r1 h.2.1
    refine ⟨a, vs, e1, q1, f2, f3, ?_⟩
    refine k O M H (.bl (n != inV (toV x) (ys.map toV))) _ (Nxt.refl S) ?_ h.2.2
    rw [e2, e3]
    cases n <;> simp [Rp]
  unfold fIn at h
  split at h
  · rename_i ys e
    split at e
    · cases e
      obtain ⟨a, vs, e1, q1, r1⟩ := tup_ok S ry
      exact go e1 (.inr q1) r1 h
    · obtain ⟨a, vs, e1, q1, r1⟩ := lstOf_ok S ry e
      exact go e1 (.inl q1) r1 h
  · exact h.elim
end

/-! ### subscripts, slices -/
def fIx (x y : X) (M : Mu) (Q : VKd) : Prop := match y with
  | .int i => (match (match x with | .tup ys => some ys | _ => lstOf M x) with
    | some xs => (match atI xs i with
      | some z => Q z M
      | none => False)
    | none => False)
  | _ => False
def rIxO (K : PySem.W.Frag) : R2 := fun x y H Q => rIxL K x y H Q ∨ rIxT K x y H Q
def fSl (m : Bool) (x : X) (lo hi : Option Int) (M : Mu) (Q : VKd) : Prop := match lstOf M x with
  | some xs => newl m ((xs.drop (HT.sIx xs.length 0 lo)).take (HT.sIx xs.length xs.length hi - HT.sIx xs.length 0 lo)) M Q
  | none => False
abbrev DO := Dl → Mu → (Option Int → Mu → Prop) → Prop
def dno : DO := fun _ M Q => Q none M
def dpart (e : DE) : DO := fun δ M Q => e δ M fun x M1 => match x with
  | .int i => Q (some i) M1
  | _ => False
def dsl (m : Bool) (e : DE) (l h : DO) : DE := fun δ M Q => e δ M fun x M1 => l δ M1 fun i M2 => h δ M2 fun j M3 => fSl m x i j M3 Q
section
variable {Y : Cx} {K : PySem.W.Frag} {W : Ent → Prop} {a b e : Expr} {pos p2 : Pos} {da db : DE} {lo hi : Option Expr} {dl dh : DO}
theorem atI_rp {O B : Hp} {xs : List X} {vs : List V} {i : Int} {z : X} (r : RpA K O B xs vs) (h : atI xs i = some z) : ∃ w, atI vs i = some w ∧ Rp K O B z w := by
  unfold atI at h ⊢
  rw [← r.len] at h
  cases e : ixN vs.length i with
  | none => rw [e] at h; cases h
  | some j =>
    rw [e] at h
    exact r.get h
theorem snd_ix : SndOp K (rIxO K) fIx := fun N O M H x y v u Q Qd S rx ry h k => by
  cases y with
  | int i =>
    simp only [Rp] at ry
    simp only [fIx] at h
    split at h
    · rename_i xs e
      split at h
      · rename_i z ez
        split at e
        · cases e
          obtain ⟨a, vs, e1, q1, r1⟩ := tup_ok S rx
          obtain ⟨w, ew, rw'⟩ := atI_rp r1 ez
          exact .inr ⟨a, vs, i, w, e1, ry, q1, ew, k O M H z w (Nxt.refl S) rw' h⟩
        · obtain ⟨a, vs, e1, q1, r1⟩ := lstOf_ok S rx e
          obtain ⟨w, ew, rw'⟩ := atI_rp r1 ez
          exact .inl ⟨a, vs, i, w, e1, ry, q1, ew, k O M H z w (Nxt.refl S) rw' h⟩
      · exact h.elim
    · exact h.elim
  | _ => exact h.elim
theorem pd_ix (ha : PD Y W a da) (hb : PD Y W b db) (hs : PlainIx b := by exact fun _ _ => rfl) : PD Y W (.Subscript a b pos) (dop fIx da db) := by
  obtain ⟨t, h1, s1⟩ := ha.ex
  obtain ⟨u, h2, s2⟩ := hb.ex
  exact ⟨_, pe_ix (ix_list.or ix_tup) h1 h2 hs, snd_op s1 s2 snd_ix⟩
structure POD (Y : Cx) (W : Ent → Prop) (e : Option Expr) (d : DO) : Prop where
  ex : ∃ t, PO Y e t ∧ ∀ (N : Ent) (O : Hp) (M : Mu) (δ : Dl) (σ : L2.St) (H : Hp) (Q : Option Int → Hp → Prop) (Qd : Option Int → Mu → Prop), W N → Stt Y.K N O M H → Sl Y.K O N.B0 δ σ → d δ M Qd →
    (∀ O' M' H' i, Nxt Y.K N O M H O' M' H' → Qd i M' → Q i H') → t σ H Q
theorem pod_none : POD Y W none dno := ⟨_, po_none, fun N O M δ σ H Q Qd w S L h k => k O M H none (Nxt.refl S) h⟩
theorem pod_some (h : PD Y W e da) : POD Y W (some e) (dpart da) := by
  obtain ⟨t, h1, s1⟩ := h.ex
  refine ⟨_, po_some h1, fun N O M δ σ H Q Qd w S L h k => s1 N O M δ σ H _ _ w S L h fun O1 M1 H1 x v n r h => ?_⟩
  split at h
  · rename_i i
    simp only [Rp] at r
    exact ⟨i, r, k O1 M1 H1 (some i) n h⟩
  · exact h.elim
theorem pd_slice (m : Bool) (he : PD Y W e da) (hl : POD Y W lo dl) (hh : POD Y W hi dh) : PD Y W (.Subscript e (.Slice lo hi none p2) pos) (dsl m da dl dh) := by
  obtain ⟨t, h1, s1⟩ := he.ex
  obtain ⟨u, h2, s2⟩ := hl.ex
  obtain ⟨u3, h3, s3⟩ := hh.ex
  refine ⟨_, pe_slice sl_list h1 h2 h3, fun N O M δ σ H Q Qd w S L h k => s1 N O M δ σ H _ _ w S L h fun O1 M1 H1 x v n1 r1 h => s2 N O1 M1 δ σ H1 _ _ w n1.st (n1.sl L) h fun O2 M2 H2 i n2 h => s3 N O2 M2 δ σ H2 _ _ w n2.st ((n1.trans n2).sl L) h fun O3 M3 H3 j n3 h => ?_⟩
  unfold fSl at h
  split at h
  · rename_i xs ex
    obtain ⟨a, vs, e1, q1, r1⟩ := lstOf_ok n3.st ((n2.trans n3).rp r1) ex
    refine ⟨a, vs, e1, q1, fun p hp => ?_⟩
    refine newl_ok n3.st (zs := (xs.drop (HT.sIx xs.length 0 i)).take (HT.sIx xs.length xs.length j - HT.sIx xs.length 0 i)) ?_ h (fun O' M' H' x v n r q => k O' M' H' x v (((n1.trans n2).trans n3).trans n) r q) p hp
    unfold cutV
    rw [r1.len]
    exact (r1.drop _).take _
  · exact h.elim
end

/-! ### built-in calls -/
def fLen (xs : List X) (M : Mu) (Q : VKd) : Prop := match xs with
  | [x] => (match (match x with | .tup ys => some ys | _ => lstOf M x) with
    | some ys => Q (.int ys.length) M
    | none => False)
  | _ => False
def fAbs (xs : List X) (M : Mu) (Q : VKd) : Prop := match xs with
  | [.int i] => Q (.int (if i < 0 then -i else i)) M
  | _ => False
def fInt (xs : List X) (M : Mu) (Q : VKd) : Prop := match xs with
  | [.int i] => Q (.int i) M
  | _ => False
def fMin2 (xs : List X) (M : Mu) (Q : VKd) : Prop := match xs with
  | [.int i, .int j] => Q (.int (if j < i then j else i)) M
  | _ => False
def fList (m : Bool) (xs : List X) (M : Mu) (Q : VKd) : Prop := match xs with
  | [x] => (match (match x with | .tup ys => some ys | _ => lstOf M x) with
    | some ys => newl m ys M Q
    | none => False)
  | _ => False
section
variable {Y : Cx} {K : PySem.W.Frag}
theorem rpa1 {O B : Hp} {x : X} {vs : List V} (r : RpA K O B [x] vs) : ∃ v, vs = [v] ∧ Rp K O B x v := by
  simp only [RpA] at r
  obtain ⟨v, t, e, q, rfl⟩ := r
  exact ⟨v, e, q⟩
theorem rpa2 {O B : Hp} {x y : X} {vs : List V} (r : RpA K O B [x, y] vs) : ∃ v w, vs = [v, w] ∧ Rp K O B x v ∧ Rp K O B y w := by
  simp only [RpA] at r
  obtain ⟨v, t, e, q, w, t2, rfl, q2, rfl⟩ := r
  exact ⟨v, w, e, q, q2⟩
theorem snd_len : SndC K (fun xs H Q => ∃ p ys, xs = [.ref p] ∧ (SqL K H p ys ∨ SqT K H p ys) ∧ Q (.int ys.length) H) fLen := fun N O M H xs vs Q Qd S r h k => by
  match xs, h with
  | [x], h =>
    obtain ⟨v, e, q⟩ := rpa1 r
    simp only [fLen] at h
    split at h
    · rename_i ys ey
      split at ey
      · cases ey
        obtain ⟨a, ws, e1, q1, r1⟩ := tup_ok S q
        exact ⟨a, ws, by rw [e, e1], .inr q1, k O M H _ _ (Nxt.refl S) (by simp [Rp, r1.len]) h⟩
      · obtain ⟨a, ws, e1, q1, r1⟩ := lstOf_ok S q ey
        exact ⟨a, ws, by rw [e, e1], .inl q1, k O M H _ _ (Nxt.refl S) (by simp [Rp, r1.len]) h⟩
    · exact h.elim
theorem snd_abs : SndC K (fun xs H Q => ∃ i, xs = [.int i] ∧ Q (.int (if i < 0 then -i else i)) H) fAbs := fun N O M H xs vs Q Qd S r h k => by
  match xs, h with
  | [.int i], h =>
    obtain ⟨v, e, q⟩ := rpa1 r
    simp only [Rp] at q
    exact ⟨i, by rw [e, q], k O M H _ _ (Nxt.refl S) (by simp only [Rp]) h⟩
theorem snd_int : SndC K (fun xs H Q => (∃ i, xs = [.int i] ∧ Q (.int i) H) ∨ ∃ k, xs = [.bl k] ∧ Q (.int (if k then 1 else 0)) H) fInt := fun N O M H xs vs Q Qd S r h k => by
  match xs, h with
  | [.int i], h =>
    obtain ⟨v, e, q⟩ := rpa1 r
    simp only [Rp] at q
    exact .inl ⟨i, by rw [e, q], k O M H _ _ (Nxt.refl S) (by simp only [Rp]) h⟩
theorem snd_min2 : SndC K (fun xs H Q => ∃ i j, xs = [.int i, .int j] ∧ Q (.int (if j < i then j else i)) H) fMin2 := fun N O M H xs vs Q Qd S r h k => by
  match xs, h with
  | [.int i, .int j], h =>
    obtain ⟨v, w, e, q, q2⟩ := rpa2 r
    simp only [Rp] at q q2
    exact ⟨i, j, by rw [e, q, q2], k O M H _ _ (Nxt.refl S) (by simp only [Rp]) h⟩
theorem snd_list (m : Bool) : SndC K (fun xs H Q => ∃ p ys, xs = [.ref p] ∧ (SqL K H p ys ∨ SqT K H p ys) ∧ ∀ l, H l = none → Q (.ref l) (upd H l (.lst ys))) (fList m) := fun N O M H xs vs Q Qd S r h k => by
  match xs, h with
  | [x], h =>
    obtain ⟨v, e, q⟩ := rpa1 r
    simp only [fList] at h
    split at h
    · rename_i ys ey
      split at ey
      · cases ey
        obtain ⟨a, ws, e1, q1, r1⟩ := tup_ok S q
        exact ⟨a, ws, by rw [e, e1], .inr q1, newl_ok S r1 h k⟩
      · obtain ⟨a, ws, e1, q1, r1⟩ := lstOf_ok S q ey
        exact ⟨a, ws, by rw [e, e1], .inl q1, newl_ok S r1 h k⟩
    · exact h.elim
end

/-! ### methods of lists -/
def dbm (f : X → List X → Mu → VKd → Prop) (o : DE) (a : DA) : DE := fun δ M Q => o δ M fun x M1 => (lstOf M1 x).isSome ∧ a δ M1 fun xs M2 => f x xs M2 Q
def SndM (K : PySem.W.Frag) (r : V → List V → Hp → VK → Prop) (f : X → List X → Mu → VKd → Prop) : Prop := ∀ (N : Ent) (O : Hp) (M : Mu) (H : Hp) (x : X) (v : V) (xs : List X) (vs : List V) (Q : VK) (Qd : VKd), Stt K N O M H → Rp K O N.B0 x v → RpA K O N.B0 xs vs → f x xs M Qd →
  (∀ O' M' H' z w, Nxt K N O M H O' M' H' → Rp K O' N.B0 z w → Qd z M' → Q w H') → r v vs H Q
def fAppend (x : X) (xs : List X) (M : Mu) (Q : VKd) : Prop := match x, xs with
  | .ptr p, [y] => (match M p with
    | some (.lst zs) => zs.length < sizeLine ∧ Q .non (mset M p (.lst (zs ++ [y])))
    | _ => False)
  | _, _ => False
def fPop (x : X) (xs : List X) (M : Mu) (Q : VKd) : Prop := match x, xs with
  | .ptr p, [] => (match M p with
    | some (.lst zs) => (match zs[zs.length - 1]? with
      | some y => Q y (mset M p (.lst zs.dropLast))
      | none => False)
    | _ => False)
  | _, _ => False
section
variable {Y : Cx} {K : PySem.W.Frag} {W : Ent → Prop} {o e : Expr} {es : List Expr} {apos cpos : Pos} {do' : DE} {dr : DA}
theorem snd_bm {t : TE} {u : TA} {r : V → List V → Hp → VK → Prop} {f : X → List X → Mu → VKd → Prop} (h1 : SndE K W t do') (h2 : SndA K W u dr) (hr : SndM K r f) : SndE K W (tBM K "list" r t u) (dbm f do' dr) := fun N O M δ σ H Q Qd w S L h k =>
  h1 N O M δ σ H _ _ w S L h fun O1 M1 H1 x v n1 r1 h => by
    obtain ⟨hs, h⟩ := h
    obtain ⟨ys, ey⟩ := Option.isSome_iff_exists.mp hs
    obtain ⟨a, ws, e1, q1, _⟩ := lstOf_ok n1.st r1 ey
    refine ⟨by rw [e1]; exact .inl ⟨rfl, ws, q1⟩, ?_⟩
    exact h2 N O1 M1 δ σ H1 _ _ w n1.st (n1.sl L) h fun O2 M2 H2 xs vs n2 r2 h => hr N O2 M2 H2 x v xs vs _ _ n2.st (n2.rp r1) r2 h fun O3 M3 H3 z w3 n3 r3 h => k O3 M3 H3 z w3 ((n1.trans n2).trans n3) r3 h
theorem snd_append : SndM K rAppend fAppend := fun N O M H x v xs vs Q Qd S rx r h k => by
  cases x with
  | ptr p =>
    match xs, h with
    | [y], h =>
      simp only [fAppend] at h
      split at h
      · rename_i zs e
        obtain ⟨v1, e1, ry⟩ := rpa1 r
        simp only [Rp] at rx
        obtain ⟨ws, hp, rr⟩ := S.cl p _ e
        have S' := S.write e (rr.append (RpA.cons ry RpA.nil))
        exact ⟨p, ws, v1, rx, e1, hp, by rw [rr.len]; exact h.1, k O _ _ .non _ ⟨S', Ex.refl _⟩ (by simp only [Rp]) h.2⟩
      · exact h.elim
  | _ => exact h.elim
theorem snd_pop : SndM K rPop fPop := fun N O M H x v xs vs Q Qd S rx r h k => by
  cases x with
  | ptr p =>
    match xs, h with
    | [], h =>
      simp only [fPop] at h
      split at h
      · rename_i zs e
        split at h
        · rename_i y ey
          simp only [RpA] at r
          simp only [Rp] at rx
          obtain ⟨ws, hp, rr⟩ := S.cl p _ e
          obtain ⟨w, ew, rw'⟩ := rr.get ey
          have S' := S.write e rr.dropLast
          exact ⟨p, ws, w, rx, r, hp, by rw [rr.len]; exact ew, k O _ _ y w ⟨S', Ex.refl _⟩ rw' h⟩
        · exact h.elim
      · exact h.elim
  | _ => exact h.elim
theorem pd_bm {id : String} {name : Str} {r : V → List V → Hp → VK → Prop} {f : X → List X → Mu → VKd → Prop} (slot : Slot "list" name id) (hty : typeOf (.builtin id) = pure (.type "method_descriptor")) (hm : MtR Y id r) (hr : SndM Y.K r f) (ho : PD Y W o do') (ha : PAD Y W (e :: es) dr)
    (hbase : attributeBase o name Y.env (eval o Y.env) = eval o Y.env := by rfl)
    (hfew : ((backTo cpos (starEach (e :: es) Y.env)).all (fun x => !x.1) && (backToKw cpos (keywordEach [] Y.env)).all (fun x => x.1.isSome)
      && decide ((e :: es).length + ([] : List Keyword).length + (if ([] : List Keyword).isEmpty then 0 else 1) < 30)) = true := by rfl)
    (hline : (apos.endLine == cpos.line) = true := by rfl) (hs : starEach (e :: es) Y.env = (false, eval e Y.env) :: starEach es Y.env := by rfl) (hplain : (backTo cpos (starEach es Y.env)).any (·.1) = false := by rfl) :
    PD Y W (.Call (.Attribute o name apos) (e :: es) [] cpos) (dbm f do' dr) := by
  obtain ⟨t, h1, s1⟩ := ho.ex
  obtain ⟨u, h2, s2⟩ := ha.ex
  exact ⟨_, pe_bm PySem.F.plainAttrs_list slot hty hm h1 h2 hbase hfew hline hs hplain, snd_bm s1 s2 hr⟩
theorem pd_bm0 {id : String} {name : Str} {r : V → List V → Hp → VK → Prop} {f : X → List X → Mu → VKd → Prop} (slot : Slot "list" name id) (hty : typeOf (.builtin id) = pure (.type "method_descriptor")) (hm : MtR Y id r) (hr : SndM Y.K r f) (ho : PD Y W o do')
    (hbase : attributeBase o name Y.env (eval o Y.env) = eval o Y.env := by rfl) (hline : (apos.endLine == cpos.line) = true := by rfl) :
    PD Y W (.Call (.Attribute o name apos) [] [] cpos) (dbm f do' dnil) := by
  obtain ⟨t, h1, s1⟩ := ho.ex
  refine ⟨_, pe_bm0 PySem.F.plainAttrs_list slot hty hm h1 hbase hline, fun N O M δ σ H Q Qd w S L h k => ?_⟩
  exact snd_bm s1 snd_nil hr N O M δ σ H Q Qd w S L h k
end

/-! ### what is walked -/
def dirng1 (a : DA) : DI := fun δ M Q => a δ M fun xs M1 => match xs with
  | [.int j] => j < 2 ^ 60 ∧ -(2 ^ 60) < j ∧ Q ((List.range j.toNat).map fun i => .int (i : Nat)) (fun _ => True) M1
  | _ => False
def dirng2 (a : DA) : DI := fun δ M Q => a δ M fun xs M1 => match xs with
  | [.int i, .int j] => (j < 2 ^ 60 ∧ -(2 ^ 60) < j ∧ i < 2 ^ 60 ∧ -(2 ^ 60) < i) ∧ Q ((List.range (j - i).toNat).map fun k => .int (i + (k : Nat))) (fun _ => True) M1
  | _ => False
/-- a list stays as it is where it is mutable -/
def stays (x : X) (xs : List X) (M : Mu) : Prop := match x with
  | .ptr p => M p = some (.lst xs)
  | _ => True
def dilst (e : DE) : DI := fun δ M Q => e δ M fun x M1 => match lstOf M1 x with
  | some xs => Q xs (stays x xs) M1
  | none => False
def ditup (e : DE) : DI := fun δ M Q => e δ M fun x M1 => match x with
  | .tup xs => Q xs (fun _ => True) M1
  | _ => False
def enumX (n : Nat) : List X → List X
  | [] => []
  | x :: xs => .tup [.int n, x] :: enumX (n + 1) xs
def dienum (a : DA) : DI := fun δ M Q => a δ M fun xs M1 => match xs with
  | [x] => (match lstOf M1 x with
    | some ys => Q (enumX 0 ys) (stays x ys) M1
    | none => False)
  | _ => False
def zipX : List X → List X → List X
  | x :: xs, y :: ys => .tup [x, y] :: zipX xs ys
  | _, _ => []
def dizip (a : DA) : DI := fun δ M Q => a δ M fun xs M1 => match xs with
  | [x, y] => (match lstOf M1 x, lstOf M1 y with
    | some xs, some ys => Q (zipX xs ys) (fun M => stays x xs M ∧ stays y ys M) M1
    | _, _ => False)
  | _ => False
section
variable {Y : Cx} {K : PySem.W.Frag} {W : Ent → Prop} {tg a b : Expr} {es : List Expr} {p pos tpos : Pos} {da : DE} {dr : DA} {kk : Nat}
theorem itok_rng {N : Ent} {O H : Hp} {M : Mu} (lo : Int) (n : Nat) : ItOk K N O M H (Itr lo n) ((List.range n).map fun k => .int (lo + (k : Nat))) (fun _ => True) := fun N O1 M1 H1 i _ S1 eo _ => by
  refine ⟨fun h => by
    have h' : n ≤ i := by simpa using h
    exact h', fun x e => ?_⟩
  have hi : i < n := by
    have := (List.getElem?_eq_some_iff.mp e).1
    simpa using this
  have ex : x = .int (lo + i) := by
    rw [List.getElem?_map, List.getElem?_range hi] at e
    exact (Option.some.inj e).symm
  refine ⟨hi, fun v H2 y => ?_⟩
  obtain ⟨rfl, rfl⟩ := y
  exact ⟨O1, Nxt.refl S1, by rw [ex]; simp only [Rp]⟩
theorem pid_range1 (hg : Gl Y "range") (hm : Y.mg "range" = none) (ha : PAD Y W [a] dr) (hs : starEach [a] Y.env = [(false, eval a Y.env)] := by rfl) : PID Y W tg (.Call (.Name "range" p) [a] [] pos) (dirng1 dr) := by
  obtain ⟨t, h1, s1⟩ := ha.ex
  refine ⟨_, pi_range1 hg hm h1 hs, fun N O M δ σ H Q Qd w S L h k => s1 N O M δ σ H _ _ w S L h fun O1 M1 H1 xs vs n1 r1 h => ?_⟩
  match xs, h with
  | [.int j], h =>
    obtain ⟨v, e, q⟩ := rpa1 r1
    simp only [Rp] at q
    subst q
    obtain ⟨h1, h2, h3⟩ := h
    refine ⟨j, e, by omega, by omega, k O1 M1 H1 _ _ _ n1 (itok_rng 0 j.toNat) ?_⟩
    simpa using h3
theorem pid_range2 (hg : Gl Y "range") (hm : Y.mg "range" = none) (ha : PAD Y W [a, b] dr) (hs : starEach [a, b] Y.env = [(false, eval a Y.env), (false, eval b Y.env)] := by rfl) (hs2 : starEach [b] Y.env = [(false, eval b Y.env)] := by rfl) : PID Y W tg (.Call (.Name "range" p) [a, b] [] pos) (dirng2 dr) := by
  obtain ⟨t, h1, s1⟩ := ha.ex
  refine ⟨_, pi_range2 hg hm h1 hs hs2, fun N O M δ σ H Q Qd w S L h k => s1 N O M δ σ H _ _ w S L h fun O1 M1 H1 xs vs n1 r1 h => ?_⟩
  match xs, h with
  | [.int i, .int j], h =>
    obtain ⟨v, v2, e, q, q2⟩ := rpa2 r1
    simp only [Rp] at q q2
    subst q q2
    obtain ⟨⟨h1, h2, h3, h4⟩, h5⟩ := h
    exact ⟨i, j, e, ⟨by omega, by omega, by omega, by omega⟩, k O1 M1 H1 _ _ _ n1 (itok_rng i (j - i).toNat) h5⟩
/-- the list of x at a later state -/
theorem stays_ok {N N1 : Ent} {O O1 H H1 : Hp} {M M1 : Mu} {x : X} {v : V} {xs : List X} (S : Stt K N O M H) (r : Rp K O N.B0 x v) (h : lstOf M x = some xs) (eN : N1.B0 = N.B0) (S1 : Stt K N1 O1 M1 H1) (eo : Ex O O1) (c : stays x xs M1) :
    ∃ a vs, v = .ref a ∧ SqL K H1 a vs ∧ RpA K O1 N1.B0 xs vs := by
  have r1 := r.mono eo (Ex.refl _)
  rw [← eN] at r1
  refine lstOf_ok S1 r1 ?_
  cases x with
  | ptr p => simp only [stays] at c; simp only [lstOf, c]
  | lst b ys => exact h
  | scr ns => exact h
  | _ => simp only [lstOf] at h; cases h
theorem sql_one {O H : Hp} {M : Mu} {N : Ent} {a : Addr} {xs ys : List V} (I : True) : True := trivial
theorem pid_list (ha : PD Y W a da) : PID Y W tg a (dilst da) := by
  obtain ⟨t, h1, s1⟩ := ha.ex
  refine ⟨_, pi_list h1, fun N O M δ σ H Q Qd w S L h k => s1 N O M δ σ H _ _ w S L h fun O1 M1 H1 x v n1 r1 h => ?_⟩
  split at h
  · rename_i xs ex
    obtain ⟨p, vs, e, q, r⟩ := lstOf_ok n1.st r1 ex
    refine ⟨p, e, ⟨vs, q⟩, k O1 M1 H1 _ xs _ n1 (fun N2 O2 M2 H2 i eN S2 eo c => ?_) h⟩
    obtain ⟨p', ws, e', q', r'⟩ := stays_ok n1.st r1 ex eN S2 eo c
    rw [e] at e'
    cases e'
    refine ⟨fun hi => ⟨ws, q', by rw [r'.len]; exact hi⟩, fun y ey => ?_⟩
    obtain ⟨w, ew, rw'⟩ := r'.get ey
    refine ⟨⟨ws, w, q', ew⟩, fun v2 H3 hy => ?_⟩
    obtain ⟨rfl, fy⟩ := hy
    have ev : v2 = w := Option.some.inj ((fy ws q').symm.trans ew)
    subst ev
    exact ⟨O2, Nxt.refl S2, rw'⟩
  · exact h.elim
theorem pid_tup (ha : PD Y W a da) : PID Y W tg a (ditup da) := by
  obtain ⟨t, h1, s1⟩ := ha.ex
  refine ⟨_, pi_tup h1, fun N O M δ σ H Q Qd w S L h k => s1 N O M δ σ H _ _ w S L h fun O1 M1 H1 x v n1 r1 h => ?_⟩
  split at h
  · rename_i xs
    obtain ⟨p, vs, e, q, r⟩ := tup_ok n1.st r1
    refine ⟨p, e, ⟨vs, q⟩, k O1 M1 H1 _ xs _ n1 (fun N2 O2 M2 H2 i eN S2 eo _ => ?_) h⟩
    obtain ⟨p', ws, e', q', r'⟩ := tup_ok S2 (by rw [eN]; exact r1.mono eo (Ex.refl _))
    rw [e] at e'
    cases e'
    refine ⟨fun hi => ⟨ws, q', by rw [r'.len]; exact hi⟩, fun y ey => ?_⟩
    obtain ⟨w, ew, rw'⟩ := r'.get ey
    refine ⟨⟨ws, w, q', ew⟩, fun v2 H3 hy => ?_⟩
    obtain ⟨rfl, fy⟩ := hy
    have ev : v2 = w := Option.some.inj ((fy ws q').symm.trans ew)
    subst ev
    exact ⟨O2, Nxt.refl S2, rw'⟩
  · exact h.elim
theorem enumX_get : ∀ {xs : List X} {n i : Nat} {y : X}, (enumX n xs)[i]? = some y → ∃ x, xs[i]? = some x ∧ y = .tup [.int (n + i : Nat), x]
  | [], _, _, _, h => by simp [enumX] at h
  | x :: xs, n, 0, y, h => by
    simp [enumX] at h
    exact ⟨x, rfl, by rw [← h]; simp⟩
  | x :: xs, n, i + 1, y, h => by
    have h' : (enumX (n + 1) xs)[i]? = some y := by simpa [enumX] using h
    obtain ⟨z, e1, e2⟩ := enumX_get h'
    refine ⟨z, by simpa using e1, ?_⟩
    rw [e2, show n + 1 + i = n + (i + 1) by omega]
theorem enumX_len : ∀ (xs : List X) (n : Nat), (enumX n xs).length = xs.length
  | [], _ => rfl
  | x :: xs, n => by simp [enumX, enumX_len xs]
theorem zipX_get : ∀ {xs ys : List X} {i : Nat} {z : X}, (zipX xs ys)[i]? = some z → ∃ x y, xs[i]? = some x ∧ ys[i]? = some y ∧ z = .tup [x, y]
  | [], _, _, _, h => by simp [zipX] at h
  | _ :: _, [], _, _, h => by simp [zipX] at h
  | x :: xs, y :: ys, 0, z, h => by
    simp [zipX] at h
    exact ⟨x, y, rfl, rfl, h.symm⟩
  | x :: xs, y :: ys, i + 1, z, h => by
    have h' : (zipX xs ys)[i]? = some z := by simpa [zipX] using h
    obtain ⟨a, b, e1, e2, e3⟩ := zipX_get h'
    exact ⟨a, b, by simpa using e1, by simpa using e2, e3⟩
theorem zipX_len : ∀ (xs ys : List X), (zipX xs ys).length = min xs.length ys.length
  | [], _ => by simp [zipX]
  | _ :: _, [] => by simp [zipX]
  | x :: xs, y :: ys => by
    rw [zipX, List.length_cons, zipX_len xs ys, List.length_cons, List.length_cons, Nat.succ_min_succ]
theorem new_pair {N : Ent} {O1 H1 : Hp} {M1 : Mu} {x y : X} {v w : V} {T : Addr} (S : Stt K N O1 M1 H1) (hT : H1 T = none) (rx : Rp K O1 N.B0 x v) (ry : Rp K O1 N.B0 y w) :
    ∃ O2, Nxt K N O1 M1 H1 O2 M1 (upd H1 T (.tup [v, w])) ∧ Rp K O2 N.B0 (.tup [x, y]) (.ref T) := by
  obtain ⟨S', eo, e⟩ := S.own hT (.tup [v, w])
  refine ⟨_, ⟨S', eo⟩, ?_⟩
  simp only [Rp]
  exact ⟨T, _, rfl, .inl (.inl e), RpA.cons (rx.mono eo (Ex.refl _)) (RpA.cons (ry.mono eo (Ex.refl _)) RpA.nil)⟩
theorem pid_enum {elts : List Expr} (hg : Gl Y "enumerate") (hm : Y.mg "enumerate" = none) (ha : PAD Y W [a] dr) (hs : starEach [a] Y.env = [(false, eval a Y.env)] := by rfl) : PID Y W (.Tuple elts kk tpos) (.Call (.Name "enumerate" p) [a] [] pos) (dienum dr) := by
  obtain ⟨t, h1, s1⟩ := ha.ex
  refine ⟨_, pi_enum hg hm h1 hs, fun N O M δ σ H Q Qd w S L h k => s1 N O M δ σ H _ _ w S L h fun O1 M1 H1 xs vs n1 r1 h => ?_⟩
  match xs, h with
  | [x], h =>
    obtain ⟨v, e0, r1⟩ := rpa1 r1
    simp only at h
    split at h
    · rename_i ys ex
      obtain ⟨p', vs', e, q, r⟩ := lstOf_ok n1.st r1 ex
      subst e
      refine ⟨p', vs', e0, q, k O1 M1 H1 _ (enumX 0 ys) _ n1 (fun N2 O2 M2 H2 i eN S2 eo c => ?_) h⟩
      obtain ⟨p2, ws, e', q', r'⟩ := stays_ok n1.st r1 ex eN S2 eo c
      cases e'
      refine ⟨fun hi => ⟨ws, q', by rw [r'.len]; rw [enumX_len] at hi; exact hi⟩, fun y ey => ?_⟩
      obtain ⟨z, ez, rfl⟩ := enumX_get ey
      obtain ⟨w, ew, rw'⟩ := r'.get ez
      refine ⟨⟨ws, w, q', ew⟩, fun v2 H3 hy => ?_⟩
      obtain ⟨T, x2, rfl, nT, rfl, fy⟩ := hy
      have ev : x2 = w := Option.some.inj ((fy ws q').symm.trans ew)
      subst ev
      have r0 : Rp Y.K O2 N2.B0 (.int ((0 + i : Nat) : Int)) (.int (i : Int)) := by simp [Rp]
      exact new_pair S2 nT r0 rw'
    · exact h.elim
theorem pid_zip {elts : List Expr} (hg : Gl Y "zip") (hm : Y.mg "zip" = none) (ha : PAD Y W [a, b] dr)
    (hs : starEach [a, b] Y.env = (false, eval a Y.env) :: starEach [b] Y.env := by rfl) (hpl : (backTo pos (starEach [b] Y.env)).any (·.1) = false := by rfl) : PID Y W (.Tuple elts kk tpos) (.Call (.Name "zip" p) [a, b] [] pos) (dizip dr) := by
  obtain ⟨t, h1, s1⟩ := ha.ex
  refine ⟨_, pi_zip hg hm h1 hs hpl, fun N O M δ σ H Q Qd w S L h k => s1 N O M δ σ H _ _ w S L h fun O1 M1 H1 xs vs n1 r1 h => ?_⟩
  match xs, h with
  | [x, y], h =>
    obtain ⟨v, v', e0, r1, r2⟩ := rpa2 r1
    simp only at h
    split at h
    · rename_i xs ys ex ey
      obtain ⟨p1, vs1, e1, q1, _⟩ := lstOf_ok n1.st r1 ex
      obtain ⟨p2, vs2, e2, q2, _⟩ := lstOf_ok n1.st r2 ey
      subst e1 e2
      refine ⟨p1, p2, vs1, vs2, e0, q1, q2, k O1 M1 H1 _ (zipX xs ys) _ n1 (fun N2 O2 M2 H2 i eN S2 eo c => ?_) h⟩
      obtain ⟨p3, ws, e3, q3, r3⟩ := stays_ok n1.st r1 ex eN S2 eo c.1
      obtain ⟨p4, ws', e4, q4, r4⟩ := stays_ok n1.st r2 ey eN S2 eo c.2
      cases e3
      cases e4
      refine ⟨fun hi => ⟨ws, ws', q3, q4, ?_⟩, fun z ez => ?_⟩
      · rw [r3.len, r4.len]
        rw [zipX_len] at hi
        omega
      · obtain ⟨z1, z2, ez1, ez2, rfl⟩ := zipX_get ez
        obtain ⟨w1, ew1, rw1⟩ := r3.get ez1
        obtain ⟨w2, ew2, rw2⟩ := r4.get ez2
        refine ⟨⟨ws, ws', w1, w2, q3, q4, ew1, ew2⟩, fun v2 H3 hy => ?_⟩
        obtain ⟨T, x2, y2, rfl, nT, rfl, fx, fy⟩ := hy
        have ev : x2 = w1 := Option.some.inj ((fx ws q3).symm.trans ew1)
        have ev2 : y2 = w2 := Option.some.inj ((fy ws' q4).symm.trans ew2)
        subst ev ev2
        exact new_pair S2 nT rw1 rw2
    · exact h.elim
end

/-! ### while -/
def dwhile (c : DT) (b : DS) : DS := fun DD δ M => ∃ Wd : Nat → Dl → Mu → Prop, (∃ m, Wd m δ M) ∧ ∀ m δ M, Wd m δ M → c δ M fun k M1 => match k with
  | true => ∃ Nd : Dl → Mu → Prop, (∀ δ' M', Nd δ' M' → ∃ m', m' < m ∧ Wd m' δ' M') ∧ b { DD with nx := Nd, ct := Nd, bk := DD.nx } δ M1
  | false => DD.nx δ M1
section
variable {Y : Cx} {W : Ent → Prop} {c : Expr} {body : List Stmt} {pos : Pos} {d : DS} {dt : DT}
theorem psd_while (hp : PassesOwn (model Y.prog Y.w) Y.A Y.env Y.xe) (hc : PTD Y W c dt) (hb : PSsD Y W body d) : PSD Y W (.While c body [] pos) (dwhile dt d) := by
  obtain ⟨t1, h1, s1⟩ := hc.ex
  obtain ⟨t2, h2, s2⟩ := hb.ex
  refine ⟨_, ps_while hp h1 h2, fun N D DD w C O M δ σ H S L h => ?_⟩
  obtain ⟨Wd, ⟨m0, w0⟩, turn⟩ := h
  refine ⟨fun m σ' H' => ∃ O' M' δ', Stt Y.K N O' M' H' ∧ Sl Y.K O' N.B0 δ' σ' ∧ Wd m δ' M', ⟨m0, O, M, δ, S, L, w0⟩, ?_⟩
  rintro m σ' H' ⟨O', M', δ', S', L', w'⟩
  refine s1 N O' M' δ' σ' H' _ _ w S' L' (turn m δ' M' w') fun O1 M1 H1 k n1 q => ?_
  cases k with
  | true =>
    obtain ⟨Nd, hN, q⟩ := q
    refine ⟨fun σ2 H2 => ∃ O2 M2 δ2, Stt Y.K N O2 M2 H2 ∧ Sl Y.K O2 N.B0 δ2 σ2 ∧ Nd δ2 M2, ?_, ?_⟩
    · rintro σ2 H2 ⟨O2, M2, δ2, S2, L2, n2⟩
      obtain ⟨m', hm, w2⟩ := hN δ2 M2 n2
      exact ⟨m', hm, O2, M2, δ2, S2, L2, w2⟩
    · refine s2 N { D with nx := fun σ2 H2 => ∃ O2 M2 δ2, Stt Y.K N O2 M2 H2 ∧ Sl Y.K O2 N.B0 δ2 σ2 ∧ Nd δ2 M2, ct := fun σ2 H2 => ∃ O2 M2 δ2, Stt Y.K N O2 M2 H2 ∧ Sl Y.K O2 N.B0 δ2 σ2 ∧ Nd δ2 M2, bk := D.nx } { DD with nx := Nd, ct := Nd, bk := DD.nx } w (Cmp.mk ?_ C.rt C.nx ?_) O1 M1 δ' σ' H1 n1.st (n1.sl L') q
      · exact fun O2 M2 δ2 σ2 H2 S2 L2 q2 => ⟨O2, M2, δ2, S2, L2, q2⟩
      · exact fun O2 M2 δ2 σ2 H2 S2 L2 q2 => ⟨O2, M2, δ2, S2, L2, q2⟩
  | false => exact C.nx O1 M1 δ' σ' H1 n1.st (n1.sl L') q
end
end DL

set_option maxRecDepth 100000
/-! DLz: promises of defs that are called with no repr under way (repr asks what is under way). -/
namespace DL
open PySem PySem.Spec PyProof.Rows L2
/-- room, and no guard on the stack -/
structure RoomG (gm : Bool) (k : Nat) (A : Around) : Prop extends Room k A where
  gd' : gm = true → A.guards = some []
theorem RoomG.gd {k : Nat} {A : Around} (r : RoomG true k A) : A.guards = some [] := r.gd' rfl
theorem RoomG.of {k : Nat} {A : Around} (r : Room k A) : RoomG false k A := ⟨r, fun z => nomatch z⟩
theorem RoomG.mono {gm : Bool} {j k : Nat} {A : Around} (r : RoomG gm k A) (h : j ≤ k) : RoomG gm j A := ⟨r.toRoom.mono h, r.gd'⟩
theorem RoomG.plain {gm : Bool} {j k : Nat} {A : Around} (r : RoomG gm k A) (h : j ≤ k) : RoomG false j A := .of (r.toRoom.mono h)
theorem RoomG.deeper {gm : Bool} {k : Nat} {A : Around} (r : RoomG gm (k + 1) A) (env : Env) : RoomG gm k (A.deeper env) := ⟨r.toRoom.deeper env, r.gd'⟩
structure FnOkG (gm : Bool) (P : Program) (w : World) (K : PySem.W.Frag) (mg : Str → Option Value) (base : Heap) (CX : CXT) (k : Nat) (f : Addr) (fd : FuncData) (ps : List Str) (sp : Sp) : Prop where
  len : ∀ vs H Q E, sp vs H Q E → vs.length = ps.length
  run : ∀ (A : Around) (outer : List Env) (s : Shared) (H : Hp) (args : Args) (us : List Value) (vs : List V) (Q : VK) (E : XK), RoomG gm k A → Env0 P w K mg base A outer s H → BindsTo s fd args (ps.zip us) → Vals vs us → sp vs H Q E →
    codeAny (model P w) A (.call (.ref f) args) (CR CX outer P w H s Q E) s
section
variable {CX : CXT} {P : Program} {w : World} {K : PySem.W.Frag} {mg : Str → Option Value} {base : Heap} {k : Nat} {f : Addr} {fd : FuncData} {ps : List Str} {sp sp' : Sp} {gm : Bool}
theorem FnOkG.of (F : FnOk P w K mg base CX k f fd ps sp) : FnOkG gm P w K mg base CX k f fd ps sp := ⟨F.len, fun A outer s H args us vs Q E hr => F.run A outer s H args us vs Q E hr.toRoom⟩
theorem FnOkG.plain (F : FnOkG false P w K mg base CX k f fd ps sp) : FnOk P w K mg base CX k f fd ps sp := ⟨F.len, fun A outer s H args us vs Q E hr => F.run A outer s H args us vs Q E (.of hr)⟩
theorem FnOkG.imp (F : FnOkG gm P w K mg base CX k f fd ps sp) (h : ∀ vs H Q E, sp' vs H Q E → sp vs H Q E) : FnOkG gm P w K mg base CX k f fd ps sp' :=
  ⟨fun vs H Q E q => F.len vs H Q E (h _ _ _ _ q), fun A outer s H args us vs Q E hr he hb hv hs => F.run A outer s H args us vs Q E hr he hb hv (h _ _ _ _ hs)⟩
/-- a def by its body, no guard on the stack -/
theorem fn_ofG {name qual : Str} {params : Arguments} {body : List Stmt} {scope : Scope} {dV kV doc pm cdv ct oc : Value} {an od : Option Addr} {osl : Array (Option Value)} {N : List Str}
    (lk : K.lookup f = some ⟨oc, od, .func (PySem.W.fnOf name qual params body scope dV kV doc pm an cdv ct), osl⟩) (hcd : PySem.W.codeIn K cdv qual = true) (S : FnScope N ps scope)
    (len : ∀ vs H Q E, sp vs H Q E → vs.length = ps.length)
    (hbody : ∀ (A : Around) (outer : List Env) (s : Shared) (H : Hp) (vs : List V) (Q : VK) (E : XK), RoomG gm k (A.deeper (envOfC qual scope s.heap.objs.size f cdv)) → sp vs H Q E →
      ∃ t, PSs (cxOf CX P w K mg base N qual scope f cdv A outer s H E) body t ∧ t { nx := fun _ H' => Q .non H', rt := Q } (start N vs) H) :
    FnOkG gm P w K mg base CX (k + 1) f (PySem.W.fnOf name qual params body scope dV kV doc pm an cdv ct) ps sp := by
  refine ⟨len, fun A outer s H args us vs Q E hr e0 hb r hsp => ?_⟩
  have keepB : ∀ b o, base.get? b = some o → s.heap.get? b = some o := fun b o e => (e0.bs b o e).1
  have KX : K.In s.heap := e0.mod.kin.keeps keepB
  have hkind : ∀ y ∈ ps.zip us, scope.names.lookup y.1 = some .local ∨ (scope.names.lookup y.1 = some .cell ∧ ((cellsFrom (s.heap.objs.size + 1) scope.names []).lookup y.1).isSome = true) := fun ⟨n, v⟩ hy =>
    (S.par n (List.of_mem_zip hy).1).imp id fun q => ⟨q, PySem.W.cellsFrom_some _ _ _ (.inl q)⟩
  refine codeAny_call_function hr.depth (KX _ _ lk) rfl S.co S.gen rfl (PySem.W.codeRec_of KX hcd) (hb _ _ _ _ (wpAny_newFunctionEnv_cells S.kind hkind fun env he s1 x => ?_))
  subst he
  refine ⟨(e0.mod.nolimit.keeps keepB).keeps x.toInCall.keep, codeAny_func ?_⟩
  obtain ⟨t, ht, hq⟩ := hbody A outer s H vs Q E (hr.deeper _) hsp
  have I : Inv (cxOf CX P w K mg base N qual scope f cdv A outer s H E) [] (start N vs) H s1 := inv_start S hr.hd e0 (len _ _ _ _ hsp) r x
  refine wpAny_mono (ht.run [] s1 (start N vs) H _ I hq) (fun fl s' hs => ?_) fun e s' hs => hs
  match fl, hs with
  | .ret u, ⟨v, σ', H', J, rv, q⟩ => exact (⟨v, H', J.os, J.bare, J.base, J.hok, rv, q⟩ : CE outer P w H s Q u s')
  | .next, ⟨σ', H', J, q⟩ => exact (⟨.non, H', J.os, J.bare, J.base, J.hok, rfl, q⟩ : CE outer P w H s Q .none s')
  | .brk, ⟨_, _, _, q⟩ => exact q.elim
  | .cont, ⟨_, _, _, q⟩ => exact q.elim
theorem okG {x qual : Str} {st : Stmt} {N : List Str} (F : Fun K x qual st f fd) (S : FnScope N ps (defScope st)) (len : ∀ vs H Q E, sp vs H Q E → vs.length = ps.length)
    (hbody : ∀ (cdv : Value) (A : Around) (outer : List Env) (s : Shared) (H : Hp) (vs : List V) (Q : VK) (E : XK), RoomG gm k (A.deeper (envOfC qual (defScope st) s.heap.objs.size f cdv)) → sp vs H Q E →
      ∃ t, PSs (cxOf CX P w K mg base N qual (defScope st) f cdv A outer s H E) (defBody st) t ∧ t { nx := fun _ H' => Q .non H', rt := Q } (start N vs) H) : FnOkG gm P w K mg base CX (k + 1) f fd ps sp := by
  obtain ⟨oc, od, kV, doc, pm, an, cdv, ct, osl, rfl, lk, hcd⟩ := F.ex
  exact fn_ofG lk hcd S len fun A outer s H vs Q E hr hsp => hbody cdv A outer s H vs Q E hr hsp
end
section
variable {X : Cx} {CX' : CXT} {k : Nat} {f : Addr} {fd : FuncData} {ps : List Str} {sp : Sp} {gm : Bool} {E : XK} {x : Str} {e : Expr} {es : List Expr} {p pos : Pos} {t : TA}
theorem run_fnG {pins : List (Addr × Obj)} {σ : L2.St} {H : Hp} {s : Shared} {Q : VK} {us : List Value} {vs : List V} (F : FnOkG gm X.prog X.w X.K X.mg X.base CX' k f fd ps sp) (hr : RoomG gm k X.A) (hb : Binds X.K fd ps []) (hx : Passes CX' X E)
    (I : Inv X pins σ H s) (r : Vals vs us) (h : sp vs H Q E) : wpAny (model X.prog X.w) X.A (call (.ref f) us) (EP X pins σ Q) X.xe s := by
  have hl : (us ++ []).length = ps.length := by rw [List.append_nil, ← r.length]; exact F.len _ _ _ _ h
  have hbb := hb s us I.kIn hl
  rw [List.append_nil] at hbb
  refine wpAny_call (codeAny_mono (F.run X.A X.stack s H ⟨us, []⟩ us vs Q E hr I.env0 hbb r h) fun r s' hq => ?_)
  match r, hq with
  | .error e, hq => exact hx pins σ H s e s' I hq
  | .ok (.ret u), hq => exact I.after hq
  | .ok .next, hq => exact hq.elim
  | .ok .brk, hq => exact hq.elim
  | .ok .cont, hq => exact hq.elim
theorem pe_callG (F : FnOkG gm X.prog X.w X.K X.mg X.base CX' k f fd ps sp) (hr : RoomG gm k X.A) (hg : Gl X x) (hm : X.mg x = some (.ref f)) (hk : PySem.W.keepIn X.K (.ref f) = true) (hb : Binds X.K fd ps []) (hx : Passes CX' X E)
    (ha : PA X (e :: es) t) (hdb : (x == ("__debug__" : Str)) = false := by decide) (he : starEach (e :: es) X.env = (false, eval e X.env) :: starEach es X.env := by rfl) (hpl : (backTo pos (starEach es X.env)).any (·.1) = false := by rfl) :
    PE X (.Call (.Name x p) (e :: es) [] pos) (tCall sp [] E t) := by
  refine ⟨fun pins s σ H Q I h => wpAny_Call_Name_kw (ld_glob I hg hm ?_ hdb)⟩
  refine PySem.W.callWith_K (h₀ := X.base) I.ok.mod.kin hk (thn (ha.run pos pins s σ H _ I h) fun us s1 ⟨vs, H1, I1, r, q⟩ => ⟨I1.kIn, ?_⟩) he hpl
  have q : sp (vs ++ []) H1 Q E := q
  rw [List.append_nil] at q
  exact run_fnG F hr hb hx I1 r q
end
section
/-- the law's promise, met at its call: no guard on the stack there -/
theorem law_callG {P : Program} {w : World} {K : PySem.W.Frag} {mg mb : Str → Option Value} {CX : CXT} {k : Nat} {fa a : Addr} {fd : FuncData} {x : Str} {sp : Sp} {s₁ : Shared} {vs : List Value} {ns : List Int}
    (KX : K.In s₁.heap) (hns : s₁.heap.Ns mainGlobals mg) (hb : s₁.heap.Ns builtinsNs mb) (hbb : ∀ x : Str, x ≠ "__name__" → mb x = bootBuiltins x) (hlim : s₁.heap.NoLimit) (hg : s₁.gens = #[])
    (ha : s₁.heap.get? a = some { cls := .type "list", data := .seq vs.toArray }) (hi : IntsAre vs ns) (hl : ns.length ≤ sizeLine) (hr : Room k callerA)
    (F : ∀ base : Heap, K.In base → base.Ns mainGlobals mg → FnOkG true P w K mg base CX k fa fd [x] sp) (hbind : ∀ (s : Shared) (u : Value), BindsTo s fd ⟨[u], []⟩ [(x, u)])
    (hsp : ∀ H : Hp, Only H → SqL K H a (ns.map V.int) → sp [.ref a] H (fun v _ => v = .bl true) fun _ _ _ => False)
    (hCX : ∀ H e s', CX [] H s₁ (fun _ _ _ => False) e s' → False) :
    codeAny (model P w) callerA (.call (.ref fa) ⟨[.ref a], []⟩) (fun r s' => r = .ok (.ret (.bool true)) ∧ OldK s₁.heap s'.heap ∧ s'.os = s₁.os ∧ AllBare s'.gens) s₁ := by
  have rv := vals_ints hi
  have lenV := hi.length
  have core : ∀ H : Hp, Only H → SqL K H a (ns.map V.int) → HOk P w H s₁.heap → (∀ b, H b ≠ none → b = a) → (H a ≠ none → K.lookup a = none) →
      codeAny (model P w) callerA (.call (.ref fa) ⟨[.ref a], []⟩) (fun r s' => r = .ok (.ret (.bool true)) ∧ OldK s₁.heap s'.heap ∧ s'.os = s₁.os ∧ AllBare s'.gens) s₁ := by
    intro H hO hS hok hA hK
    have isA : ∀ {b : Addr} {u : HO}, H b = some u → b = a := fun {b u} q => hA b (by rw [q]; exact fun z => nomatch z)
    have noA : ∀ {b : Addr} {o : Obj} {es : Array DictEntry} {ep : Nat}, s₁.heap.get? b = some o → o.data = .dict es ep → H b = none := fun {b o es ep} e d => by
      cases q : H b with
      | none => rfl
      | some u =>
        cases isA q
        rw [ha] at e
        cases e
        exact nomatch (show Data.seq vs.toArray _ = Data.dict es ep from d)
    have nsK : ∀ {b : Addr} {m : Str → Option Value}, s₁.heap.Ns b m → (hidT s₁.heap H).Ns b m := fun {b m} ⟨o, es, ep, e, d, r⟩ => ⟨o, es, ep, hidT_get e (noA e d), d, r⟩
    have hKb : K.In (hidT s₁.heap H) := fun b o e => hidT_get (KX b o e) (by
      cases q : H b with
      | none => rfl
      | some u =>
        cases isA q
        rw [hK (by rw [q]; exact fun z => nomatch z)] at e
        cases e)
    have hM : Mod K mg (hidT s₁.heap H) := ⟨hKb, nsK hns, ⟨mb, nsK hb, hbb⟩, hlim.imp fun mc h => ⟨nsK h.1, h.2⟩⟩
    have e0 : Env0 P w K mg (hidT s₁.heap H) callerA [] s₁ H := ⟨rfl, hM, fun b o e => of_hidT e, Nat.le_of_eq (hidT_size _ _), trivial, (fun b hb => absurd (show b ∈ ([] : List Addr) from hb) (by simp)), hok, .of_eq hg⟩
    refine codeAny_mono ((F _ hKb (nsK hns)).run callerA [] s₁ H ⟨[.ref a], []⟩ [.ref a] [.ref a] _ _ ⟨hr, fun _ => rfl⟩ e0 (hbind s₁ (.ref a)) (.cons rfl .nil) (hsp H hO hS)) fun r s' h => ?_
    match r, h with
    | .error e, h => exact (hCX H e s' h).elim
    | .ok .next, h => exact h.elim
    | .ok .brk, h => exact h.elim
    | .ok .cont, h => exact h.elim
    | .ok (.ret u), ⟨v, H', os, bare, un, hok', r', q⟩ =>
      obtain rfl : v = .bl true := q
      obtain rfl : u = Value.bool true := r'
      refine ⟨rfl, OldK.of_keep fun b o e => ?_, os, bare⟩
      rcases hO b with z | ⟨ob, xs, z⟩
      · exact un.keep b o e z (fun z => absurd (show b ∈ ([] : List Addr) from z) (by simp)) (by simp)
      · have e1 := (hok b _ z).1
        have e2 := (hok' b _ (un.frzs b ob _ z)).1
        rw [e] at e1
        cases e1
        exact e2
  cases hk : K.lookup a with
  | some o =>
    have e := KX a o hk
    rw [ha] at e
    cases e
    exact core (fun _ => none) (fun _ => .inl rfl) (.inr ⟨_, vs.toArray, _, hk, rfl, rfl, rfl, by rw [List.size_toArray, lenV]; exact hl, by simpa using rv⟩) (fun b u z => nomatch (show (none : Option HO) = some u from z)) (fun b z => absurd rfl z) fun z => absurd rfl z
  | none =>
    have at_ : ∀ {b : Addr} {u : HO}, (if b = a then some (HO.frz { cls := .type "list", data := .seq vs.toArray } (.lst (ns.map V.int))) else none) = some u → b = a ∧ u = HO.frz { cls := .type "list", data := .seq vs.toArray } (.lst (ns.map V.int)) := fun {b u} z => by
      by_cases hb : b = a
      · rw [if_pos hb] at z
        exact ⟨hb, (Option.some.inj z).symm⟩
      · rw [if_neg hb] at z
        cases z
    refine core (fun b => if b = a then some (.frz { cls := .type "list", data := .seq vs.toArray } (.lst (ns.map V.int))) else none) (fun b => ?_) (.inl (.inr ⟨{ cls := .type "list", data := .seq vs.toArray }, if_pos rfl⟩)) (fun b u z => ?_) (fun b z => ?_) fun _ => hk
    · by_cases hb : b = a
      · exact .inr ⟨_, _, if_pos hb⟩
      · exact .inl (if_neg hb)
    · obtain ⟨hb, hu⟩ := at_ z
      subst hb hu
      exact ⟨ha, by rw [List.length_map]; exact hl, vs, _, rv, ha⟩
    · by_cases hb : b = a
      · exact hb
      · exact absurd (if_neg hb) z
/-- a law: F gives the written part, the function object, the promise over every base -/
theorem walk_ofG {l : PySem.W.OpenLaw} {n k : Nat} {q : Program} {loose : List Str} {XP : (Str → Option Value) → Heap → Prop} {YP : World → Heap → Prop} {d : DefRec} {CX : World → CXT} {x : Str}
    (hn : l.most = some n) (hn2 : n ≤ sizeLine) (hdf : d.params.defaults = []) (hr : Room k callerA)
    (F : ∀ (w : World) (mg : Str → Option Value) (fa : Addr) (h : Heap), YP w h → h.Ns mainGlobals mg → mg d.name = some (.ref fa) →
      ∃ (K : PySem.W.Frag) (fd : FuncData) (sp : Sp), K.In h ∧ (∀ (s : Shared) (u : Value), BindsTo s fd ⟨[u], []⟩ [(x, u)]) ∧
        (∀ (H : Hp) (a : Addr) (ns : List Int), ns.length ≤ n → Only H → SqL K H a (ns.map V.int) → sp [.ref a] H (fun v _ => v = .bl true) fun _ _ _ => False) ∧
        ∀ base : Heap, K.In base → base.Ns mainGlobals mg → FnOkG true l.prog w K mg base (CX w) k fa fd [x] sp)
    (hCX : ∀ (w : World) (H : Hp) (s : Shared) (e : Value) (s' : Shared), CX w [] H s (fun _ _ _ => False) e s' → False) :
    PySem.W.WalkO q loose XP YP l.row.toRowW d [] (fun f vs => PySem.call f vs) := by
  refine Att.attach_call hn hdf fun w s₀ s₁ mg mb fa o pm cd doc a vs ns G Y ho hd hcd hmg hobj hints hlen hg => ?_
  obtain ⟨K, fd, sp, KX, hb, hsp, hF⟩ := F w mg fa _ Y G.T.g hmg
  exact law_callG KX G.T.g G.T.b G.T.builtins G.T.nolimit hg hobj hints (Nat.le_trans hlen hn2) hr hF hb (fun H hO hS => hsp H a ns hlen hO hS) fun H e s' => hCX w H s₁ e s'
end
end DL

set_option maxRecDepth 100000
/-! DLd: what is owned; defs and their calls; freezing; comprehensions. -/
namespace DL
open PySem PySem.Spec PyProof.Rows L2

mutual
def own : X → Bool
  | .lst b xs => b && ownA xs
  | .tup xs => ownA xs
  | .obj b _ _ xs => b && ownA xs
  | .exn _ _ xs => ownA xs
  | .scr _ => false
  | .non => true | .bl _ => true | .int _ => true | .str _ => true | .ptr _ => true | .ref _ => true
def ownA : List X → Bool
  | [] => true
  | x :: xs => own x && ownA xs
end
section
variable {K : PySem.W.Frag} {O B B' : Hp}
mutual
theorem Rp.own : ∀ (x : X) {v : V}, DL.own x = true → Rp K O B x v → Rp K O B' x v
  | .non, _, _, h => by simpa only [Rp] using h
  | .bl b, _, _, h => by simpa only [Rp] using h
  | .int i, _, _, h => by simpa only [Rp] using h
  | .str s, _, _, h => by simpa only [Rp] using h
  | .ptr a, _, _, h => by simpa only [Rp] using h
  | .ref a, _, _, h => by simpa only [Rp] using h
  | .scr ns, _, o, h => by simp only [DL.own] at o; cases o
  | .lst b xs, _, o, h => by
    simp only [DL.own, Bool.and_eq_true] at o
    obtain ⟨rfl, o⟩ := o
    simp only [Rp] at h ⊢
    obtain ⟨a, vs, e, q, r⟩ := h
    exact ⟨a, vs, e, q, RpA.own xs o r⟩
  | .tup xs, _, o, h => by
    simp only [DL.own] at o
    simp only [Rp] at h ⊢
    obtain ⟨a, vs, e, q, r⟩ := h
    exact ⟨a, vs, e, q, RpA.own xs o r⟩
  | .obj b C ns xs, _, o, h => by
    simp only [DL.own, Bool.and_eq_true] at o
    obtain ⟨rfl, o⟩ := o
    simp only [Rp] at h ⊢
    obtain ⟨a, dx, vs, e, q1, q3, r⟩ := h
    exact ⟨a, dx, vs, e, q1, q3, RpA.own xs o r⟩
  | .exn C ns xs, _, o, h => by
    simp only [DL.own] at o
    simp only [Rp] at h ⊢
    obtain ⟨a, vs, e, q1, q3, r⟩ := h
    exact ⟨a, vs, e, q1, q3, RpA.own xs o r⟩
theorem RpA.own : ∀ (xs : List X) {vs : List V}, ownA xs = true → RpA K O B xs vs → RpA K O B' xs vs
  | [], _, _, h => by simpa only [RpA] using h
  | x :: xs, _, o, h => by
    simp only [ownA, Bool.and_eq_true] at o
    simp only [RpA] at h ⊢
    obtain ⟨v, r, e, q, t⟩ := h
    exact ⟨v, r, e, Rp.own x o.1 q, RpA.own xs o.2 t⟩
end
end
@[simp] theorem ownA_map {α : Type} (f : α → X) (h : ∀ a, own (f a) = true) : ∀ xs : List α, ownA (xs.map f) = true
  | [] => rfl
  | x :: xs => by simp only [List.map_cons, ownA, h, ownA_map f h xs, Bool.and_self]
theorem ownA_of : ∀ {xs : List X}, (∀ x ∈ xs, own x = true) → ownA xs = true
  | [], _ => rfl
  | x :: xs, h => by simp only [ownA, h x List.mem_cons_self, ownA_of fun y hy => h y (List.mem_cons_of_mem _ hy), Bool.and_self]
theorem of_ownA : ∀ {xs : List X}, ownA xs = true → ∀ x ∈ xs, own x = true
  | [], _, _, h => nomatch h
  | x :: xs, h, y, hy => by
    simp only [ownA, Bool.and_eq_true] at h
    rcases List.mem_cons.mp hy with rfl | hy
    · exact h.1
    · exact of_ownA h.2 y hy
def ownC : Cell → Bool
  | .lst xs => ownA xs
  | .dK kvs => ownA (kvs.map (·.2))
  | .dT kvs => ownA (kvs.map (·.2))
  | .ins _ _ xs => ownA xs
theorem RpC.own {K : PySem.W.Frag} {O B B' H : Hp} {a : Addr} : ∀ {c : Cell}, ownC c = true → RpC K O B H a c → RpC K O B' H a c
  | .lst xs, o, ⟨vs, e, r⟩ => ⟨vs, e, RpA.own xs o r⟩
  | .dK kvs, o, ⟨vs, e, l, r⟩ => ⟨vs, e, l, RpA.own _ o r⟩
  | .dT kvs, o, ⟨vs, e, l, r⟩ => ⟨vs, e, l, RpA.own _ o r⟩
  | .ins C ns xs, o, ⟨dx, vs, e, e2, l, r⟩ => ⟨dx, vs, e, e2, l, RpA.own xs o r⟩

/-! ### a def's meaning -/
abbrev ErrK := Addr → List Str → List X → Mu → Prop
abbrev FD := List X → Mu → VKd → ErrK → Prop
def entN (O : Hp) (M : Mu) (H : Hp) : Ent := ⟨H, O, fz H M, fz H M, fun a => M a ≠ none⟩
def ErrRep (K : PySem.W.Frag) (O B H : Hp) (d : Option Addr) (ns : List Str) (xs : List X) : Prop := match ns with
  | [] => xs = []
  | _ => ∃ a vs, d = some a ∧ H a = some (.xd (ns.zip vs)) ∧ ns.length = vs.length ∧ RpA K O B xs vs
def ownM (M : Mu) : Prop := ∀ a c, M a = some c → ownC c = true
/-- what is wanted of a def's error -/
def WE (K : PySem.W.Frag) (E : XK) (Er : ErrK) (N : Ent) : Prop := ∀ O M H C d ns ys, Stt K N O M H → ErrRep K O N.B0 H d ns ys → Er C ns ys M → E (.ref C) d H
def W0 (_ : Ent) : Prop := True
theorem anti0 {K : PySem.W.Frag} : Anti K W0 := fun _ _ _ _ _ => trivial
theorem antiE {K : PySem.W.Frag} {E : XK} {Er : ErrK} : Anti K (WE K E Er) := fun _ _ hb h w O M H C d ns ys S r => w O M H C d ns ys (h O M H S) (by rw [← hb]; exact r)
def spG (K : PySem.W.Frag) (fd : FD) : Sp := fun vs H Q E => ∃ (O : Hp) (Mc : Mu) (xs : List X) (Qd : VKd) (Ed : ErrK), Stt K (entN O Mc H) O Mc H ∧ RpA K O (fz H Mc) xs vs ∧ fd xs Mc Qd Ed ∧
  (∀ O' M' H' y v, Stt K (entN O Mc H) O' M' H' → Rp K O' (fz H Mc) y v → own y = true → ownM M' → Qd y M' → Q v H') ∧
  (∀ O' M' H' C d ns ys, Stt K (entN O Mc H) O' M' H' → ErrRep K O' (fz H Mc) H' d ns ys → ownA ys = true → ownM M' → Ed C ns ys M' → E (.ref C) d H')
def startD (N : List Str) (xs : List X) : Dl := xs.map some ++ List.replicate (N.length - xs.length) none
def Sub (M' M : Mu) : Prop := ∀ a c, M' a = some c → M a = some c
/-- a def's end: what is not told is mutable no more -/
def rtK (Qd : VKd) : VKd := fun y M' => ∃ M2, Sub M2 M' ∧ own y = true ∧ ownM M2 ∧ Qd y M2
def erK (Ed : ErrK) : ErrK := fun C ns ys M' => ∃ M2, Sub M2 M' ∧ ownA ys = true ∧ ownM M2 ∧ Ed C ns ys M2
def endD (Qd : VKd) : EndsD := { nx := fun _ M' => rtK Qd .non M', rt := rtK Qd }
section
variable {K : PySem.W.Frag} {N : Ent} {O H : Hp} {M M2 : Mu}
theorem Stt.drop (S : Stt K N O M H) (sub : Sub M2 M) : Stt K N O M2 H := by
  have eb : Ex (fz H M) (fz H M2) := fun a u q => by
    obtain ⟨q1, q2⟩ := of_fz q
    rw [fz_of]
    · exact q1
    · cases e : M2 a with
      | none => rfl
      | some c => rw [sub a c e] at q2; cases q2
  exact ⟨S.oh, fun a c q => S.om a c (sub a c q), S.tp, fun a c q => S.cl a c (sub a c q), S.b0.trans eb, S.c0.trans eb, S.o0, S.nw, S.dm, fun a c q => S.mf a c (sub a c q)⟩
theorem sl_start {B : Hp} : ∀ {xs : List X} {vs : List V} (n : Nat), RpA K O B xs vs → Sl K O B (xs.map some ++ List.replicate n none) (vs.map some ++ List.replicate n none)
  | [], _, n, r => by
    simp only [RpA] at r
    subst r
    show Sl K O B (List.replicate n none) (List.replicate n none)
    induction n with
    | zero => exact rfl
    | succ n ih =>
      simp only [List.replicate_succ, Sl]
      exact ⟨none, _, rfl, ih⟩
  | x :: xs, _, n, r => by
    simp only [RpA] at r
    obtain ⟨v, t, e, q, u⟩ := r
    subst e
    simp only [List.map_cons, List.cons_append, Sl]
    exact ⟨v, _, rfl, q, sl_start n u⟩
end
section
variable {gm : Bool} {P : Program} {w : World} {K : PySem.W.Frag} {mg : Str → Option Value} {base : Heap}
/-- THE RULE for a def from which no error goes out -/
theorem fnD {x qual : Str} {st : Stmt} {f : Addr} {fdt : FuncData} {N ps : List Str} {k : Nat} {fd : FD} (F : Fun K x qual st f fdt) (S : FnScope N ps (defScope st))
    (len : ∀ xs M Q E, fd xs M Q E → xs.length = ps.length)
    (body : ∀ (cdv : Value) (A : Around) (outer : List Env) (s : Shared) (H : Hp) (E : XK), RoomG gm k (A.deeper (envOfC qual (defScope st) s.heap.objs.size f cdv)) →
      ∃ d, PSsD (cxOf CX0 P w K mg base N qual (defScope st) f cdv A outer s H E).nox W0 (defBody st) d ∧ ∀ xs M Qd Ed, fd xs M Qd Ed → d (endD Qd) (startD N xs) M) : FnOkG gm P w K mg base CX0 (k + 1) f fdt ps (spG K fd) := by
  refine okG F S (fun vs H Q E h => ?_) (fun cdv A outer s H vs Q E hr h => ?_)
  · obtain ⟨O, Mc, xs, Qd, Ed, S0, r, hf, _⟩ := h
    rw [r.len]; exact len _ _ _ _ hf
  · obtain ⟨O, Mc, xs, Qd, Ed, S0, r, hf, hq, he⟩ := h
    obtain ⟨d, hd, rd⟩ := body cdv A outer s H E hr
    obtain ⟨t, ht, hs⟩ := hd.ex
    refine ⟨t, PSs.nox ht, hs (entN O Mc H) _ (endD Qd) trivial ?_ O Mc (startD N xs) _ H S0 ?_ (rd xs Mc Qd Ed hf)⟩
    · have fin : ∀ O' M' H' y v, Stt K (entN O Mc H) O' M' H' → Rp K O' (fz H Mc) y v → rtK Qd y M' → Q v H' := fun O' M' H' y v S' r' q => by
        obtain ⟨M2, sub, oy, om, q⟩ := q
        exact hq O' M2 H' y v (S'.drop sub) r' oy om q
      exact ⟨fun O' M' δ σ H' S' _ q => fin O' M' H' .non .non S' (by simp only [Rp]) q, fin, fun _ _ _ _ _ _ _ z => z.elim, fun _ _ _ _ _ _ _ z => z.elim⟩
    · unfold startD L2.start
      rw [r.len]
      exact sl_start _ r
/-- .. that may raise -/
theorem fnDX {x qual : Str} {st : Stmt} {f : Addr} {fdt : FuncData} {N ps : List Str} {k : Nat} {fd : FD} (F : Fun K x qual st f fdt) (S : FnScope N ps (defScope st))
    (len : ∀ xs M Q E, fd xs M Q E → xs.length = ps.length)
    (body : ∀ (cdv : Value) (A : Around) (outer : List Env) (s : Shared) (H : Hp) (E : XK) (Ed : ErrK), RoomG gm k (A.deeper (envOfC qual (defScope st) s.heap.objs.size f cdv)) →
      ∃ d, PSsD (cxOf (L2.CX P w) P w K mg base N qual (defScope st) f cdv A outer s H E) (WE K E (erK Ed)) (defBody st) d ∧ ∀ xs M Qd, fd xs M Qd Ed → d (endD Qd) (startD N xs) M) : FnOkG gm P w K mg base (L2.CX P w) (k + 1) f fdt ps (spG K fd) := by
  refine okG F S (fun vs H Q E h => ?_) (fun cdv A outer s H vs Q E hr h => ?_)
  · obtain ⟨O, Mc, xs, Qd, Ed, S0, r, hf, _⟩ := h
    rw [r.len]; exact len _ _ _ _ hf
  · obtain ⟨O, Mc, xs, Qd, Ed, S0, r, hf, hq, he⟩ := h
    obtain ⟨d, hd, rd⟩ := body cdv A outer s H E Ed hr
    obtain ⟨t, ht, hs⟩ := hd.ex
    refine ⟨t, ht, hs (entN O Mc H) _ (endD Qd) ?_ ?_ O Mc (startD N xs) _ H S0 ?_ (rd xs Mc Qd hf)⟩
    · intro O' M' H' C d ns ys S' r' q
      obtain ⟨M2, sub, oy, om, q⟩ := q
      exact he O' M2 H' C d ns ys (S'.drop sub) r' oy om q
    · have fin : ∀ O' M' H' y v, Stt K (entN O Mc H) O' M' H' → Rp K O' (fz H Mc) y v → rtK Qd y M' → Q v H' := fun O' M' H' y v S' r' q => by
        obtain ⟨M2, sub, oy, om, q⟩ := q
        exact hq O' M2 H' y v (S'.drop sub) r' oy om q
      exact ⟨fun O' M' δ σ H' S' _ q => fin O' M' H' .non .non S' (by simp only [Rp]) q, fin, fun _ _ _ _ _ _ _ z => z.elim, fun _ _ _ _ _ _ _ z => z.elim⟩
    · unfold startD L2.start
      rw [r.len]
      exact sl_start _ r
end

/-! ### calls -/
/-- the caller's mutable lists, seen by a callee that gets Mc alone -/
def vw (Mc M : Mu) : Nat → X → X
  | n + 1, .ptr p => match Mc p with
    | some _ => .ptr p
    | none => match M p with
      | some (.lst zs) => .lst false (zs.map (vw Mc M n))
      | some (.ins C ns zs) => .obj false C ns (zs.map (vw Mc M n))
      | _ => .ptr p
  | _, x => x
/-- what a call leaves of the caller's mutable objects -/
def mun (M Mc M' : Mu) : Mu := fun a => match M' a with
  | some c => some c
  | none => match Mc a with
    | some _ => none
    | none => M a
theorem mun_m0 {M : Mu} : mun M m0 m0 = M := by funext a; rfl
theorem mun_new {M : Mu} {p : Addr} {c : Cell} : mun M m0 (mset m0 p c) = mset M p c := by
  funext a
  simp only [mun, mset, m0]
  split
  · rename_i h
    split at h
    · rename_i e
      rw [if_pos e]; exact h.symm
    · cases h
  · rename_i h
    split at h
    · cases h
    · rename_i e
      rw [if_neg e]
def one (M : Mu) (p : Addr) : Mu := fun a => if a = p then M p else none
theorem one_sub {M : Mu} {p : Addr} : Sub (one M p) M := fun a c h => by
  unfold one at h
  split at h
  · rename_i e; rw [e]; exact h
  · cases h
theorem one_same {M : Mu} {p : Addr} : one M p p = M p := by simp [one]
theorem mun_one {M : Mu} {p : Addr} {c : Cell} : mun M (one M p) (mset (one M p) p c) = mset M p c := by
  funext a
  by_cases e : a = p
  · subst e; simp [mun, mset]
  · simp [mun, mset, one, e]
section
variable {K : PySem.W.Frag} {N : Ent} {O O' H H' : Hp} {M Mc Mc' : Mu}
theorem fz_to (sub : Sub Mc M) (S : Stt K N O M H) : Ex N.B0 (fz H Mc) := fun a u q => by
  replace q := S.b0 a u q
  obtain ⟨q1, q2⟩ := of_fz q
  rw [fz_of]
  · exact q1
  · cases e : Mc a with
    | none => rfl
    | some c => rw [sub a c e] at q2; cases q2
theorem vw_ok (S : Stt K N O M H) (sub : Sub Mc M) : ∀ (n : Nat) {x : X} {v : V}, Rp K O N.B0 x v → Rp K O (fz H Mc) (vw Mc M n x) v := by
  intro n
  induction n with
  | zero =>
    intro x v r
    have e : vw Mc M 0 x = x := by cases x <;> rfl
    rw [e]
    exact r.mono (Ex.refl _) (fz_to sub S)
  | succ n ih =>
    intro x v r
    have all : ∀ {zs : List X} {vs : List V}, RpA K O N.B0 zs vs → RpA K O (fz H Mc) (zs.map (vw Mc M n)) vs := by
      intro zs
      induction zs with
      | nil => intro vs r; simp only [RpA] at r; subst r; exact RpA.nil
      | cons z zs ihz =>
        intro vs r
        simp only [RpA] at r
        obtain ⟨v, t, e, q, u⟩ := r
        subst e
        exact RpA.cons (ih q) (ihz u)
    cases x with
    | ptr p =>
      have rv : v = .ref p := by simpa only [Rp] using r
      unfold vw
      split
      · simp only [Rp]; exact rv
      · rename_i hc
        split
        · rename_i zs e
          obtain ⟨vs, hp, rr⟩ := S.cl p _ e
          simp only [Rp]
          refine ⟨p, vs, rv, ?_, all rr⟩
          show fz H Mc p = _
          rw [fz_of hc, hp]
        · rename_i C ns zs e
          obtain ⟨dx, vs, hp, hd, hl, rr⟩ := S.cl p _ e
          simp only [Rp]
          refine ⟨p, dx, vs, rv, ?_, hl, all rr⟩
          show fz H Mc p = _
          rw [fz_of hc, hp]
        · simp only [Rp]; exact rv
    | _ => exact r.mono (Ex.refl _) (fz_to sub S)
theorem vwA_ok (S : Stt K N O M H) (sub : Sub Mc M) (n : Nat) : ∀ {zs : List X} {vs : List V}, RpA K O N.B0 zs vs → RpA K O (fz H Mc) (zs.map (vw Mc M n)) vs
  | [], _, r => by simp only [RpA] at r; subst r; exact RpA.nil
  | z :: zs, _, r => by
    simp only [RpA] at r
    obtain ⟨v, t, e, q, u⟩ := r
    subst e
    exact RpA.cons (vw_ok S sub n q) (vwA_ok S sub n u)
/-- the entry of a callee -/
theorem Stt.enter (S : Stt K N O M H) (sub : Sub Mc M) : Stt K (entN O Mc H) O Mc H :=
  ⟨S.oh, fun a c q => S.om a c (sub a c q), S.tp, fun a c q => (S.cl a c (sub a c q)).mono (Ex.refl _) (fz_to sub S) fun _ _ _ z => z, Ex.refl _, Ex.refl _, Ex.refl _, fun _ _ q => .inl q, fun _ q => q, fun a c q => .inr (show Mc a ≠ none by rw [q]; exact fun z => nomatch z)⟩
/-- behind a call -/
theorem Stt.back (S : Stt K N O M H) (sub : Sub Mc M) (S' : Stt K (entN O Mc H) O' Mc' H') (ow : ownM Mc') : Nxt K N O M H O' (mun M Mc Mc') H' := by
  have cases' : ∀ {a : Addr} {c : Cell}, mun M Mc Mc' a = some c → Mc' a = some c ∨ (Mc' a = none ∧ Mc a = none ∧ M a = some c) := fun {a c} h => by
    unfold mun at h
    split at h
    · rename_i c' e; cases h; exact .inl e
    · rename_i e
      split at h
      · cases h
      · rename_i e2; exact .inr ⟨e, e2, h⟩
  have eb : Ex (fz H M) (fz H' (mun M Mc Mc')) := fun a u q => by
    obtain ⟨q1, q2⟩ := of_fz q
    have hm : Mc a = none := by
      cases e : Mc a with
      | none => rfl
      | some c => rw [sub a c e] at q2; cases q2
    have q3 : fz H' Mc' a = some u := S'.b0 a u (show fz H Mc a = some u by rw [fz_of hm]; exact q1)
    obtain ⟨q4, q5⟩ := of_fz q3
    rw [fz_of (by unfold mun; rw [q5, hm]; exact q2)]
    exact q4
  have fwd : ∀ {b : Addr} {o : HO}, Mc b = none → H b = some o → H' b = some o := fun {b o} hm hb => (of_fz (S'.b0 b o (show fz H Mc b = some o by rw [fz_of hm]; exact hb))).1
  have own_no : ∀ {b a : Addr}, H b = some (.own a) → Mc b = none := fun {b a} hb => by
    cases e : Mc b with
    | none => rfl
    | some c =>
      obtain ⟨o, q, mu⟩ := (S.cl b c (sub b c e)).there
      rw [hb] at q; cases q; exact mu.elim
  refine ⟨⟨S'.oh, fun a c q => ?_, S'.tp, fun a c q => ?_, S.b0.trans eb, S.c0.trans eb, S.o0.trans S'.o0, fun a o q => ?_, fun a q => S.dm a (S'.dm a q), fun a c q => ?_⟩, S'.o0⟩
  · rcases cases' q with q | ⟨q1, q2, q3⟩
    · exact S'.om a c q
    · cases e : O' a with
      | none => rfl
      | some o =>
        rcases S'.nw a o e with z | z | z
        · have z' : O a = some o := z
          rw [S.om a c q3] at z'; cases z'
        · obtain ⟨o', z', _⟩ := (S.cl a c q3).there
          rw [show H a = none from z] at z'; cases z'
        · exact absurd q2 z
  · rcases cases' q with q | ⟨q1, q2, q3⟩
    · exact (S'.cl a c q).own (ow a c q)
    · refine (S.cl a c q3).mono S'.o0 (Ex.refl _) fun b o hb z => ?_
      rcases hb with rfl | hb
      · exact fwd q2 z
      · exact fwd (own_no hb) z
  · rcases S'.nw a o q with z | z | z
    · exact S.nw a o z
    · exact .inr (.inl (S.dm a z))
    · have z' : Mc a ≠ none := z
      cases e : Mc a with
      | none => exact absurd e z'
      | some c => exact .inr (S.mf a c (sub a c e))
  · rcases cases' q with q | ⟨q1, q2, q3⟩
    · rcases S'.mf a c q with z | z
      · exact .inl (S.dm a z)
      · have z' : Mc a ≠ none := z
        cases e : Mc a with
        | none => exact absurd e z'
        | some c => exact S.mf a c (sub a c e)
    · exact S.mf a c q3
end
abbrev SelM := List X → Mu → Mu
def dcall (n : Nat) (se : SelM) (fd : FD) (Er : ErrK) (a : DA) : DE := fun δ M Q => a δ M fun xs M1 => fd (xs.map (vw (se xs M1) M1 n)) (se xs M1)
  (fun y M' => (∀ p, se xs M1 p = none → M' p ≠ none → M1 p = none) → Q y (mun M1 (se xs M1) M'))
  (fun C ns ys M' => (∀ p, se xs M1 p = none → M' p ≠ none → M1 p = none) → Er C ns ys (mun M1 (se xs M1) M'))
section
variable {gm : Bool} {Y : Cx} {W : Ent → Prop} {K : PySem.W.Frag} {k : Nat} {f : Addr} {fdt : FuncData} {ps : List Str} {CX' : CXT} {fd : FD} {Er : ErrK} {E : XK} {x : Str} {p pos : Pos} {e : Expr} {es : List Expr} {dr : DA}
theorem snd_call {t : TA} {n : Nat} {se : SelM} (hse : ∀ xs M, Sub (se xs M) M) (hW : ∀ N, W N → WE K E Er N) (s1 : SndA K W t dr) : SndE K W (tCall (spG K fd) [] E t) (dcall n se fd Er dr) := fun N O M δ σ H Q Qd w S L h k =>
  s1 N O M δ σ H _ _ w S L h fun O1 M1 H1 xs vs n1 r1 h => by
    have S1 := n1.st
    have fresh : ∀ {O' : Hp} {M' : Mu} {H' : Hp}, Stt K (entN O1 (se xs M1) H1) O' M' H' → ∀ p, se xs M1 p = none → M' p ≠ none → M1 p = none := fun {O' M' H'} S' p hp hm => by
      cases e : M' p with
      | none => exact absurd e hm
      | some c =>
        rcases S'.mf p c e with z | z
        · exact S1.mnone z
        · exact absurd hp z
    refine ⟨O1, se xs M1, _, _, _, S1.enter (hse xs M1), by rw [List.append_nil]; exact vwA_ok S1 (hse xs M1) n r1, h, ?_, ?_⟩
    · intro O' M' H' y v S' r' oy om q
      have n2 := S1.back (hse xs M1) S' om
      exact k O' _ H' y v (n1.trans n2) (r'.own y oy) (q (fresh S'))
    · intro O' M' H' C d ns ys S' r' oy om q
      have n2 := S1.back (hse xs M1) S' om
      refine hW N w O' _ H' C d ns ys n2.st ?_ (q (fresh S'))
      unfold ErrRep at r' ⊢
      split at r'
      · exact r'
      · obtain ⟨a, vs', e1, e2, e3, r'⟩ := r'
        exact ⟨a, vs', e1, e2, e3, r'.own ys oy⟩
theorem pd_call {n : Nat} {se : SelM} (hse : ∀ xs M, Sub (se xs M) M) (hW : ∀ N, W N → WE Y.K E Er N) (F : FnOkG gm Y.prog Y.w Y.K Y.mg Y.base CX' k f fdt ps (spG Y.K fd)) (hr : RoomG gm k Y.A) (hg : Gl Y x) (hm : Y.mg x = some (.ref f)) (hk : PySem.W.keepIn Y.K (.ref f) = true) (hb : Binds Y.K fdt ps []) (hx : Passes CX' Y E)
    (ha : PAD Y W (e :: es) dr) (hdb : (x == ("__debug__" : Str)) = false := by decide) (he : starEach (e :: es) Y.env = (false, eval e Y.env) :: starEach es Y.env := by rfl) (hpl : (backTo pos (starEach es Y.env)).any (·.1) = false := by rfl) :
    PD Y W (.Call (.Name x p) (e :: es) [] pos) (dcall n se fd Er dr) := by
  obtain ⟨t, h1, s1⟩ := ha.ex
  exact ⟨_, pe_callG F hr hg hm hk hb hx h1 hdb he hpl, snd_call hse hW s1⟩
end

/-! ### kinds of defs -/
abbrev PF := List X → (X → Prop) → (Addr → List Str → List X → Prop) → Prop
abbrev NF := List X → (List X → Prop) → (Addr → List Str → List X → Prop) → Prop
/-- a pure def -/
def PFd (f : PF) : FD := fun xs M Q E => M = m0 ∧ f xs (fun y => Q y M) fun C ns ys => E C ns ys M
/-- .. that makes a list, mutable for its caller -/
def NFd (f : NF) : FD := fun xs M Q E => M = m0 ∧ f xs (fun zs => ∀ p, M p = none → Q (.ptr p) (mset M p (.lst zs))) fun C ns ys => E C ns ys M
def MonoN (f : NF) : Prop := ∀ xs P P' E, (∀ zs, P zs → P' zs) → f xs P E → f xs P' E
def selP : SelM := fun _ _ => m0
theorem selP_sub : ∀ xs M, Sub (selP xs M) M := fun _ _ _ _ h => nomatch h
/-- a state: a list of a list of ints and a place -/
def stC (nums : List Int) (k : Int) : Cell := .lst [.lst true (nums.map .int), .int k]
abbrev SF := List Int → Int → List X → (X → Int → Prop) → Prop
def SFd (f : SF) : FD := fun xs M Q _ => ∃ st nums k r, xs = .ptr st :: r ∧ (∀ a, a ≠ st → M a = none) ∧ M st = some (stC nums k) ∧ f nums k r fun y k' => Q y (mset M st (stC nums k'))
def selS : SelM := fun xs M => match xs with
  | .ptr p :: _ => one M p
  | _ => m0
theorem selS_sub : ∀ xs M, Sub (selS xs M) M := fun xs M => by
  unfold selS
  split
  · exact one_sub
  · exact fun _ _ h => nomatch h
def dcallP (n : Nat) (f : PF) (Er : ErrK) (a : DA) : DE := fun δ M Q => a δ M fun xs M1 => f (xs.map (vw m0 M1 n)) (fun y => Q y M1) fun C ns ys => Er C ns ys M1
def dcallN (n : Nat) (m : Bool) (f : NF) (Er : ErrK) (a : DA) : DE := fun δ M Q => a δ M fun xs M1 => f (xs.map (vw m0 M1 n)) (fun zs => newl m zs M1 Q) fun C ns ys => Er C ns ys M1
/-- a list made, owned from here on -/
def fzK (x : X) (M : Mu) (Q : VKd) : Prop := match x with
  | .ptr p => (match M p with
    | some (.lst zs) => Q (.lst true zs) (mdel M p)
    | _ => False)
  | x => Q x M
def dfz (d : DE) : DE := fun δ M Q => d δ M fun x M1 => fzK x M1 Q
section
variable {gm : Bool} {Y : Cx} {W : Ent → Prop} {K : PySem.W.Frag} {k : Nat} {f : Addr} {fdt : FuncData} {ps : List Str} {CX' : CXT} {Er : ErrK} {E : XK} {x : Str} {p pos : Pos} {e : Expr} {es : List Expr} {dr : DA} {d : DE}
theorem SndE.imp {t : TE} {d' : DE} (h : SndE K W t d) (hd : ∀ δ M Q, d' δ M Q → d δ M Q) : SndE K W t d' := fun N O M δ σ H Q Qd w S L q k => h N O M δ σ H Q Qd w S L (hd _ _ _ q) k
theorem PD.imp {d' : DE} (h : PD Y W e d) (hd : ∀ δ M Q, d' δ M Q → d δ M Q) : PD Y W e d' := by
  obtain ⟨t, h1, s1⟩ := h.ex
  exact ⟨t, h1, s1.imp hd⟩
theorem snd_fz {t : TE} (h : SndE K W t d) : SndE K W t (dfz d) := fun N O M δ σ H Q Qd w S L q k => h N O M δ σ H _ _ w S L q fun O1 M1 H1 x v n1 r1 q => by
  unfold fzK at q
  split at q
  · rename_i p
    split at q
    · rename_i zs e
      obtain ⟨O2, S2, eo, r2⟩ := n1.st.freeze e
      have rv : v = .ref p := by simpa only [Rp] using r1
      subst rv
      exact k O2 _ H1 _ _ (n1.trans ⟨S2, eo⟩) r2 q
    · exact q.elim
  · exact k O1 M1 H1 x v n1 r1 q
theorem pd_fz (h : PD Y W e d) : PD Y W e (dfz d) := by
  obtain ⟨t, h1, s1⟩ := h.ex
  exact ⟨t, h1, snd_fz s1⟩
theorem m0_true {M : Mu} : (∀ p : Addr, (m0 : Mu) p = none → (m0 : Mu) p ≠ none → M p = none) = True := eq_true fun p h h' => absurd h h'
theorem dcallP_eq {n : Nat} {g : PF} : dcall n selP (PFd g) Er dr = dcallP n g Er dr := by
  funext δ M Q
  unfold dcall dcallP
  refine congrArg (dr δ M) ?_
  funext xs M1
  show (PFd g (xs.map (vw m0 M1 n)) m0 _ _) = _
  unfold PFd
  rw [show (m0 = m0) = True from eq_true rfl, true_and]
  show g _ (fun y => (∀ p : Addr, (m0 : Mu) p = none → (m0 : Mu) p ≠ none → M1 p = none) → Q y (mun M1 m0 m0)) (fun C ns ys => (∀ p : Addr, (m0 : Mu) p = none → (m0 : Mu) p ≠ none → M1 p = none) → Er C ns ys (mun M1 m0 m0)) = _
  simp only [m0_true, true_implies, mun_m0]
theorem dcallN_eq {n : Nat} {g : NF} : dcall n selP (NFd g) Er dr = dcallN n true g Er dr := by
  funext δ M Q
  unfold dcall dcallN
  refine congrArg (dr δ M) ?_
  funext xs M1
  show (NFd g (xs.map (vw m0 M1 n)) m0 _ _) = _
  unfold NFd
  rw [show (m0 = m0) = True from eq_true rfl, true_and]
  show g _ (fun zs => ∀ p : Addr, (m0 : Mu) p = none → (∀ p' : Addr, (m0 : Mu) p' = none → mset m0 p (.lst zs) p' ≠ none → M1 p' = none) → Q (.ptr p) (mun M1 m0 (mset m0 p (.lst zs)))) (fun C ns ys => (∀ p : Addr, (m0 : Mu) p = none → (m0 : Mu) p ≠ none → M1 p = none) → Er C ns ys (mun M1 m0 m0)) = _
  simp only [m0_true, true_implies, mun_m0, mun_new]
  refine congrArg (fun P => g _ P _) ?_
  funext zs
  refine propext ⟨fun h p hp => h p rfl fun p' _ hn => ?_, fun h p _ hf => h p (hf p rfl (by rw [mset_same]; exact fun z => nomatch z))⟩
  by_cases e : p' = p
  · rw [e]; exact hp
  · exact absurd (mset_ne e) hn
/-- what a call of a def with a state asks -/
def fS (n : Nat) (g : SF) (xs : List DL.X) (M : Mu) (Q : VKd) : Prop := match xs with
  | .ptr st :: r => ∃ nums k, M st = some (stC nums k) ∧ g nums k (r.map (vw (one M st) M n)) fun y k' => Q y (mset M st (stC nums k'))
  | _ => False
theorem vw_ptr {Mc M : Mu} {n : Nat} {x : DL.X} {p : Addr} (h : vw Mc M n x = .ptr p) : x = .ptr p := by
  cases n with
  | zero => cases x <;> simpa [vw] using h
  | succ n =>
    cases x with
    | ptr q =>
      unfold vw at h
      split at h
      · exact h
      · split at h
        · cases h
        · cases h
        · exact h
    | _ => simpa [vw] using h
theorem vw_one {M : Mu} {n : Nat} {p : Addr} {c : Cell} (h : M p = some c) : vw (one M p) M n (.ptr p) = .ptr p := by
  cases n with
  | zero => rfl
  | succ n => unfold vw; rw [one_same, h]
theorem dcallS_eq {n : Nat} {g : SF} : dcall n selS (SFd g) Er dr = dcb (fS n g) dr := by
  funext δ M Q
  unfold dcall dcb
  refine congrArg (dr δ M) ?_
  funext xs M1
  have other : (∀ st r, xs ≠ .ptr st :: r) → SFd g (xs.map (vw (selS xs M1) M1 n)) (selS xs M1) (fun y M' => (∀ p, selS xs M1 p = none → M' p ≠ none → M1 p = none) → Q y (mun M1 (selS xs M1) M'))
      (fun C ns ys M' => (∀ p, selS xs M1 p = none → M' p ≠ none → M1 p = none) → Er C ns ys (mun M1 (selS xs M1) M')) = False := fun hn => by
    refine eq_false fun h => ?_
    obtain ⟨st, nums, k, r, e, _⟩ := h
    cases xs with
    | nil => cases e
    | cons x r' =>
      rw [List.map_cons, List.cons.injEq] at e
      exact hn st r' (by rw [vw_ptr e.1])
  by_cases hx : ∃ st r, xs = .ptr st :: r
  · obtain ⟨st, r, rfl⟩ := hx
    refine propext ⟨fun h => ?_, fun h => ?_⟩
    · obtain ⟨st', nums, k, r', e, _, hM, hg⟩ := h
      rw [List.map_cons, List.cons.injEq] at e
      obtain ⟨e1, e2⟩ := e
      have e3 := vw_ptr e1
      cases e3
      have hM' : M1 st = some (stC nums k) := by
        have : one M1 st st = some (stC nums k) := hM
        rwa [one_same] at this
      refine ⟨nums, k, hM', ?_⟩
      subst e2
      have fr : ∀ k' : Int, (∀ p : Addr, one M1 st p = none → mset (one M1 st) st (stC nums k') p ≠ none → M1 p = none) = True := fun k' => eq_true fun p hp hn => by
        by_cases e : p = st
        · rw [e, one_same, hM'] at hp; cases hp
        · rw [mset_ne e] at hn; exact absurd hp hn
      have hg' : g nums k (r.map (vw (one M1 st) M1 n)) (fun y k' => (∀ p : Addr, one M1 st p = none → mset (one M1 st) st (stC nums k') p ≠ none → M1 p = none) → Q y (mun M1 (one M1 st) (mset (one M1 st) st (stC nums k')))) := hg
      simp only [fr, true_implies, mun_one] at hg'
      exact hg'
    · obtain ⟨nums, k, hM', hg⟩ := h
      refine ⟨st, nums, k, r.map (vw (one M1 st) M1 n), ?_, fun a ha => ?_, ?_, ?_⟩
      · rw [List.map_cons]
        show vw (one M1 st) M1 n (.ptr st) :: _ = _
        rw [vw_one hM']; rfl
      · show one M1 st a = none
        unfold one; rw [if_neg ha]
      · show one M1 st st = _
        rw [one_same]; exact hM'
      · have fr : ∀ k' : Int, (∀ p : Addr, one M1 st p = none → mset (one M1 st) st (stC nums k') p ≠ none → M1 p = none) = True := fun k' => eq_true fun p hp hn => by
          by_cases e : p = st
          · rw [e, one_same, hM'] at hp; cases hp
          · rw [mset_ne e] at hn; exact absurd hp hn
        show g nums k (r.map (vw (one M1 st) M1 n)) (fun y k' => (∀ p : Addr, one M1 st p = none → mset (one M1 st) st (stC nums k') p ≠ none → M1 p = none) → Q y (mun M1 (one M1 st) (mset (one M1 st) st (stC nums k'))))
        simp only [fr, true_implies, mun_one]
        exact hg
  · have hn : ∀ st r, xs ≠ .ptr st :: r := fun st r e => hx ⟨st, r, e⟩
    rw [other hn]
    unfold fS
    split
    · rename_i st r
      exact absurd rfl (hn st r)
    · rfl
theorem pd_callS (n : Nat) {g : SF} (hW : ∀ N, W N → WE Y.K E Er N) (F : FnOkG gm Y.prog Y.w Y.K Y.mg Y.base CX' k f fdt ps (spG Y.K (SFd g))) (hr : RoomG gm k Y.A) (hm : Y.mg x = some (.ref f)) (hk : PySem.W.keepIn Y.K (.ref f) = true) (hb : Binds Y.K fdt ps []) (hx : Passes CX' Y E)
    (ha : PAD Y W (e :: es) dr) (hg : Gl Y x := by rfl) (hdb : (x == ("__debug__" : Str)) = false := by decide) (he : starEach (e :: es) Y.env = (false, eval e Y.env) :: starEach es Y.env := by rfl) (hpl : (backTo pos (starEach es Y.env)).any (·.1) = false := by rfl) :
    PD Y W (.Call (.Name x p) (e :: es) [] pos) (dcb (fS n g) dr) := by
  rw [← dcallS_eq (Er := Er)]
  exact pd_call selS_sub hW F hr hg hm hk hb hx ha hdb he hpl
theorem pd_callP (n : Nat) {g : PF} (hW : ∀ N, W N → WE Y.K E Er N) (F : FnOkG gm Y.prog Y.w Y.K Y.mg Y.base CX' k f fdt ps (spG Y.K (PFd g))) (hr : RoomG gm k Y.A) (hm : Y.mg x = some (.ref f)) (hk : PySem.W.keepIn Y.K (.ref f) = true) (hb : Binds Y.K fdt ps []) (hx : Passes CX' Y E)
    (ha : PAD Y W (e :: es) dr) (hg : Gl Y x := by rfl) (hdb : (x == ("__debug__" : Str)) = false := by decide) (he : starEach (e :: es) Y.env = (false, eval e Y.env) :: starEach es Y.env := by rfl) (hpl : (backTo pos (starEach es Y.env)).any (·.1) = false := by rfl) :
    PD Y W (.Call (.Name x p) (e :: es) [] pos) (dcallP n g Er dr) := by
  rw [← dcallP_eq]
  exact pd_call selP_sub hW F hr hg hm hk hb hx ha hdb he hpl
theorem pd_callN (n : Nat) {g : NF} (hW : ∀ N, W N → WE Y.K E Er N) (F : FnOkG gm Y.prog Y.w Y.K Y.mg Y.base CX' k f fdt ps (spG Y.K (NFd g))) (hr : RoomG gm k Y.A) (hm : Y.mg x = some (.ref f)) (hk : PySem.W.keepIn Y.K (.ref f) = true) (hb : Binds Y.K fdt ps []) (hx : Passes CX' Y E)
    (ha : PAD Y W (e :: es) dr) (hg : Gl Y x := by rfl) (hdb : (x == ("__debug__" : Str)) = false := by decide) (he : starEach (e :: es) Y.env = (false, eval e Y.env) :: starEach es Y.env := by rfl) (hpl : (backTo pos (starEach es Y.env)).any (·.1) = false := by rfl) :
    PD Y W (.Call (.Name x p) (e :: es) [] pos) (dcallN n true g Er dr) := by
  rw [← dcallN_eq]
  exact pd_call selP_sub hW F hr hg hm hk hb hx ha hdb he hpl
end
end DL

set_option maxRecDepth 100000
/-! DLe: comprehensions. -/
namespace DL
open PySem PySem.Spec PyProof.Rows L2

def wipeD (δ : Dl) : List Nat → Dl
  | [] => δ
  | v :: vs => (wipeD δ vs).set v none
def Only (t : TG) (vs : List Nat) : Prop := ∀ v σ H Q, t v σ H Q → t v σ H fun σ' H' => wipe σ' vs = wipe σ vs ∧ Q σ' H'
def Onlys (t : TGs) (vs : List Nat) : Prop := ∀ v σ H Q, t v σ H Q → t v σ H fun σ' H' => wipe σ' vs = wipe σ vs ∧ Q σ' H'
def MonoG (t : TG) : Prop := ∀ v σ H Q Q', (∀ σ' H', Q σ' H' → Q' σ' H') → t v σ H Q → t v σ H Q'
def MonoGs (t : TGs) : Prop := ∀ v σ H Q Q', (∀ σ' H', Q σ' H' → Q' σ' H') → t v σ H Q → t v σ H Q'
structure PGL (X : Cx) (W : Ent → Prop) (e : Expr) (vs : List Nat) (d : DG) : Prop where
  ex : ∃ t, PG X e t ∧ SndG X.K W t d ∧ Only t vs ∧ MonoG t
structure PGsL (X : Cx) (W : Ent → Prop) (e : List Expr) (vs : List Nat) (d : DGs) : Prop where
  ex : ∃ t, PGs X e t ∧ SndGs X.K W t d ∧ Onlys t vs ∧ MonoGs t
theorem wipe_set_out {σ : L2.St} {i : Nat} {x : Option V} : ∀ {vs : List Nat}, i ∉ vs → wipe (σ.set i x) vs = (wipe σ vs).set i x
  | [], _ => rfl
  | v :: vs, h => by
    have h1 : i ≠ v := fun e => h (by rw [e]; exact List.mem_cons_self)
    have h2 : i ∉ vs := fun e => h (List.mem_cons_of_mem _ e)
    show (wipe (σ.set i x) vs).set v none = ((wipe σ vs).set v none).set i x
    rw [wipe_set_out h2, List.set_comm _ _ h1]
theorem wipe_set_in {σ : L2.St} {i : Nat} {x : Option V} : ∀ {vs : List Nat}, i ∈ vs → wipe (σ.set i x) vs = wipe σ vs
  | v :: vs, h => by
    show (wipe (σ.set i x) vs).set v none = (wipe σ vs).set v none
    by_cases h2 : i ∈ vs
    · rw [wipe_set_in h2]
    · have e : i = v := (List.mem_cons.mp h).resolve_right h2
      rw [wipe_set_out h2, e, List.set_set]
theorem wipe_wipe {σ : L2.St} {us : List Nat} : ∀ {vs : List Nat}, (∀ v ∈ vs, v ∈ us) → wipe (wipe σ vs) us = wipe σ us
  | [], _ => rfl
  | v :: vs, h => by
    show wipe ((wipe σ vs).set v none) us = wipe σ us
    rw [wipe_set_in (h v List.mem_cons_self), wipe_wipe fun w hw => h w (List.mem_cons_of_mem _ hw)]
section
variable {X : Cx} {W : Ent → Prop} {K : PySem.W.Frag} {e : Expr} {es : List Expr} {pos : Pos} {g : DG} {gs : DGs} {vs : List Nat} {O B : Hp}
theorem only_name {i : Nat} (h : i ∈ vs) : Only (gName i) vs := fun v σ H Q q => ⟨wipe_set_in h, q⟩
theorem pgl_name (i : Nat) {x : Str} (hN : X.N.Nodup) (hv : i ∈ vs := by decide) (hi : X.N[i]? = some x := by rfl) (hx : Loc X.env.scope x := by first | exact Or.inl rfl | exact Or.inr rfl) (hf : X.fn x = true ∨ X.env.scope.names.lookup x = some .local := by first | exact .inl rfl | exact .inr rfl | assumption) : PGL X W (.Name x pos) vs (dgname i) :=
  ⟨_, pg_name hN hi hx hf, fun N O M δ σ H x v Q Qd w S L r h k => k O M H _ _ (Nxt.refl S) (L.set r i) h, only_name hv, fun _ _ _ _ _ h q => h _ _ q⟩
theorem pgsl_nil : PGsL X W [] vs dgnil := by
  obtain ⟨t, h1, s1⟩ := (pgsd_nil (X := X) (W := W)).ex
  refine ⟨gNil, pgs_nil, fun N O M δ σ H xs vs Q Qd w S L r h k => ?_, fun v σ H Q q => ⟨q.1, rfl, q.2⟩, fun _ _ _ _ _ h q => ⟨q.1, h _ _ q.2⟩⟩
  unfold dgnil at h
  split at h
  · simp only [RpA] at r
    exact ⟨r, k O M H δ σ (Nxt.refl S) L h⟩
  · exact h.elim
theorem onlys_cons {t : TG} {u : TGs} (h1 : Only t vs) (h2 : Onlys u vs) (m1 : MonoG t) (m2 : MonoGs u) : Onlys (gCons t u) vs := fun v σ H Q q => by
  obtain ⟨x, r, e, q⟩ := q
  refine ⟨x, r, e, m1 _ _ _ _ _ (fun σ' H' z => ?_) (h1 _ _ _ _ q)⟩
  exact m2 _ _ _ _ _ (fun σ2 H2 z2 => ⟨z2.1.trans z.1, z2.2⟩) (h2 _ _ _ _ z.2)
theorem mono_cons {t : TG} {u : TGs} (m1 : MonoG t) (m2 : MonoGs u) : MonoGs (gCons t u) := fun v σ H Q Q' h q => by
  obtain ⟨x, r, e, q⟩ := q
  exact ⟨x, r, e, m1 _ _ _ _ _ (fun σ' H' z => m2 _ _ _ _ _ h z) q⟩
theorem snd_gcons {t : TG} {u : TGs} (s1 : SndG K W t g) (s2 : SndGs K W u gs) : SndGs K W (gCons t u) (dgcons g gs) := fun N O M δ σ H xs vs Q Qd w S L r h k => by
  unfold dgcons at h
  split at h
  · simp only [RpA] at r
    obtain ⟨v, vr, e, rv, rr⟩ := r
    exact ⟨v, vr, e, s1 N O M δ σ H _ v _ _ w S L rv h fun O1 M1 H1 δ1 σ1 n1 L1 h => s2 N O1 M1 δ1 σ1 H1 _ vr _ _ w n1.st L1 (n1.rpa rr) h fun O2 M2 H2 δ2 σ2 n2 L2 h => k O2 M2 H2 δ2 σ2 (n1.trans n2) L2 h⟩
  · exact h.elim
theorem pgsl_cons (h1 : PGL X W e vs g) (h2 : PGsL X W es vs gs) (hs : (assignEach (e :: es) X.env).map (·.2) = assign e X.env :: (assignEach es X.env).map (·.2) := by rfl) : PGsL X W (e :: es) vs (dgcons g gs) := by
  obtain ⟨t, h1, s1, o1, m1⟩ := h1.ex
  obtain ⟨u, h2, s2, o2, m2⟩ := h2.ex
  exact ⟨_, pgs_cons h1 h2 hs, snd_gcons s1 s2, onlys_cons o1 o2 m1 m2, mono_cons m1 m2⟩
theorem pgl_tup {k : Nat} {n : Nat} (hc : X.calm = true) (h : PGsL X W es vs gs) (hn : (assignEach es X.env).length = n := by rfl) (hst : (assignEach es X.env).findIdx? (·.1) = none := by rfl) : PGL X W (.Tuple es k pos) vs (dgtup n gs) := by
  obtain ⟨t, h1, s1, o1, m1⟩ := h.ex
  refine ⟨_, pg_tup hc h1 hn hst, fun N O M δ σ H x v Q Qd w S L r h k => ?_, fun v σ H Q q => ?_, fun v σ H Q Q' h q => ?_⟩
  · unfold dgtup at h
    split at h
    · simp only [Rp] at r
      obtain ⟨a, vs, e, q, r⟩ := r
      exact ⟨a, vs, e, ex_sqt S.oh q, by rw [r.len]; exact h.1, s1 N O M δ σ H _ vs _ _ w S L r h.2 k⟩
    · exact h.elim
  · obtain ⟨a, xs, e, q, l, z⟩ := q
    exact ⟨a, xs, e, q, l, o1 _ _ _ _ z⟩
  · obtain ⟨a, xs, e, q, l, z⟩ := q
    exact ⟨a, xs, e, q, l, m1 _ _ _ _ _ h z⟩
theorem Sl.wipe1 : ∀ {δ : Dl} {σ : L2.St} (i : Nat), Sl K O B δ σ → Sl K O B (δ.set i none) (σ.set i none)
  | [], _, _, t => by simp only [Sl] at t; subst t; simp only [List.set_nil, Sl]
  | none :: δ, _, 0, t => by
    simp only [Sl] at t
    obtain ⟨o, r, e, u⟩ := t
    subst e
    simp only [List.set_cons_zero, Sl]
    exact ⟨none, r, rfl, u⟩
  | some y :: δ, _, 0, t => by
    simp only [Sl] at t
    obtain ⟨w, r, e, q, u⟩ := t
    subst e
    simp only [List.set_cons_zero, Sl]
    exact ⟨none, r, rfl, u⟩
  | none :: δ, _, i + 1, t => by
    simp only [Sl] at t
    obtain ⟨o, r, e, u⟩ := t
    subst e
    simp only [List.set_cons_succ, Sl]
    exact ⟨o, _, rfl, Sl.wipe1 i u⟩
  | some y :: δ, _, i + 1, t => by
    simp only [Sl] at t
    obtain ⟨w, r, e, q, u⟩ := t
    subst e
    simp only [List.set_cons_succ, Sl]
    exact ⟨w, _, rfl, q, Sl.wipe1 i u⟩
theorem Sl.wipe {δ : Dl} {σ : L2.St} (h : Sl K O B δ σ) : ∀ vs : List Nat, Sl K O B (wipeD δ vs) (L2.wipe σ vs)
  | [] => h
  | v :: vs => Sl.wipe1 v (Sl.wipe h vs)
end

/-! ### an entry at a turn -/
def Ent.inn (N : Ent) (O : Hp) (M : Mu) (H : Hp) : Ent := ⟨H, O, N.B0, fz H M, fun a => M a ≠ none⟩
section
variable {K : PySem.W.Frag} {N : Ent} {O O1 H H1 : Hp} {M M1 : Mu} {D : Addr}
theorem Stt.inn (S : Stt K N O M H) : Stt K (N.inn O M H) O M H :=
  ⟨S.oh, S.om, S.tp, S.cl, S.b0, Ex.refl _, Ex.refl _, fun _ _ q => .inl q, fun _ q => q, fun a c q => .inr (show M a ≠ none by rw [q]; exact fun z => nomatch z)⟩
theorem Stt.out (S1 : Stt K (N.inn O M H) O1 M1 H1) (S : Stt K N O M H) : Stt K N O1 M1 H1 :=
  ⟨S1.oh, S1.om, S1.tp, S1.cl, S1.b0, S.c0.trans S1.c0, S.o0.trans S1.o0, fun a o q => by
    rcases S1.nw a o q with z | z | z
    · exact S.nw a o z
    · exact .inr (.inl (S.dm a z))
    · have z' : M a ≠ none := z
      cases e : M a with
      | none => exact absurd e z'
      | some c => exact .inr (S.mf a c e), fun a q => S.dm a (S1.dm a q), fun a c q => by
    rcases S1.mf a c q with z | z
    · exact .inl (S.dm a z)
    · have z' : M a ≠ none := z
      cases e : M a with
      | none => exact absurd e z'
      | some c => exact S.mf a c e⟩
theorem sub_mset {c : Cell} (h : M D = none) : Sub M (mset M D c) := fun a d q => by
  by_cases e : a = D
  · rw [e, h] at q; cases q
  · rw [mset_ne e]; exact q
/-- the list at D, hidden through a turn, is mutable again -/
theorem Stt.remut {acc acc' : List X} {ws ws' : List V} (S : Stt K N O (mset M D (.lst acc)) H) (hD : M D = none) (hH : H D = some (.lst ws)) (S1 : Stt K (N.inn O M H) O1 M1 H1) (r : RpA K O1 N.B0 acc' ws') :
    M1 D = none ∧ H1 D = some (.lst ws) ∧ Stt K N O1 (mset M1 D (.lst acc')) (upd H1 D (.lst ws')) := by
  have S0 : Stt K N O M H := S.drop (sub_mset hD)
  have od : O D = none := S.om D _ mset_same
  have h1 : M1 D = none := by
    cases e : M1 D with
    | none => rfl
    | some c =>
      rcases S1.mf D c e with z | z
      · rw [show H D = none from z] at hH; cases hH
      · exact absurd hD z
  have h2 : O1 D = none := by
    cases e : O1 D with
    | none => rfl
    | some o =>
      rcases S1.nw D o e with z | z | z
      · rw [show O D = some o from z] at od; cases od
      · rw [show H D = none from z] at hH; cases hH
      · exact absurd hD z
  have h3 : H1 D = some (.lst ws) := (of_fz (S1.c0 D _ (show fz H M D = some (.lst ws) by rw [fz_of hD]; exact hH))).1
  have T := S1.out S0
  have bD : ∀ {B : Hp}, Ex B (fz H (mset M D (.lst acc))) → B D = none := fun {B} e => by
    cases q : B D with
    | none => rfl
    | some o =>
      have := (of_fz (e D o q)).2
      rw [mset_same] at this; cases this
  have keep : ∀ {B : Hp}, B D = none → Ex B (fz H1 M1) → Ex B (fz (upd H1 D (.lst ws')) (mset M1 D (.lst acc'))) := fun {B} hb e a u q => by
    have ne : a ≠ D := fun z => by rw [z, hb] at q; cases q
    obtain ⟨q1, q2⟩ := of_fz (e a u q)
    rw [fz_of (by rw [mset_ne ne]; exact q2), upd_ne ne]
    exact q1
  refine ⟨h1, h3, ⟨fun a u q => ?_, fun a c q => ?_, fun a xs q => ?_, fun a c q => ?_, keep (bD S.b0) T.b0, keep (bD S.c0) T.c0, T.o0, T.nw, fun a q => ?_, fun a c q => ?_⟩⟩
  · have ne : a ≠ D := fun z => by rw [z, h2] at q; cases q
    rw [upd_ne ne]; exact T.oh a u q
  · by_cases e : a = D
    · rw [e]; exact h2
    · rw [mset_ne e] at q; exact T.om a c q
  · by_cases e : a = D
    · rw [e, upd_same] at q; cases q
    · rw [upd_ne e] at q; exact T.tp a xs q
  · by_cases e : a = D
    · subst e
      rw [mset_same] at q
      cases q
      exact ⟨ws', upd_same, r⟩
    · rw [mset_ne e] at q
      refine (T.cl a c q).mono (Ex.refl _) (Ex.refl _) fun b u hb z => ?_
      have ne : b ≠ D := by
        rcases hb with rfl | hb
        · exact e
        · intro z; rw [z, h3] at hb; cases hb
      rw [upd_ne ne]; exact z
  · by_cases e : a = D
    · rw [e, upd_same] at q; cases q
    · rw [upd_ne e] at q; exact T.dm a q
  · by_cases e : a = D
    · rw [e]; exact S.mf D _ mset_same
    · rw [mset_ne e] at q; exact T.mf a c q
end

/-! ### comprehensions -/
def dlcGo (g : DG) (t : DT) (e : DE) (c : Mu → Prop) (δ0 : Dl) : List X → List X → Mu → (List X → Mu → Prop) → Prop
  | [], acc, M, Q => c M ∧ Q acc M
  | x :: xs, acc, M, Q => c M ∧ g x δ0 M fun δ1 M1 => t δ1 M1 fun b M2 => match b with
    | true => e δ1 M2 fun y M3 => acc.length < sizeLine ∧ dlcGo g t e c δ0 xs (acc ++ [y]) M3 Q
    | false => dlcGo g t e c δ0 xs acc M2 Q
def dlc (m : Bool) (it : DI) (g : DG) (t : DT) (e : DE) (vs : List Nat) : DE := fun δ M Q => it δ M fun xs c M1 => dlcGo g t e c (wipeD δ vs) xs [] M1 fun zs M2 => newl m zs M2 Q
def dyes : DT := fun _ M Q => Q true M
theorem snd_lc {K : PySem.W.Frag} {W : Ent → Prop} (hW : Anti K W) {wi : TI} {g' : TG} {tt : TT} {te : TE} {vs : List Nat} {it : DI} {g : DG} {t : DT} {e : DE} {m : Bool} (s1 : SndI K W wi it) (s2 : SndG K W g' g) (o2 : Only g' vs) (m2 : MonoG g') (s3 : SndT K W tt t) (s4 : SndE K W te e) :
    SndE K W (tLc wi g' tt te vs) (dlc m it g t e vs) := fun N O M δ σ H Q Qd w S L h k => s1 N O M δ σ H _ _ w S L h fun O1 M1 H1 J xs cc n1 J1 q => fun D hD => by
  have S1 := n1.st
  have L1 := n1.sl L
  refine ⟨fun i n H' => ∃ O' M' acc, n + i = xs.length ∧ Stt K N O' (mset M' D (.lst acc)) H' ∧ M' D = none ∧ Ex O1 O' ∧ dlcGo g t e cc (wipeD δ vs) (xs.drop i) acc M' fun zs M2 => newl m zs M2 Qd,
    ⟨xs.length, O1, M1, [], rfl, S1.mut hD RpA.nil, S1.mnone hD, Ex.refl _, q⟩, ?_⟩
  rintro i n H' ⟨O', M', acc, en, S', hM, eo, q⟩
  obtain ⟨ws, hH, rr⟩ := S'.cl D _ mset_same
  have S0 : Stt K N O' M' H' := S'.drop (sub_mset hM)
  by_cases hi : i < xs.length
  · have ed : xs.drop i = xs[i] :: xs.drop (i + 1) := List.drop_eq_getElem_cons hi
    rw [ed] at q
    obtain ⟨qc, q⟩ := q
    obtain ⟨_, j2⟩ := J1 (N.inn O' M' H') O' M' H' i rfl S0.inn eo qc
    obtain ⟨jg, jy⟩ := j2 _ (List.getElem?_eq_getElem hi)
    refine .inr ⟨jg, fun H2 => ∃ O2 M2 acc2, n - 1 + (i + 1) = xs.length ∧ Stt K N O2 (mset M2 D (.lst acc2)) H2 ∧ M2 D = none ∧ Ex O1 O2 ∧ dlcGo g t e cc (wipeD δ vs) (xs.drop (i + 1)) acc2 M2 fun zs M2 => newl m zs M2 Qd, fun H2 z => ⟨n - 1, by omega, z⟩, fun v H2 hy => ?_⟩
    obtain ⟨O2, n2, r2⟩ := jy v H2 hy
    have w' : W (N.inn O' M' H') := hW N (N.inn O' M' H') rfl (fun _ _ _ z => z.out S0) w
    have Lw : Sl K O2 N.B0 (wipeD δ vs) (L2.wipe σ vs) := (L1.mono (eo.trans n2.eo) (Ex.refl _)).wipe vs
    have Lw' : Sl K O2 (N.inn O' M' H').B0 (wipeD δ vs) (L2.wipe σ vs) := Lw
    have ww : ∀ {σ2 : L2.St}, L2.wipe σ2 vs = L2.wipe (L2.wipe σ vs) vs → L2.wipe σ2 vs = L2.wipe σ vs := fun {σ2} z => z.trans (wipe_wipe fun v hv => hv)
    have s2' : g' v (L2.wipe σ vs) H2 fun σ2 H3 => tt σ2 H3 fun b H4 => if b = true then te σ2 H4 fun y H5 => ∃ a, H5 D = some (.lst a) ∧ a.length < sizeLine ∧ (fun H2 => ∃ O2 M2 acc2, n - 1 + (i + 1) = xs.length ∧ Stt K N O2 (mset M2 D (.lst acc2)) H2 ∧ M2 D = none ∧ Ex O1 O2 ∧ dlcGo g t e cc (wipeD δ vs) (xs.drop (i + 1)) acc2 M2 fun zs M2 => newl m zs M2 Qd) (upd H5 D (.lst (a ++ [y]))) else (fun H2 => ∃ O2 M2 acc2, n - 1 + (i + 1) = xs.length ∧ Stt K N O2 (mset M2 D (.lst acc2)) H2 ∧ M2 D = none ∧ Ex O1 O2 ∧ dlcGo g t e cc (wipeD δ vs) (xs.drop (i + 1)) acc2 M2 fun zs M2 => newl m zs M2 Qd) H4 := by
      refine s2 (N.inn O' M' H') O2 M' (wipeD δ vs) _ H2 _ v _ _ w' n2.st Lw' r2 q fun O3 M3 H3 δ3 σ3 n3 L3 q => ?_
      refine s3 (N.inn O' M' H') O3 M3 δ3 σ3 H3 _ _ w' n3.st L3 q fun O4 M4 H4 b n4 q => ?_
      cases b with
      | true =>
        show te σ3 H4 _
        refine s4 (N.inn O' M' H') O4 M4 δ3 σ3 H4 _ _ w' n4.st (n4.sl L3) q fun O5 M5 H5 y v5 n5 r5 q => ?_
        have rr' : RpA K O5 N.B0 (acc ++ [y]) (ws ++ [v5]) := (rr.mono ((n2.eo.trans n3.eo).trans (n4.eo.trans n5.eo)) (Ex.refl _)).append (RpA.cons r5 RpA.nil)
        obtain ⟨h1, h3, T⟩ := S'.remut hM hH n5.st rr'
        exact ⟨ws, h3, by rw [rr.len]; exact q.1, O5, M5, acc ++ [y], by omega, T, h1, (eo.trans n2.eo).trans (n3.eo.trans (n4.eo.trans n5.eo)), q.2⟩
      | false =>
        show ∃ O2 M2 acc2, _
        have rr' : RpA K O4 N.B0 acc ws := rr.mono (n2.eo.trans (n3.eo.trans n4.eo)) (Ex.refl _)
        obtain ⟨h1, h3, T⟩ := S'.remut hM hH n4.st rr'
        have eH : upd H4 D (.lst ws) = H4 := by
          funext a
          by_cases e : a = D
          · rw [e, upd_same, h3]
          · rw [upd_ne e]
        rw [eH] at T
        exact ⟨O4, M4, acc, by omega, T, h1, (eo.trans n2.eo).trans (n3.eo.trans n4.eo), q⟩
    have fin := o2 v (L2.wipe σ vs) H2 _ s2'
    exact m2 _ _ _ _ _ (fun σ2 H3 z => ⟨ww z.1, z.2⟩) fin
  · have ed : xs.drop i = [] := List.drop_eq_nil_of_le (by omega)
    rw [ed] at q
    obtain ⟨j1, _⟩ := J1 N O' M' H' i rfl S0 eo q.1
    refine .inl ⟨j1 (by omega), ?_⟩
    obtain ⟨_, q⟩ := q
    cases m with
    | true =>
      exact k O' _ H' (.ptr D) _ (n1.trans ⟨S', eo⟩) (by simp only [Rp]) (q D hM)
    | false =>
      obtain ⟨O2, T, eo2, r2⟩ := S'.freeze (p := D) mset_same
      have eM : mdel (mset M' D (.lst acc)) D = M' := by rw [mdel_mset, mdel_of hM]
      rw [eM] at T
      exact k O2 M' H' (.lst true acc) _ (n1.trans ⟨T, eo.trans eo2⟩) r2 q

structure PTsD (X : Cx) (W : Ent → Prop) (ifs : List Expr) (d : DT) : Prop where
  ex : ∃ t, PTs X ifs t ∧ SndT X.K W t d
section
variable {X : Cx} {W : Ent → Prop} {tg iter elt c : Expr} {ifs : List Expr} {scope : Scope} {pos : Pos} {it : DI} {g : DG} {t : DT} {e : DE} {vs : List Nat}
theorem ptsd_nil : PTsD X W [] dyes := ⟨_, pts_nil, fun N O M δ σ H Q Qd w S L h k => k O M H true (Nxt.refl S) h⟩
theorem ptsd_one (h : PTD X W c t) : PTsD X W [c] t := by
  obtain ⟨u, h1, s1⟩ := h.ex
  exact ⟨_, pts_one h1, s1⟩
theorem fam_E (h : ∀ (s : Shared) (H : Hp) (C : Addr) (cl : List (Str × Addr)) (fp : List Addr), PD (X.blk s H scope (compEnvC scope cl C X.env) fp) W elt e) :
    ∃ u, (∀ (s : Shared) (H : Hp) (C : Addr) (cl : List (Str × Addr)) (fp : List Addr), PE (X.blk s H scope (compEnvC scope cl C X.env) fp) elt u) ∧ SndE X.K W u e :=
  ⟨fun σ H0 Q => ∀ s H C cl fp, Classical.choose (h s H C cl fp).ex σ H0 Q,
    fun s H C cl fp => ⟨fun pins s' σ H0 Q I z => (Classical.choose_spec (h s H C cl fp).ex).1.run pins s' σ H0 Q I (z s H C cl fp)⟩,
    fun N O M δ σ H0 Q Qd w S L q k s H C cl fp => (Classical.choose_spec (h s H C cl fp).ex).2 N O M δ σ H0 Q Qd w S L q k⟩
theorem fam_T (h : ∀ (s : Shared) (H : Hp) (C : Addr) (cl : List (Str × Addr)) (fp : List Addr), PTsD (X.blk s H scope (compEnvC scope cl C X.env) fp) W ifs t) :
    ∃ u, (∀ (s : Shared) (H : Hp) (C : Addr) (cl : List (Str × Addr)) (fp : List Addr), PTs (X.blk s H scope (compEnvC scope cl C X.env) fp) ifs u) ∧ SndT X.K W u t :=
  ⟨fun σ H0 Q => ∀ s H C cl fp, Classical.choose (h s H C cl fp).ex σ H0 Q,
    fun s H C cl fp => ⟨fun pins s' σ H0 Q I z => (Classical.choose_spec (h s H C cl fp).ex).1.run pins s' σ H0 Q I (z s H C cl fp)⟩,
    fun N O M δ σ H0 Q Qd w S L q k s H C cl fp => (Classical.choose_spec (h s H C cl fp).ex).2 N O M δ σ H0 Q Qd w S L q k⟩
theorem fam_G (h : ∀ (s : Shared) (H : Hp) (C : Addr) (cl : List (Str × Addr)) (fp : List Addr), PGL (X.blk s H scope (compEnvC scope cl C X.env) fp) W tg vs g) :
    ∃ u, (∀ (s : Shared) (H : Hp) (C : Addr) (cl : List (Str × Addr)) (fp : List Addr), PG (X.blk s H scope (compEnvC scope cl C X.env) fp) tg u) ∧ SndG X.K W u g ∧ Only u vs ∧ MonoG u :=
  ⟨fun v σ H0 Q => ∀ s H C cl fp, Classical.choose (h s H C cl fp).ex v σ H0 Q,
    fun s H C cl fp => ⟨fun pins s' σ H0 v u Q I r z => (Classical.choose_spec (h s H C cl fp).ex).1.run pins s' σ H0 v u Q I r (z s H C cl fp)⟩,
    fun N O M δ σ H0 x v Q Qd w S L r q k s H C cl fp => (Classical.choose_spec (h s H C cl fp).ex).2.1 N O M δ σ H0 x v Q Qd w S L r q k,
    fun v σ H0 Q z s H C cl fp => (Classical.choose_spec (h s H C cl fp).ex).2.2.1 v σ H0 Q (z s H C cl fp),
    fun v σ H0 Q Q' i z s H C cl fp => (Classical.choose_spec (h s H C cl fp).ex).2.2.2 v σ H0 Q Q' i (z s H C cl fp)⟩
theorem pd_lc (m : Bool) (own : List (Str × Nat)) (hW : Anti X.K W) (hN : X.N.Nodup) (hi : PID X W tg iter it) (ok : BlkOk X.N X.env.scope scope own)
    (hg : ∀ (s : Shared) (H : Hp) (C : Addr) (cl : List (Str × Addr)) (fp : List Addr), PGL (X.blk s H scope (compEnvC scope cl C X.env) fp) W tg (own.map (·.2)) g)
    (ht : ∀ (s : Shared) (H : Hp) (C : Addr) (cl : List (Str × Addr)) (fp : List Addr), PTsD (X.blk s H scope (compEnvC scope cl C X.env) fp) W ifs t)
    (he : ∀ (s : Shared) (H : Hp) (C : Addr) (cl : List (Str × Addr)) (fp : List Addr), PD (X.blk s H scope (compEnvC scope cl C X.env) fp) W elt e) (hc : X.calm = true := by rfl) (hs : ∀ x, foldedSetIterable iter X.env x = pure x := by intro _; rfl) :
    PD X W (.ListComp elt [⟨tg, iter, ifs, 0⟩] scope pos) (dlc m it g t e (own.map (·.2))) := by
  obtain ⟨wi, h1, s1⟩ := hi.ex
  obtain ⟨ug, h2, s2, o2, m2⟩ := fam_G hg
  obtain ⟨ut, h3, s3⟩ := fam_T ht
  obtain ⟨ue, h4, s4⟩ := fam_E he
  exact ⟨_, pe_lc hc hN h1 ok h2 h3 h4 hs, snd_lc hW s1 s2 o2 m2 s3 s4⟩
theorem psd_setLc (m : Bool) (i : Nat) (own : List (Str × Nat)) {y : Str} {py spos : Pos} (hW : Anti X.K W) (hN : X.N.Nodup)
    (hsw : swapsWith (.ListComp elt [⟨tg, iter, ifs, 0⟩] scope pos) (some (.Name y py)) spos.line X.env = pure true) (hi : PID X W tg iter it) (ok : BlkOk X.N X.env.scope scope own)
    (hg : ∀ (s : Shared) (H : Hp) (C : Addr) (cl : List (Str × Addr)) (fp : List Addr), PGL (X.blk s H scope (compEnvC scope cl C X.env) fp) W tg (own.map (·.2)) g)
    (ht : ∀ (s : Shared) (H : Hp) (C : Addr) (cl : List (Str × Addr)) (fp : List Addr), PTsD (X.blk s H scope (compEnvC scope cl C X.env) fp) W ifs t)
    (he : ∀ (s : Shared) (H : Hp) (C : Addr) (cl : List (Str × Addr)) (fp : List Addr), PD (X.blk s H scope (compEnvC scope cl C X.env) fp) W elt e) (hy : X.N[i]? = some y := by rfl) (hyl : X.env.scope.names.lookup y = some .local := by rfl) (hc : X.calm = true := by rfl) (hs : ∀ x, foldedSetIterable iter X.env x = pure x := by intro _; rfl) :
    PSD X W (.Assign [.Name y py] (.ListComp elt [⟨tg, iter, ifs, 0⟩] scope pos) spos) (dasg (dlc m it g t e (own.map (·.2))) i) := by
  obtain ⟨wi, h1, s1⟩ := hi.ex
  obtain ⟨ug, h2, s2, o2, m2⟩ := fam_G hg
  obtain ⟨ut, h3, s3⟩ := fam_T ht
  obtain ⟨ue, h4, s4⟩ := fam_E he
  refine ⟨_, ps_setLc hc hN hy hyl hsw h1 ok h2 h3 h4 hs, fun N D DD w C O M δ σ H S L h => ?_⟩
  exact snd_lc (m := m) hW s1 s2 o2 m2 s3 s4 N O M δ σ H _ _ w S L h fun O1 M1 H1 x v n r q => C.nx O1 M1 _ _ H1 n.st ((n.sl L).set r i) q
end
end DL

set_option maxRecDepth 100000
/-! DLf: defs by name; calls in their last form; ends. -/
namespace DL
open PySem PySem.Spec PyProof.Rows L2

structure Cal (gm : Bool) (P : Program) (w : World) (K : PySem.W.Frag) (mg : Str → Option Value) (base : Heap) (CX' : CXT) (x : Str) (k : Nat) (ps : List Str) (fd : FD) : Prop where
  ex : ∃ f fdt, FnOkG gm P w K mg base CX' k f fdt ps (spG K fd) ∧ mg x = some (.ref f) ∧ PySem.W.keepIn K (.ref f) = true ∧ Binds K fdt ps []
/-- a def of the text by its name -/
structure Def (K : PySem.W.Frag) (mg : Str → Option Value) (x : Str) (st : Stmt) : Prop where
  ex : ∃ f fdt, Fun K x x st f fdt ∧ mg x = some (.ref f)
abbrev Ed0 : ErrK := fun _ _ _ _ => False
theorem we0 {K : PySem.W.Frag} {W : Ent → Prop} : ∀ N, W N → WE K E0 Ed0 N := fun _ _ _ _ _ _ _ _ _ _ _ z => z.elim
section
variable {gm : Bool} {P : Program} {w : World} {K : PySem.W.Frag} {mg : Str → Option Value} {base : Heap}
theorem Cal.mk' {CX' : CXT} {x : Str} {st : Stmt} {k : Nat} {ps : List Str} {fd : FD} (D : Def K mg x st)
    (hb : ∀ (kV doc pm : Value) (an : Option Addr) (cdv ct : Value) (us : List Value), us.length = ps.length → bindArgs (PySem.W.fnOf x x (defArgs st) (defBody st) (defScope st) .none kV doc pm an cdv ct) ⟨us, []⟩ = pure (ps.zip us))
    (h : ∀ f fdt, Fun K x x st f fdt → FnOkG gm P w K mg base CX' k f fdt ps (spG K fd)) : Cal gm P w K mg base CX' x k ps fd := by
  obtain ⟨f, fdt, F, hm⟩ := D.ex
  exact ⟨f, fdt, h f fdt F, hm, F.kp, F.binds hb⟩
theorem Cal.imp {CX' : CXT} {x : Str} {k : Nat} {ps : List Str} {fd fd' : FD} (C : Cal gm P w K mg base CX' x k ps fd) (h : ∀ xs M Q E, fd' xs M Q E → fd xs M Q E) : Cal gm P w K mg base CX' x k ps fd' := by
  obtain ⟨f, fdt, F, a, b, c⟩ := C.ex
  exact ⟨f, fdt, F.imp fun vs H Q E ⟨O, Mc, xs, Qd, Ed, s, r, hf, q⟩ => ⟨O, Mc, xs, Qd, Ed, s, r, h _ _ _ _ hf, q⟩, a, b, c⟩
end
section
variable {gm : Bool} {Y : Cx} {W : Ent → Prop} {k : Nat} {ps : List Str} {CX' : CXT} {Er : ErrK} {E : XK} {x : Str} {p pos : Pos} {e : Expr} {es : List Expr} {dr : DA} {d : DE}
theorem pd_cP (n : Nat) {g : PF} (C : Cal gm Y.prog Y.w Y.K Y.mg Y.base CX' x k ps (PFd g)) (hr : RoomG gm k Y.A) (hx : Passes CX' Y E) (hW : ∀ N, W N → WE Y.K E Er N)
    (ha : PAD Y W (e :: es) dr) (hg : Gl Y x := by rfl) (hdb : (x == ("__debug__" : Str)) = false := by decide) (he : starEach (e :: es) Y.env = (false, eval e Y.env) :: starEach es Y.env := by rfl) (hpl : (backTo pos (starEach es Y.env)).any (·.1) = false := by rfl) :
    PD Y W (.Call (.Name x p) (e :: es) [] pos) (dcallP n g Er dr) := by
  obtain ⟨f, fdt, F, a, b, c⟩ := C.ex
  exact pd_callP n hW F hr a b c hx ha hg hdb he hpl
theorem pd_cN (n : Nat) {g : NF} (C : Cal gm Y.prog Y.w Y.K Y.mg Y.base CX' x k ps (NFd g)) (hr : RoomG gm k Y.A) (hx : Passes CX' Y E) (hW : ∀ N, W N → WE Y.K E Er N)
    (ha : PAD Y W (e :: es) dr) (hg : Gl Y x := by rfl) (hdb : (x == ("__debug__" : Str)) = false := by decide) (he : starEach (e :: es) Y.env = (false, eval e Y.env) :: starEach es Y.env := by rfl) (hpl : (backTo pos (starEach es Y.env)).any (·.1) = false := by rfl) :
    PD Y W (.Call (.Name x p) (e :: es) [] pos) (dcallN n true g Er dr) := by
  obtain ⟨f, fdt, F, a, b, c⟩ := C.ex
  exact pd_callN n hW F hr a b c hx ha hg hdb he hpl
theorem pd_cS (n : Nat) {g : SF} (C : Cal gm Y.prog Y.w Y.K Y.mg Y.base CX' x k ps (SFd g)) (hr : RoomG gm k Y.A) (hx : Passes CX' Y E0)
    (ha : PAD Y W (e :: es) dr) (hg : Gl Y x := by rfl) (hdb : (x == ("__debug__" : Str)) = false := by decide) (he : starEach (e :: es) Y.env = (false, eval e Y.env) :: starEach es Y.env := by rfl) (hpl : (backTo pos (starEach es Y.env)).any (·.1) = false := by rfl) :
    PD Y W (.Call (.Name x p) (e :: es) [] pos) (dcb (fS n g) dr) := by
  obtain ⟨f, fdt, F, a, b, c⟩ := C.ex
  exact pd_callS n (Er := Ed0) we0 F hr a b c hx ha hg hdb he hpl
/-- a new list of a def, owned from here on -/
theorem pd_cNF (n : Nat) {g : NF} (hmono : MonoN g) (C : Cal gm Y.prog Y.w Y.K Y.mg Y.base CX' x k ps (NFd g)) (hr : RoomG gm k Y.A) (hx : Passes CX' Y E) (hW : ∀ N, W N → WE Y.K E Er N)
    (ha : PAD Y W (e :: es) dr) (hg : Gl Y x := by rfl) (hdb : (x == ("__debug__" : Str)) = false := by decide) (he : starEach (e :: es) Y.env = (false, eval e Y.env) :: starEach es Y.env := by rfl) (hpl : (backTo pos (starEach es Y.env)).any (·.1) = false := by rfl) :
    PD Y W (.Call (.Name x p) (e :: es) [] pos) (dcallN n false g Er dr) := by
  obtain ⟨f, fdt, F, a, b, c⟩ := C.ex
  obtain ⟨t, h1, s1⟩ := ha.ex
  refine ⟨_, pe_callG F hr hg a b c hx h1 hdb he hpl, fun N O M δ σ H Q Qd w S L h kk => ?_⟩
  refine s1 N O M δ σ H _ _ w S L h fun O1 M1 H1 xs vs n1 r1 h => ?_
  have S1 := n1.st
  have sub : Sub m0 M1 := fun _ _ z => nomatch z
  refine ⟨O1, m0, xs.map (vw m0 M1 n), fun y M' => ∃ p zs, y = .ptr p ∧ M' = mset m0 p (.lst zs) ∧ Qd (.lst true zs) M1, fun C ns ys M' => M' = m0 ∧ Er C ns ys M1, S1.enter sub, by rw [List.append_nil]; exact vwA_ok S1 sub n r1, ⟨rfl, hmono _ _ _ _ (fun zs hq p _ => ⟨p, zs, rfl, rfl, hq⟩) ?_⟩, ?_, ?_⟩
  · have e0 : (fun (C : Addr) (ns : List Str) (ys : List DL.X) => (m0 = m0) ∧ Er C ns ys M1) = fun C ns ys => Er C ns ys M1 := by
      funext C ns ys
      exact propext ⟨fun h => h.2, fun h => ⟨rfl, h⟩⟩
    rw [e0]
    exact h
  · intro O' M' H' y v S' r' oy om q
    obtain ⟨p, zs, rfl, rfl, q⟩ := q
    have n2 := S1.back sub S' om
    rw [mun_new] at n2
    obtain ⟨O2, T, eo, r2⟩ := n2.st.freeze (p := p) mset_same
    have pm : M1 p = none := by
      rcases S'.mf p _ mset_same with z | z
      · exact S1.mnone z
      · exact absurd rfl z
    rw [mdel_mset, mdel_of pm] at T
    have rv : v = .ref p := by simpa only [Rp] using r'
    rw [rv]
    exact kk O2 M1 H' _ _ (n1.trans ⟨T, n2.eo.trans eo⟩) r2 q
  · intro O' M' H' C d ns ys S' r' oy om q
    obtain ⟨rfl, q⟩ := q
    have n2 := S1.back sub S' om
    rw [mun_m0] at n2
    refine hW N w O' _ H' C d ns ys n2.st ?_ q
    unfold ErrRep at r' ⊢
    split at r'
    · exact r'
    · obtain ⟨a, vs', e1, e2, e3, r'⟩ := r'
      exact ⟨a, vs', e1, e2, e3, r'.own ys oy⟩
end

/-! ### ends -/
theorem rt_pure {Qd : VKd} {y : X} {M : Mu} (o : own y = true) (h : Qd y m0) : rtK Qd y M := by
  have h1 : Sub m0 M := fun _ _ z => nomatch z
  have h2 : ownM m0 := fun _ _ z => nomatch z
  exact ⟨m0, h1, o, h2, h⟩
theorem rt_new {Qd : VKd} {p : Addr} {zs : List X} {M : Mu} (e : M p = some (.lst zs)) (o : ownA zs = true) (h : Qd (.ptr p) (mset m0 p (.lst zs))) : rtK Qd (.ptr p) M := by
  have h1 : Sub (mset m0 p (.lst zs)) M := fun a c q => by
    by_cases z : a = p
    · rw [z, mset_same] at q; rw [z, e]; exact q
    · rw [mset_ne z] at q; cases q
  have h2 : ownM (mset m0 p (.lst zs)) := fun a c q => by
    by_cases z : a = p
    · rw [z, mset_same] at q; cases q; exact o
    · rw [mset_ne z] at q; cases q
  exact ⟨_, h1, rfl, h2, h⟩
theorem rt_st {Qd : VKd} {y : X} {M0 M : Mu} {st : Addr} {nums : List Int} {k : Int} (h0 : ∀ a, a ≠ st → M0 a = none) (e : M st = some (stC nums k)) (o : own y = true) (h : Qd y (mset M0 st (stC nums k))) : rtK Qd y M := by
  have h1 : Sub (mset M0 st (stC nums k)) M := fun a c q => by
    by_cases z : a = st
    · rw [z, mset_same] at q; rw [z, e]; exact q
    · rw [mset_ne z, h0 a z] at q; cases q
  have h2 : ownM (mset M0 st (stC nums k)) := fun a c q => by
    by_cases z : a = st
    · rw [z, mset_same] at q; cases q
      show ownA [.lst true (nums.map .int), .int k] = true
      simp only [ownA, own, ownA_map X.int (fun _ => rfl), Bool.and_self]
    · rw [mset_ne z, h0 a z] at q; cases q
  exact ⟨_, h1, o, h2, h⟩
end DL

set_option maxRecDepth 100000
/-! DLg: the built-in names. -/
namespace DL
open PySem PySem.Spec PyProof.Rows L2
structure Blt (mg : Str → Option Value) : Prop where
  len : mg "len" = none
  abs : mg "abs" = none
  int : mg "int" = none
  range : mg "range" = none
  list : mg "list" = none
  isinstance : mg "isinstance" = none
  sorted : mg "sorted" = none
  set : mg "set" = none
  repr : mg "repr" = none
end DL

set_option maxRecDepth 100000
/-! DLh: lemmas that reckon. -/
namespace DL
open PySem PySem.Spec PyProof.Rows L2
section
variable {α : Type}
theorem atI_zero {x : α} {xs : List α} : atI (x :: xs) 0 = some x := atI_nat (j := 0) rfl
theorem atI_one {x y : α} {xs : List α} : atI (x :: y :: xs) 1 = some y := atI_nat (j := 1) rfl
theorem atI_two {x y z : α} {xs : List α} : atI (x :: y :: z :: xs) 2 = some z := atI_nat (j := 2) rfl
theorem atI_three {x y z w : α} {xs : List α} : atI (x :: y :: z :: w :: xs) 3 = some w := atI_nat (j := 3) rfl
theorem atI_map {β : Type} (f : β → α) {xs : List β} {i : Int} (h0 : 0 ≤ i) (h : i < xs.length) (d : β) : atI (xs.map f) i = some (f (xs.getD i.toNat d)) := by
  obtain ⟨j, rfl⟩ : ∃ j : Nat, i = j := ⟨i.toNat, by omega⟩
  have hj : j < xs.length := by omega
  refine atI_nat ?_
  rw [List.getElem?_map, List.getElem?_eq_getElem hj]
  simp [List.getD, List.getElem?_eq_getElem hj]
theorem ixN_of {n : Nat} {i : Int} (h0 : 0 ≤ i) (h : i < n) : ixN n i = some i.toNat := by
  unfold ixN
  rw [if_pos h0, if_pos h]
theorem ixN_zero {n : Nat} : ixN (n + 1) 0 = some 0 := ixN_of (by omega) (by omega)
theorem ixN_one {n : Nat} : ixN (n + 1 + 1) 1 = some 1 := ixN_of (by omega) (by omega)
end

/-! ### loops, by a word of the turn; R: what the rest of the loop is worth -/
theorem dfor_ix {g : DG} {b : DS} {c : Mu → Prop} {DD : EndsD} {xs : List X} {δ : Dl} {M : Mu} (I : Nat → Dl → Mu → Prop) (h0 : I 0 δ M) (hnil : ∀ δ M, I xs.length δ M → c M ∧ DD.nx δ M)
    (hstep : ∀ (i : Nat) (x : X) (δ : Dl) (M : Mu) (R : Dl → Mu → Prop), xs[i]? = some x → I i δ M → (∀ δ' M', I (i + 1) δ' M' → R δ' M') → c M ∧ g x δ M fun δ1 M1 => b { DD with nx := R, ct := R, bk := DD.nx } δ1 M1) : dfor g b c xs DD δ M := by
  have go : ∀ (m i : Nat) (δ : Dl) (M : Mu), m + i = xs.length → I i δ M → dfor g b c (xs.drop i) DD δ M := by
    intro m
    induction m with
    | zero =>
      intro i δ M e h
      have e' : i = xs.length := by omega
      subst e'
      rw [List.drop_length]
      exact hnil δ M h
    | succ m ih =>
      intro i δ M e h
      have hi : i < xs.length := by omega
      rw [List.drop_eq_getElem_cons hi]
      exact hstep i _ δ M _ (List.getElem?_eq_getElem hi) h fun δ' M' h' => ih (i + 1) δ' M' (by omega) h'
  have := go xs.length 0 δ M (by omega) h0
  rwa [List.drop_zero] at this
/-- over f 0, f 1, .. -/
theorem dfor_rng {g : DG} {b : DS} {c : Mu → Prop} {DD : EndsD} {n : Nat} {f : Nat → X} {δ : Dl} {M : Mu} (I : Nat → Dl → Mu → Prop) (h0 : I 0 δ M) (hnil : ∀ δ M, I n δ M → c M ∧ DD.nx δ M)
    (hstep : ∀ (i : Nat) (δ : Dl) (M : Mu) (R : Dl → Mu → Prop), i < n → I i δ M → (∀ δ' M', I (i + 1) δ' M' → R δ' M') → c M ∧ g (f i) δ M fun δ1 M1 => b { DD with nx := R, ct := R, bk := DD.nx } δ1 M1) : dfor g b c ((List.range n).map f) DD δ M := by
  refine dfor_ix I h0 (fun δ M h => hnil δ M (by simpa using h)) fun i x δ M R e h k => ?_
  have hi : i < n := by
    have := (List.getElem?_eq_some_iff.mp e).1
    simpa using this
  have ex : x = f i := by
    rw [List.getElem?_map, List.getElem?_range hi] at e
    exact (Option.some.inj e).symm
  rw [ex]
  exact hstep i δ M R hi h k
/-- over the items of a list of data -/
theorem dfor_map {α : Type} {g : DG} {b : DS} {c : Mu → Prop} {DD : EndsD} {as : List α} {f : α → X} {δ : Dl} {M : Mu} (I : Nat → Dl → Mu → Prop) (h0 : I 0 δ M) (hnil : ∀ δ M, I as.length δ M → c M ∧ DD.nx δ M)
    (hstep : ∀ (i : Nat) (a : α) (δ : Dl) (M : Mu) (R : Dl → Mu → Prop), as[i]? = some a → I i δ M → (∀ δ' M', I (i + 1) δ' M' → R δ' M') → c M ∧ g (f a) δ M fun δ1 M1 => b { DD with nx := R, ct := R, bk := DD.nx } δ1 M1) : dfor g b c (as.map f) DD δ M := by
  refine dfor_ix I h0 (fun δ M h => hnil δ M (by simpa using h)) fun i x δ M R e h k => ?_
  rw [List.getElem?_map] at e
  cases ea : as[i]? with
  | none => rw [ea] at e; cases e
  | some a =>
    rw [ea] at e
    have ex : f a = x := Option.some.inj e
    rw [← ex]
    exact hstep i a δ M R ea h k
/-- comprehensions: the turns one after another -/
theorem dlc_ix {g : DG} {t : DT} {e : DE} {c : Mu → Prop} {δ0 : Dl} {xs : List X} {M : Mu} {Q : List X → Mu → Prop} (I : Nat → List X → Mu → Prop) (h0 : I 0 [] M) (hnil : ∀ acc M, I xs.length acc M → c M ∧ Q acc M)
    (hstep : ∀ (i : Nat) (x : X) (acc : List X) (M : Mu) (R : List X → Mu → Prop), xs[i]? = some x → I i acc M → (∀ acc' M', I (i + 1) acc' M' → R acc' M') → c M ∧ g x δ0 M fun δ1 M1 => t δ1 M1 fun b M2 => match b with
      | true => e δ1 M2 fun y M3 => acc.length < sizeLine ∧ R (acc ++ [y]) M3
      | false => R acc M2) : dlcGo g t e c δ0 xs [] M Q := by
  have go : ∀ (m i : Nat) (acc : List X) (M : Mu), m + i = xs.length → I i acc M → dlcGo g t e c δ0 (xs.drop i) acc M Q := by
    intro m
    induction m with
    | zero =>
      intro i acc M e h
      have e' : i = xs.length := by omega
      subst e'
      rw [List.drop_length]
      exact hnil acc M h
    | succ m ih =>
      intro i acc M ee h
      have hi : i < xs.length := by omega
      rw [List.drop_eq_getElem_cons hi]
      exact hstep i _ acc M (fun acc M => dlcGo g t e c δ0 (xs.drop (i + 1)) acc M Q) (List.getElem?_eq_getElem hi) h fun acc' M' h' => ih (i + 1) acc' M' (by omega) h'
  have := go xs.length 0 [] M (by omega) h0
  rwa [List.drop_zero] at this
/-- [e for x in ..] where each turn's value is a function of the item and nothing mutable turns -/
theorem dlc_map {α : Type} {g : DG} {e : DE} {c : Mu → Prop} {δ0 : Dl} {as : List α} {f : α → X} {v : α → X} {M : Mu} {Q : List X → Mu → Prop} (hl : as.length ≤ 1000000) (hc : c M) (hq : Q (as.map v) M)
    (hstep : ∀ (a : α) (R : X → Mu → Prop), a ∈ as → R (v a) M → g (f a) δ0 M fun δ1 M1 => e δ1 M1 R) : dlcGo g dyes e c δ0 (as.map f) [] M Q := by
  refine dlc_ix (fun i acc M' => M' = M ∧ acc = (as.take i).map v) ⟨rfl, rfl⟩ (fun acc M' h => ?_) fun i x acc M' R ex h k => ?_
  · obtain ⟨rfl, rfl⟩ := h
    refine ⟨hc, ?_⟩
    rw [List.length_map, List.take_length]
    exact hq
  · obtain ⟨rfl, rfl⟩ := h
    rw [List.getElem?_map] at ex
    cases ea : as[i]? with
    | none => rw [ea] at ex; cases ex
    | some a =>
      rw [ea] at ex
      have ex' : f a = x := Option.some.inj ex
      subst ex'
      refine ⟨hc, ?_⟩
      have hm : a ∈ as := List.mem_of_getElem? ea
      have hi := (List.getElem?_eq_some_iff.mp ea).1
      refine hstep a _ hm ⟨?_, k _ _ ⟨rfl, ?_⟩⟩
      · rw [List.length_map, List.length_take, sizeLine_eq]
        omega
      · rw [List.take_add_one, ea, List.map_append]
        rfl
theorem dlc_rng {n : Nat} {g : DG} {e : DE} {c : Mu → Prop} {δ0 : Dl} {f : Nat → X} {v : Nat → X} {M : Mu} {Q : List X → Mu → Prop} (hl : n ≤ 1000000) (hc : c M) (hq : Q ((List.range n).map v) M)
    (hstep : ∀ (i : Nat) (R : X → Mu → Prop), i < n → R (v i) M → g (f i) δ0 M fun δ1 M1 => e δ1 M1 R) : dlcGo g dyes e c δ0 ((List.range n).map f) [] M Q :=
  dlc_map (as := List.range n) (by rw [List.length_range]; exact hl) hc hq fun a R ha => hstep a R (List.mem_range.mp ha)
/-- a comprehension over a range whose elements change the state -/
theorem dlc_rngI {n : Nat} {g : DG} {e : DE} {c : Mu → Prop} {δ0 : Dl} {f : Nat → X} {M : Mu} {Q : List X → Mu → Prop} (I : Nat → List X → Mu → Prop) (h0 : I 0 [] M) (hnil : ∀ acc M, I n acc M → c M ∧ Q acc M)
    (hstep : ∀ (i : Nat) (acc : List X) (M : Mu) (R : List X → Mu → Prop), i < n → I i acc M → (∀ acc' M', I (i + 1) acc' M' → R acc' M') → c M ∧ g (f i) δ0 M fun δ1 M1 => e δ1 M1 fun y M3 => acc.length < sizeLine ∧ R (acc ++ [y]) M3) :
    dlcGo g dyes e c δ0 ((List.range n).map f) [] M Q := by
  refine dlc_ix I h0 (fun acc M h => hnil acc M (by simpa using h)) fun i x acc M R ex h k => ?_
  have hi : i < n := by
    have := (List.getElem?_eq_some_iff.mp ex).1
    simpa using this
  have e1 : x = f i := by
    rw [List.getElem?_map, List.getElem?_range hi] at ex
    exact (Option.some.inj ex).symm
  subst e1
  exact hstep i acc M R hi h k
end DL

set_option maxRecDepth 100000
set_option maxHeartbeats 2000000
/-! EXa: an own exception class over ValueError whose __init__ begins with super().__init__(text). -/
namespace L2
open PySem PySem.Spec PyProof.Rows

/-- names: the parameters first; one free name, __class__ -/
structure SupScope (N P : List Str) (sc : Scope) : Prop where
  kind : sc.kind = .function
  co : sc.isCoroutine = false
  gen : sc.isGenerator = false
  nd : N.Nodup
  pre : N.take P.length = P
  par : ∀ x ∈ P, sc.names.lookup x = some .local
  nocell : ∀ y ∈ sc.names, y.2 ≠ .cell
  free : ∀ y ∈ sc.names, y.2 = .free → y.1 = ("__class__" : Str)

def cxSup (CX : CXT) (P : Program) (w : World) (K : PySem.W.Frag) (mg : Str → Option Value) (base : Heap) (N : List Str) (qual : Str) (scope : Scope) (f : Addr) (cd : Value) (cc : Addr) (A : Around) (outer : List Env) (s : Shared) (H : Hp) (E : XK) : Cx where
  prog := P
  w := w
  K := K
  mg := mg
  base := base
  A := A.deeper (PySem.W.ksEnv qual scope s.heap.objs.size f cd cc)
  N := N
  s_0 := s
  H_0 := H
  env := PySem.W.ksEnv qual scope s.heap.objs.size f cd cc
  outer := outer
  stack := PySem.W.ksEnv qual scope s.heap.objs.size f cd cc :: outer
  ex := []
  calm := true
  fn := fun _ => false
  pn := []
  xe := fun e s' => wpAny (model P w) (A.deeper (PySem.W.ksEnv qual scope s.heap.objs.size f cd cc)) (leaving (PySem.W.ksEnv qual scope s.heap.objs.size f cd cc) e) (fun _ s'' => CX outer H s E e s'') (fun e' s'' => CX outer H s E e' s'') s'

theorem lk_class {cc c : Addr} {x : Str} (h : ([(("__class__" : Str), cc)] : List (Str × Addr)).lookup x = some c) : x = ("__class__" : Str) ∧ c = cc := by
  simp only [List.lookup] at h
  split at h
  · rename_i e
    exact ⟨by simpa using e, (Option.some.inj h).symm⟩
  · cases h

theorem lookupB_get : ∀ {P : List Str} {us : List Value} {i : Nat} {x : Str} {u : Value}, P.Nodup → P[i]? = some x → us[i]? = some u → (P.zip us).reverse.lookup x = some u := by
  intro P us i x u nd h1 h2
  have key : ∀ {l : List (Str × Value)} {x : Str} {u : Value}, (l.map (·.1)).Nodup → (x, u) ∈ l → l.lookup x = some u := by
    intro l
    induction l with
    | nil => intro x u _ h; cases h
    | cons p l ih =>
      intro x u nd h
      obtain ⟨y, v⟩ := p
      rw [List.map_cons, List.nodup_cons] at nd
      by_cases e : x = y
      · subst e
        rcases List.mem_cons.mp h with h | h
        · cases h
          simp [List.lookup]
        · refine absurd (List.mem_map.mpr ⟨(x, u), ?_, rfl⟩ : x ∈ l.map (·.1)) nd.1
          exact h
      · have hne : (x == y) = false := by simpa using e
        simp only [List.lookup, hne]
        rcases List.mem_cons.mp h with h | h
        · cases h
          exact absurd rfl e
        · exact ih nd.2 h
  have hz : (x, u) ∈ P.zip us := by
    refine List.mem_of_getElem? (i := i) ?_
    rw [List.getElem?_zip_eq_some]
    exact ⟨h1, h2⟩
  refine key ?_ (List.mem_reverse.mpr hz)
  rw [List.map_reverse]
  refine List.pairwise_reverse.mpr ?_
  have zs : ∀ (P : List Str) (us : List Value), ((P.zip us).map (·.1)).Sublist P := by
    intro P
    induction P with
    | nil => intro us; simp
    | cons p P ih =>
      intro us
      cases us with
      | nil => simp
      | cons u us => exact (ih us).cons_cons p
  have := zs P us
  exact (nd.sublist this).imp fun h e => h e.symm

theorem inv_sup {CX : CXT} {P : Program} {w : World} {K : PySem.W.Frag} {mg : Str → Option Value} {base : Heap} {N ps : List Str} {qual : Str} {scope : Scope} {f cc : Addr} {cd cl cv : Value} {cld : Option Addr} {csl : Array (Option Value)} {A : Around} {outer : List Env} {s : Shared} {h1 : Heap} {H : Hp} {E : XK} {us : List Value} {vs : List V}
    (S : SupScope N ps scope) (hcell : K.lookup cc = some ⟨cl, cld, .cell (some cv), csl⟩) (hd : A.handled = none) (e0 : Env0 P w K mg base A outer s H) (hl : vs.length = ps.length) (r : Vals vs us)
    (hn : h1.Ns s.heap.objs.size (fun x => (ps.zip us).reverse.lookup x)) (hk : ∀ b o, s.heap.get? b = some o → h1.get? b = some o) {t' : Nat} :
    Inv (cxSup CX P w K mg base N qual scope f cd cc A outer s H E) [] (start N vs) H { s with heap := h1, toks := t' } := by
  have hpl : ps.length ≤ N.length := by have := congrArg List.length S.pre; rw [List.length_take] at this; omega
  have noA : ∀ b : Addr, b ∉ (cxSup CX P w K mg base N qual scope f cd cc A outer s H E).ex := fun b z => absurd (show b ∈ ([] : List Addr) from z) (by simp)
  have hcb := e0.mod.kin _ _ hcell
  have hcs := (e0.bs _ _ hcb)
  refine ⟨⟨e0.mod, S.kind, rfl, rfl, Nat.le_refl _, fun y z c h1 h2 => ?_, fun y hy => ?_, fun y c hf h => ?_, fun _ => hd, Around.frames_deeper e0.frames, .inr ⟨rfl, rfl⟩, fun b z => absurd z (noA b), e0.bs, e0.bsz, fun b _ _ => noA b, fun b z => absurd z (noA b), e0.funs, e0.frf⟩,
    rfl, e0.bare, Un.kept hk, ⟨_, hn, fun i y v h1 h2 h3 => ?_⟩, fun y c h => ?_, e0.hok.fresh (Nat.le_refl _), fun y c h => ?_, fun p hp => absurd (show p ∈ ([] : List (Addr × Obj)) from hp) (by simp), e0.hok.kept hk, ?_⟩
  · exact (lk_class h1).1.trans (lk_class h2).1.symm
  · have hy : scope.names.lookup y = some .cell ∨ scope.names.lookup y = some .free := hy
    rcases hy with hy | hy
    · exact absurd rfl (S.nocell _ (PySem.mem_of_lookup hy))
    · have := S.free _ (PySem.mem_of_lookup hy) rfl
      dsimp only at this
      subst this
      exact ⟨cc, by show ([(("__class__" : Str), cc)] : List (Str × Addr)).lookup _ = _; simp [List.lookup]⟩
  · exact absurd (show false = true from hf) Bool.false_ne_true
  · have hi : i < vs.length := by
      unfold start at h2
      by_cases hi : i < vs.length
      · exact hi
      · rw [List.getElem?_append_right (by simpa using hi)] at h2
        rw [List.getElem?_replicate] at h2
        split at h2 <;> cases h2
    have ha : vs[i]? = some v := by
      unfold start at h2
      rw [List.getElem?_append_left (by simpa using hi), List.getElem?_map] at h2
      cases e : vs[i]? with
      | none => rw [e] at h2; cases h2
      | some a => rw [e] at h2; cases h2; rfl
    obtain ⟨u, hu, rv⟩ := r.get ha
    have hp : ps[i]? = some y := by
      rw [← S.pre, List.getElem?_take_of_lt (by omega)]; exact h1
    have ndP : ps.Nodup := by rw [← S.pre]; exact S.nd.sublist (List.take_sublist _ _)
    exact ⟨u, rv, .inl ⟨S.par y (List.mem_of_getElem? hp), lookupB_get ndP hp hu⟩⟩
  · obtain ⟨_, rfl⟩ := lk_class h
    exact ⟨_, _, hk _ _ hcs.1, rfl⟩
  · obtain ⟨_, rfl⟩ := lk_class h
    exact hcs.2
  · unfold start
    show _ = N.length
    rw [List.length_append, List.length_map, List.length_replicate]
    omega

/-- what the written part says of the class C and its __init__ at f -/
structure SupC (P : Program) (K : PySem.W.Frag) (mg : Str → Option Value) (scope : Scope) (params : Arguments) (f C cc cda : Addr) : Prop where
  code : ∃ ccl cdd vs ccs file tf, K.lookup cda = some ⟨ccl, cdd, .fields vs, ccs⟩ ∧ vs[2]? = some (.str file tf) ∧ ((P.main.file : Str) == file) = true
  cell : ∃ cl cld csl, K.lookup cc = some ⟨cl, cld, .cell (some (.ref C)), csl⟩
  self : ∃ ar, (params.posonlyargs ++ params.args).head? = some ar ∧ ar.arg = ("self" : Str)
  sub : PySem.W.mroIn K C (.ref C) = some true
  sup : mg "super" = none
  nmS : scope.names.lookup ("super" : Str) = some .globalImplicit
  nmC : scope.names.lookup ("__class__" : Str) = some .free
  nmI : scope.names.lookup ("self" : Str) = some .local
  top : (P.main.scope.names.lookup ("super" : Str)).isSome = false
  opq : PySem.W.nsIn K cStatics "thirdparty.any" = some none
  ini : PySem.W.ks_superIn K C C "__init__" = some (some (.builtin "ValueError.__init__"))
  isV : PySem.W.subIn K (.ref C) (.type "ValueError") = some true
  oex : OexC K C

section
variable {prog : Program} {w : World} {A : Around} {E : Value → Shared → Prop} {h : Heap} {g : Array GenState} {d : Drawn} {t : Nat} {os : OsState}
/-- the wrapper of ValueError.__init__ called -/
theorem call_mw {nm q : Str} {C N : Addr} {bs bm : List Value} {hdct : Bool} {sn : List Str} {sub : List Value} {ab : Bool} {col : Option Bool} {dd : Option Addr} {k0 k1 k2 k3 k5 : Option Value} {u x t0 : Addr} {rest : List Value} {Q : Value → Shared → Prop}
    (hC : h.get? C = some (excClassObj nm q C N bs bm hdct sn sub ab col dd k0 k1 k2 k3 k5 "ValueError.__new__")) (he : h.get? x = some (PySem.W.excObj C t0 none .none)) (hu : h.get? u = some (PySem.W.kxs_mw "ValueError.__init__" x)) (hrest : rest.length ≤ sizeLine)
    (hq : ∀ h' t1, (∀ b o, b ≠ x → h.get? b = some o → h'.get? b = some o) → h'.get? x = some (PySem.W.excObj C t1 none .none) → Q .none ⟨h', g, d, t, os⟩) :
    wpAny (model prog w) A (call (.ref u) rest) Q E ⟨h, g, d, t, os⟩ := by
  refine wpAny_call (codeAny_of_tree ?_)
  show wpAny _ A.in1 (callAny (.ref u) ⟨rest, []⟩) _ _ _
  simp only [callAny]
  refine wpAny_bind (wpAny_load hu ?_)
  simp only [PySem.W.kxs_mw, show (Value.type "method-wrapper" == Value.type "method" || Value.type "method-wrapper" == Value.type "builtin_function_or_method" || Value.type "method-wrapper" == Value.type "method-wrapper") = true by decide, if_true]
  refine PySem.W.KFB.if_so (by decide) ?_
  refine wpAny_bind (PySem.W.check_bound_init F.excBase_ValueError.toExcCallFacts hC he rfl ?_)
  refine wpAny_bind (wpAny_pure (wpAny_pure ?_))
  refine ⟨plainId_quiet F.excBase_ValueError.init.plain _, codeAny_builtin F.excBase_ValueError.initEntry ?_⟩
  exact PySem.W.exc_init_tree (cls := .ref C) (t0 := t0) (dv := none) (c2 := .none) (c3 := .none) (b4 := .bool false) he hrest fun h' k e' t' => hq h' _ k e'
end

section
variable {X : Cx} {qual : Str} {scope : Scope} {params : Arguments} {f C cc cda a : Addr} {σ : St} {H : Hp} {s : Shared}
theorem ss_super {body : List Stmt} {fd : FuncData} {oc : Value} {od : Option Addr} {osl : Array (Option Value)} {L : Addr} {msg : Expr} {tm : TE} {p0 p1 p2 p3 p4 : Pos} {Q : Flow → Shared → Prop}
    (hX : X.env = PySem.W.ksEnv qual scope L f (.ref cda) cc) (hk : scope.kind = .function) (T : SupC X.prog X.K X.mg scope params f C cc cda)
    (lk : X.K.lookup f = some ⟨oc, od, .func fd, osl⟩) (hpar : fd.params = params)
    (I : Inv X [] σ H s) (ea : H a = some (exo a C none)) (hself : X.N[0]? = some ("self" : Str)) (hσ : σ[0]? = some (some (.ref a)))
    {R : Hp → Prop} (hm : PE X msg tm) (h : tm σ H fun _ H1 => H1 a = some (exo a C none) ∧ R H1) (hR : ∀ H1 s', Inv X [] σ H1 s' → R H1 → Q .next s')
    (hsw : swapsWith (.Call (.Attribute (.Call (.Name "super" p0) [] [] p1) "__init__" p2) [msg] [] p3) none p4.line X.env = pure false := by rfl)
    (hev : ∃ pl : Sem Bool, eval (.Call (.Attribute (.Call (.Name "super" p0) [] [] p1) "__init__" p2) [msg] [] p3) X.env = (do
      let ov ← attributeBase (.Call (.Name "super" p0) [] [] p1) "__init__" X.env (eval (.Call (.Name "super" p0) [] [] p1) X.env)
      standAt p2.atName
      let (f, first) ← holding [ov] (getMethod ov "__init__" pl)
      callWith p3 f first (backTo p3 (starEach [msg] X.env)) []))
    (hst : starEach [msg] X.env = (false, eval msg X.env) :: starEach [] X.env := by rfl) :
    _root_.PySem.wpAt (model X.prog X.w) X.A (.func body X.env) (exec (.Expr (.Call (.Attribute (.Call (.Name "super" p0) [] [] p1) "__init__" p2) [msg] [] p3) p4) X.env) Q X.xe s := by
  obtain ⟨ccl, cdd, vs, ccs, file, tf, hcode, hvs, hfile⟩ := T.code
  obtain ⟨cl, cld, csl, hcell⟩ := T.cell
  obtain ⟨ar, hp, har⟩ := T.self
  obtain ⟨nm, q, N, bs, bm, sn, sub, ab, col, dd, k0, k1, k2, k3, k5, hC, hbm⟩ := T.oex.cls
  have hcl : PySem.W.clsIn X.K C = some { name := nm, bases := bs, mro := .ref C :: bm, ns := N, qualname := q, hasDict := true, slotNames := sn, subclasses := sub, abstract := ab, collection := col, hasDel := false } := by unfold PySem.W.clsIn; rw [hC] <;> rfl
  have KX := I.kIn
  obtain ⟨t1, ho⟩ := exo_at I.hok ea
  have hkk : X.env.scope.kind = .function := I.ok.kind
  have hks : X.env.kindOf "super" = some .globalImplicit := by rw [hX]; exact T.nmS
  have hkc : X.env.kindOf "__class__" = some .free := by rw [hX]; exact T.nmC
  have hki : X.env.kindOf "self" = some .local := by rw [hX]; exact T.nmI
  have hlc : X.env.cells.lookup ("__class__" : Str) = some cc := by rw [hX]; show ([(("__class__" : Str), cc)] : List (Str × Addr)).lookup _ = _; simp [List.lookup]
  have hfun : X.env.func = some f := by rw [hX]
  have hcdv : X.env.code = .ref cda := by rw [hX]
  have hsub := T.sub
  refine PySem.ks_wpAt_Expr_any ?_ I.quiet hsw
  obtain ⟨pl, hev⟩ := hev
  refine PySem.ks_wpAt_MethodCall (pl := pl) ?_ hev
  subst hpar
  refine PySem.ks_wpAt_super_base hks hkc (by decide) hfun (KX _ _ lk) rfl hp hcdv (KX _ _ hcode) rfl hvs hfile T.top ?_
  obtain ⟨mb, hb1, hb2⟩ := I.mod.blt
  refine PySem.W.ks_loadName_global hkk hks (Calls.loadGlobal_builtin (by rw [I.ok.glob]; exact I.mod.glob.keeps I.bk) T.sup (by rw [I.ok.blt]; exact hb1.keeps I.bk) ((hb2 _ (by decide)).trans (by first | rfl | kernel_rfl)) ⟨rfl, ?_⟩)
  refine wpAny_loadName_free hkk hkc hlc ⟨_, KX _ _ hcell, rfl⟩ ?_
  obtain ⟨m, hns, hloc⟩ := I.loc
  obtain ⟨u, ru, hu⟩ := hloc 0 "self" (.ref a) hself hσ (by rw [hX]; exact .inl T.nmI)
  obtain rfl : u = Value.ref a := ru
  have hmv : m "self" = some (.ref a) := by
    rcases hu with ⟨_, hu⟩ | ⟨hu, _⟩
    · exact hu
    · rw [hki] at hu
      rcases hu with hu | hu <;> cases hu
  rw [har]
  refine wpAny_loadName_local hkk hki hns hmv ?_
  refine PySem.ks_wpAny_isType_cls (KX _ _ hC) rfl ⟨rfl, ?_⟩
  obtain ⟨hh, g, d, t, os⟩ := s
  refine PySem.ks_wpAny_call_super (KX _ _ hC) rfl ho rfl (fun c e => nomatch e) (PySem.W.looks_mroIn KX hsub) (fun h' e k => ?_)
  have I1 : Inv X [] σ H ⟨h', g, d, t, os⟩ := I.kept (t' := t) k
  have KX1 := I1.kIn
  have hini := T.ini
  unfold PySem.W.ks_superIn at hini
  rw [hcl] at hini
  have J : PySem.W.InstAt h' a { cls := .ref C, dict := none, data := .fields #[.ref t1, .none, .none, .none, .bool false, .none] } C none := ⟨k _ _ ho, rfl, rfl, trivial⟩
  refine PySem.W.kxs_getMethod PySem.W.kxs_ValueError e (PySem.W.looks_opaque KX1 T.opq) (l₀ := .ref C :: bm) ?_ rfl KX1 hini (J.type.andThen (PySem.W.looks_subIn KX1 T.isV)) (PySem.W.ks_ne KX1 J hcl) (by decide) ?_
  · exact fun A Q E s k q => wpAny_bind ((PySem.W.looks_clsIn KX1 hcl) A _ E s k (wpAny_pure q))
  have I2 : Inv X [] σ H ⟨h'.push (PySem.W.kxs_mw "ValueError.__init__" a), g, d, t + 1, os⟩ := I1.kept (t' := t + 1) fun b o z => Heap.get?_push_of_some _ z
  have hmw : (h'.push (PySem.W.kxs_mw "ValueError.__init__" a)).get? h'.objs.size = some (PySem.W.kxs_mw "ValueError.__init__" a) := Heap.get?_push_at rfl rfl
  have hfr : H h'.objs.size = none := I1.hok.fresh (Nat.le_refl _)
  have I3 : Inv X [(h'.objs.size, PySem.W.kxs_mw "ValueError.__init__" a)] σ H ⟨h'.push (PySem.W.kxs_mw "ValueError.__init__" a), g, d, t + 1, os⟩ := I2.pins_of fun p hp => by
    rcases List.mem_cons.mp hp with rfl | hp
    · refine ⟨hmw, hfr, Nat.ne_of_gt I1.lt, I1.nofs (Nat.le_refl _), fun v z => nomatch z⟩
    · exact absurd hp (by simp)
  show wpAny _ _ (callWith p3 (Value.ref h'.objs.size) [] (backTo p3 (starEach [msg] X.env)) []) _ _ _
  refine PySem.W.kxs_callWith (i := "ValueError.__init__") (x := a) (by rw [hst]; rfl) ?_
  rw [hst]
  refine PySem.Calls.evalArgs_plain ?_
  refine Calls.spliced_cons (thn (hm.run _ _ σ H _ I3 h) fun u s1 ⟨v, H1, I4, r1, ea1, q1⟩ => ?_)
  refine Calls.spliced_nil ?_
  have hpin := (I4.pin _ (List.mem_append.mpr (.inr List.mem_cons_self))).1
  refine ⟨hpin, ?_⟩
  obtain ⟨t2, ho2⟩ := exo_at I4.hok ea1
  obtain ⟨hp1, g1, d1, tk1, os1⟩ := s1
  refine call_mw (I4.kIn _ _ hC) ho2 hpin (by show 1 ≤ sizeLine; rw [sizeLine_eq]; omega) (fun h2 t3 k2 hx => ?_)
  have I5 : Inv X [] σ H1 ⟨hp1, g1, d1, tk1, os1⟩ := I4.pins_of fun p hp => absurd hp (by simp)
  have J := I5.write (t' := tk1) (x := a) (e := a) (o := exo a C none) (by rw [ea1]; exact True.intro) (.inl rfl) k2 ⟨_, hx⟩ (exo_ok hx)
  have eu : upd H1 a (exo a C none) = H1 := by
    funext b
    by_cases hb : b = a
    · rw [hb, upd_same, ea1]
    · rw [upd_ne hb]
  rw [eu] at J
  exact hR _ _ J q1
end

section
variable {CX : CXT} {P : Program} {w : World} {K : PySem.W.Frag} {mg : Str → Option Value} {base : Heap}
/-- THE RULE: __init__ of an own exception class -/
theorem fn_sup {k : Nat} {f C cc cda : Addr} {name qual : Str} {params : Arguments} {msg : Expr} {rest : List Stmt} {scope : Scope} {dV kV doc pm ct oc : Value} {an od : Option Addr} {osl : Array (Option Value)} {N ps : List Str} {sp : Sp} {p0 p1 p2 p3 p4 : Pos}
    (lk : K.lookup f = some ⟨oc, od, .func (PySem.W.ksFn name qual params (.Expr (.Call (.Attribute (.Call (.Name "super" p0) [] [] p1) "__init__" p2) [msg] [] p3) p4 :: rest) scope dV kV doc pm an (.ref cda) ct cc), osl⟩)
    (hcd : PySem.W.codeIn K (.ref cda) qual = true) (S : SupScope N ps scope) (T : SupC P K mg scope params f C cc cda) (hs0 : N[0]? = some ("self" : Str))
    (len : ∀ vs H Q E, sp vs H Q E → vs.length = ps.length)
    (hbody : ∀ (A : Around) (outer : List Env) (s : Shared) (H : Hp) (vs : List V) (Q : VK) (E : XK), sp vs H Q E →
      ∃ a ws tm t, vs = .ref a :: ws ∧ H a = some (exo a C none) ∧ PE (cxSup CX P w K mg base N qual scope f (.ref cda) cc A outer s H E) msg tm ∧ PSs (cxSup CX P w K mg base N qual scope f (.ref cda) cc A outer s H E) rest t ∧
        tm (start N vs) H fun _ H1 => H1 a = some (exo a C none) ∧ t { nx := fun _ H' => Q .non H', rt := Q } (start N vs) H1)
    (hev : ∀ env, ∃ pl : Sem Bool, eval (.Call (.Attribute (.Call (.Name "super" p0) [] [] p1) "__init__" p2) [msg] [] p3) env = (do
      let ov ← attributeBase (.Call (.Name "super" p0) [] [] p1) "__init__" env (eval (.Call (.Name "super" p0) [] [] p1) env)
      standAt p2.atName
      let (f, first) ← holding [ov] (getMethod ov "__init__" pl)
      callWith p3 f first (backTo p3 (starEach [msg] env)) []) := by intros; exact ⟨_, rfl⟩)
    (hsw : ∀ env, swapsWith (.Call (.Attribute (.Call (.Name "super" p0) [] [] p1) "__init__" p2) [msg] [] p3) none p4.line env = pure false := by intros; rfl)
    (hst : ∀ env, starEach [msg] env = (false, eval msg env) :: starEach [] env := by intros; rfl) :
    FnOk P w K mg base CX (k + 1) f (PySem.W.ksFn name qual params (.Expr (.Call (.Attribute (.Call (.Name "super" p0) [] [] p1) "__init__" p2) [msg] [] p3) p4 :: rest) scope dV kV doc pm an (.ref cda) ct cc) ps sp := by
  refine ⟨len, fun A outer s H args us vs Q E hr e0 hb r hsp => ?_⟩
  have hl := len _ _ _ _ hsp
  have KX : K.In s.heap := e0.mod.kin.keeps fun b o e => (e0.bs b o e).1
  have lim : s.heap.NoLimit := e0.mod.nolimit.keeps fun b o e => (e0.bs b o e).1
  obtain ⟨cl, cld, csl, hcell⟩ := T.cell
  refine PySem.ks_codeAny_call_defAt (binds := ps.zip us) hr.depth (KX _ _ lk) rfl lim (PySem.W.codeRec_of KX hcd) rfl hb S.nocell (fun ⟨n, v⟩ hy => S.par n (List.of_mem_zip hy).1) (fun h1 hns hk => ?_) S.co S.gen S.kind
  obtain ⟨a, ws, tm, t, ev, ea, hm, ht, hq⟩ := hbody A outer s H vs Q E hsp
  have I : Inv (cxSup CX P w K mg base N qual scope f (.ref cda) cc A outer s H E) [] (start N vs) H { s with heap := h1, toks := s.toks + (ps.zip us).length } := inv_sup S hcell hr.hd e0 hl r hns hk
  have fin : ∀ {σ' : St} {H' : Hp} {v : V} {u : Value} {s' : Shared}, Inv (cxSup CX P w K mg base N qual scope f (.ref cda) cc A outer s H E) [] σ' H' s' → RelV v u → Q v H' → CE outer P w H s Q u s' :=
    fun {σ' H' v u s'} J rv q => ⟨v, H', J.os, J.bare, J.base, J.hok, rv, q⟩
  refine PySem.ks_wpAt_execs_cons (ss_super (X := cxSup CX P w K mg base N qual scope f (.ref cda) cc A outer s H E) (R := fun H1 => t { nx := fun _ H' => Q .non H', rt := Q } (start N vs) H1) rfl S.kind T lk rfl I ea hs0 (by rw [ev]; rfl) hm hq (fun H1 s1 I1 q1 => ?_) (hsw _) (hev _) (hst _))
  refine PySem.wpAt_of_wpAny (wpAny_mono (ht.run [] s1 (start N vs) H1 _ I1 q1) (fun fl s' hs => ?_) fun e s' hs => hs)
  cases fl with
  | ret u =>
    obtain ⟨v, σ', H', J, rv, q⟩ := hs
    exact fin J rv q
  | next =>
    obtain ⟨σ', H', J, q⟩ := hs
    exact fin (v := V.non) (u := Value.none) J rfl q
  | brk =>
    obtain ⟨_, _, _, q⟩ := hs
    exact False.elim q
  | cont =>
    obtain ⟨_, _, _, q⟩ := hs
    exact False.elim q
end
end L2

set_option maxRecDepth 100000
set_option maxHeartbeats 2000000
/-! EXb: the __init__s of the forms that error classes have: no field, one, two, one and a list. -/
namespace L2
open PySem PySem.Spec PyProof.Rows
/-- what a text may show -/
def okF (v : V) : Prop := (∃ y : Str, v = .str y ∧ y.length ≤ 10000) ∨ ∃ i : Int, v = .int i ∧ i.natAbs.log2 < 1920
structure MsgOk (X : Cx) (msg : Expr) (ok : L2.St → Prop) : Prop where
  ex : ∃ tm, PE X msg tm ∧ ∀ σ H (R : Hp → Prop), ok σ → R H → tm σ H fun _ H1 => R H1
section
variable {X : Cx}
theorem msg_c {y : Str} {j pos} : MsgOk X (.Constant (.str y) j pos) fun _ => True := ⟨_, pe_str, fun σ H R _ r => r⟩
theorem fmt_le {v : V} (h : okF v) {σ : L2.St} {H : Hp} {i : Nat} (e : σ[i]? = some (some v)) {R : V → Hp → Prop} (k : ∀ y : Str, y.length ≤ 10000 → R (.str y) H) : tFmt (tVar i) σ H R := by
  refine ⟨v, e, ?_⟩
  rcases h with ⟨y, rfl, l⟩ | ⟨n, rfl, l⟩
  · exact .inl ⟨y, rfl, by rw [sizeLine_eq]; omega, k y l⟩
  · have := PyProof.Rows.int_text_len_1921 l
    exact .inr ⟨n, rfl, l, k _ (by omega)⟩
theorem msg_1 {y : Str} {x : Str} {i : Nat} {j1 p1 p2 p3 p4} (hN : X.N[i]? = some x) (hv : Vis X.env.scope x) (hl : y.length ≤ 1000) (hd : (x == ("__debug__" : Str)) = false := by decide) (hcd : (x == ("__classdict__" : Str)) = false := by decide) :
    MsgOk X (.JoinedStr [.Constant (.str y) j1 p1, .FormattedValue (.Name x p2) (-1) none p3] p4) fun σ => ∃ v, σ[i]? = some (some v) ∧ okF v := by
  refine ⟨_, pe_joined (.cons pe_str (.cons (pe_fmt (pe_var hN hv hd hcd)) .nil)), fun σ H R ⟨v, e, h⟩ r => ?_⟩
  refine ⟨y, rfl, ?_, fmt_le h e fun z hz => ⟨z, rfl, ?_, r⟩⟩
  · rw [Str.length_append, sizeLine_eq]; simp only [show Str.empty.length = 0 from rfl]; omega
  · rw [Str.length_append, Str.length_append, sizeLine_eq]; simp only [show Str.empty.length = 0 from rfl]; omega
theorem msg_1c {y z : Str} {x : Str} {i : Nat} {j1 j2 p1 p2 p3 p4 p5} (hN : X.N[i]? = some x) (hv : Vis X.env.scope x) (hl : y.length ≤ 1000) (hl2 : z.length ≤ 1000) (hd : (x == ("__debug__" : Str)) = false := by decide) (hcd : (x == ("__classdict__" : Str)) = false := by decide) :
    MsgOk X (.JoinedStr [.Constant (.str y) j1 p1, .FormattedValue (.Name x p2) (-1) none p3, .Constant (.str z) j2 p5] p4) fun σ => ∃ v, σ[i]? = some (some v) ∧ okF v := by
  refine ⟨_, pe_joined (.cons pe_str (.cons (pe_fmt (pe_var hN hv hd hcd)) (.cons pe_str .nil))), fun σ H R ⟨v, e, h⟩ r => ?_⟩
  refine ⟨y, rfl, ?_, fmt_le h e fun u hu => ⟨u, rfl, ?_, z, rfl, ?_, r⟩⟩
  · rw [Str.length_append, sizeLine_eq]; simp only [show Str.empty.length = 0 from rfl]; omega
  · rw [Str.length_append, Str.length_append, sizeLine_eq]; simp only [show Str.empty.length = 0 from rfl]; omega
  · rw [Str.length_append, Str.length_append, Str.length_append, sizeLine_eq]; simp only [show Str.empty.length = 0 from rfl]; omega
theorem msg_2 {y z : Str} {x x2 : Str} {i i2 : Nat} {j1 j2 p1 p2 p3 p4 p5 p6 p7} (hN : X.N[i]? = some x) (hv : Vis X.env.scope x) (hN2 : X.N[i2]? = some x2) (hv2 : Vis X.env.scope x2) (hl : y.length ≤ 1000) (hl2 : z.length ≤ 1000) (hd : (x == ("__debug__" : Str)) = false := by decide) (hcd : (x == ("__classdict__" : Str)) = false := by decide) (hd2 : (x2 == ("__debug__" : Str)) = false := by decide) (hcd2 : (x2 == ("__classdict__" : Str)) = false := by decide) :
    MsgOk X (.JoinedStr [.Constant (.str y) j1 p1, .FormattedValue (.Name x p2) (-1) none p3, .Constant (.str z) j2 p5, .FormattedValue (.Name x2 p6) (-1) none p7] p4) fun σ => ∃ v u, σ[i]? = some (some v) ∧ okF v ∧ σ[i2]? = some (some u) ∧ okF u := by
  refine ⟨_, pe_joined (.cons pe_str (.cons (pe_fmt (pe_var hN hv hd hcd)) (.cons pe_str (.cons (pe_fmt (pe_var hN2 hv2 hd2 hcd2)) .nil)))), fun σ H R ⟨v, u, e, h, e2, h2⟩ r => ?_⟩
  refine ⟨y, rfl, ?_, fmt_le h e fun t ht => ⟨t, rfl, ?_, z, rfl, ?_, fmt_le h2 e2 fun o ho => ⟨o, rfl, ?_, r⟩⟩⟩
  · rw [Str.length_append, sizeLine_eq]; simp only [show Str.empty.length = 0 from rfl]; omega
  · rw [Str.length_append, Str.length_append, sizeLine_eq]; simp only [show Str.empty.length = 0 from rfl]; omega
  · rw [Str.length_append, Str.length_append, Str.length_append, sizeLine_eq]; simp only [show Str.empty.length = 0 from rfl]; omega
  · rw [Str.length_append, Str.length_append, Str.length_append, Str.length_append, sizeLine_eq]; simp only [show Str.empty.length = 0 from rfl]; omega
end
/-! ### promises -/
def sp0 (C : Addr) : Sp := fun vs H Q _ => ∃ a, vs = [.ref a] ∧ H a = some (exo a C none) ∧ Q .non H
def sp1 (C : Addr) (f : Str) : Sp := fun vs H Q _ => ∃ a v, vs = [.ref a, v] ∧ H a = some (exo a C none) ∧ okF v ∧ ∀ dx, H dx = none → dx ≠ a → Q .non (upd (upd H dx (exd dx [(f, v)])) a (exo a C (some dx)))
def sp2 (C : Addr) (f g : Str) : Sp := fun vs H Q _ => ∃ a v u, vs = [.ref a, v, u] ∧ H a = some (exo a C none) ∧ okF v ∧ okF u ∧ ∀ dx, H dx = none → dx ≠ a → Q .non (upd (upd H dx (exd dx [(g, u), (f, v)])) a (exo a C (some dx)))
def spB (K : PySem.W.Frag) (C : Addr) (f g : Str) : Sp := fun vs H Q _ => ∃ a v l zs, vs = [.ref a, v, .ref l] ∧ H a = some (exo a C none) ∧ okF v ∧ SqL K H l zs ∧ zs.length ≤ sizeLine ∧
  ∀ dx p, H dx = none → dx ≠ a → H p = none → p ≠ a → p ≠ dx → Q .non (upd (upd (upd H p (.lst zs)) dx (exd dx [(g, .ref p), (f, v)])) a (exo a C (some dx)))
section
variable {CX : CXT} {P : Program} {w : World} {K : PySem.W.Frag} {mg : Str → Option Value} {base : Heap}
theorem fn_x0 {k : Nat} {f C cc cda : Addr} {name qual : Str} {params : Arguments} {msg : Expr} {scope : Scope} {dV kV doc pm ct oc : Value} {an od : Option Addr} {osl : Array (Option Value)} {p0 p1 p2 p3 p4 : Pos}
    (lk : K.lookup f = some ⟨oc, od, .func (PySem.W.ksFn name qual params [.Expr (.Call (.Attribute (.Call (.Name "super" p0) [] [] p1) "__init__" p2) [msg] [] p3) p4] scope dV kV doc pm an (.ref cda) ct cc), osl⟩)
    (hcd : PySem.W.codeIn K (.ref cda) qual = true) (S : SupScope ["self"] ["self"] scope) (T : SupC P K mg scope params f C cc cda)
    (hm : ∀ A outer s H E, MsgOk (cxSup CX P w K mg base ["self"] qual scope f (.ref cda) cc A outer s H E) msg fun _ => True)
    (hev : ∀ env, ∃ pl : Sem Bool, eval (.Call (.Attribute (.Call (.Name "super" p0) [] [] p1) "__init__" p2) [msg] [] p3) env = (do
      let ov ← attributeBase (.Call (.Name "super" p0) [] [] p1) "__init__" env (eval (.Call (.Name "super" p0) [] [] p1) env)
      standAt p2.atName
      let (f, first) ← holding [ov] (getMethod ov "__init__" pl)
      callWith p3 f first (backTo p3 (starEach [msg] env)) []))
    (hsw : ∀ env, swapsWith (.Call (.Attribute (.Call (.Name "super" p0) [] [] p1) "__init__" p2) [msg] [] p3) none p4.line env = pure false)
    (hst : ∀ env, starEach [msg] env = (false, eval msg env) :: starEach [] env) :
    FnOk P w K mg base CX (k + 1) f (PySem.W.ksFn name qual params [.Expr (.Call (.Attribute (.Call (.Name "super" p0) [] [] p1) "__init__" p2) [msg] [] p3) p4] scope dV kV doc pm an (.ref cda) ct cc) ["self"] (sp0 C) := by
  refine fn_sup lk hcd S T rfl (fun vs H Q E ⟨a, e, _⟩ => by rw [e]; rfl) (fun A outer s H vs Q E ⟨a, e, ea, q⟩ => ?_) hev hsw hst
  obtain ⟨tm, hpe, hr⟩ := (hm A outer s H E).ex
  exact ⟨a, [], tm, _, e, ea, hpe, pss_nil, hr _ _ (fun H1 => H1 a = some (exo a C none) ∧ Q .non H1) trivial ⟨ea, q⟩⟩
theorem fn_x1 {k : Nat} {f C cc cda : Addr} {name qual : Str} {params : Arguments} {msg : Expr} {scope : Scope} {dV kV doc pm ct oc : Value} {an od : Option Addr} {osl : Array (Option Value)} {p0 p1 p2 p3 p4 q1 q2 q3 q4 : Pos} {x fl : Str}
    (lk : K.lookup f = some ⟨oc, od, .func (PySem.W.ksFn name qual params [.Expr (.Call (.Attribute (.Call (.Name "super" p0) [] [] p1) "__init__" p2) [msg] [] p3) p4, .Assign [.Attribute (.Name "self" q1) fl q2] (.Name x q3) q4] scope dV kV doc pm an (.ref cda) ct cc), osl⟩)
    (hcd : PySem.W.codeIn K (.ref cda) qual = true) (S : SupScope ["self", x] ["self", x] scope) (T : SupC P K mg scope params f C cc cda)
    (hno : PySem.W.findIn K (.ref C) fl = some none)
    (hm : ∀ A outer s H E, MsgOk (cxSup CX P w K mg base ["self", x] qual scope f (.ref cda) cc A outer s H E) msg fun σ => ∃ v, σ[1]? = some (some v) ∧ okF v)
    (hev : ∀ env, ∃ pl : Sem Bool, eval (.Call (.Attribute (.Call (.Name "super" p0) [] [] p1) "__init__" p2) [msg] [] p3) env = (do
      let ov ← attributeBase (.Call (.Name "super" p0) [] [] p1) "__init__" env (eval (.Call (.Name "super" p0) [] [] p1) env)
      standAt p2.atName
      let (f, first) ← holding [ov] (getMethod ov "__init__" pl)
      callWith p3 f first (backTo p3 (starEach [msg] env)) []))
    (hsw : ∀ env, swapsWith (.Call (.Attribute (.Call (.Name "super" p0) [] [] p1) "__init__" p2) [msg] [] p3) none p4.line env = pure false)
    (hst : ∀ env, starEach [msg] env = (false, eval msg env) :: starEach [] env)
    (hsw2 : ∀ env, swapsWith (.Name x q3) (some (.Attribute (.Name "self" q1) fl q2)) q4.line env = pure false)
    (hd : (x == ("__debug__" : Str)) = false := by decide) (hcd2 : (x == ("__classdict__" : Str)) = false := by decide) :
    FnOk P w K mg base CX (k + 1) f (PySem.W.ksFn name qual params [.Expr (.Call (.Attribute (.Call (.Name "super" p0) [] [] p1) "__init__" p2) [msg] [] p3) p4, .Assign [.Attribute (.Name "self" q1) fl q2] (.Name x q3) q4] scope dV kV doc pm an (.ref cda) ct cc) ["self", x] (sp1 C fl) := by
  refine fn_sup lk hcd S T rfl (fun vs H Q E ⟨a, v, e, _⟩ => by rw [e]; rfl) (fun A outer s H vs Q E ⟨a, v, e, ea, hv, q⟩ => ?_) hev hsw hst
  obtain ⟨tm, hpe, hr⟩ := (hm A outer s H E).ex
  subst e
  refine ⟨a, [v], tm, _, rfl, ea, hpe, pss_cons (ps_ost (pe_var (i := 0) rfl (.inl (S.par "self" (by simp)))) (pe_var (i := 1) rfl (.inl (S.par x (by simp))) hd hcd2) (hsw2 _)) pss_nil, ?_⟩
  refine hr _ _ (fun H1 => H1 a = some (exo a C none) ∧ tSeq _ tNext _ (start ["self", x] [.ref a, v]) H1) ⟨v, rfl, hv⟩ ⟨ea, ?_⟩
  exact ⟨v, rfl, .ref a, rfl, a, C, rfl, T.oex, hno, .inl ⟨ea, fun dx hdx hne => q dx hdx hne⟩⟩
theorem upd_comm {H : Hp} {a b : Addr} {o u : HO} (h : a ≠ b) : upd (upd H a o) b u = upd (upd H b u) a o := by
  funext c
  simp only [upd]
  by_cases e : c = b
  · subst e
    simp [Ne.symm h]
  · simp [e]
theorem fn_x2 {k : Nat} {f C cc cda : Addr} {name qual : Str} {params : Arguments} {msg : Expr} {scope : Scope} {dV kV doc pm ct oc : Value} {an od : Option Addr} {osl : Array (Option Value)} {p0 p1 p2 p3 p4 q1 q2 q3 q4 q5 q6 q7 q8 : Pos} {x y fl gl : Str}
    (lk : K.lookup f = some ⟨oc, od, .func (PySem.W.ksFn name qual params [.Expr (.Call (.Attribute (.Call (.Name "super" p0) [] [] p1) "__init__" p2) [msg] [] p3) p4, .Assign [.Attribute (.Name "self" q1) fl q2] (.Name x q3) q4, .Assign [.Attribute (.Name "self" q5) gl q6] (.Name y q7) q8] scope dV kV doc pm an (.ref cda) ct cc), osl⟩)
    (hcd : PySem.W.codeIn K (.ref cda) qual = true) (S : SupScope ["self", x, y] ["self", x, y] scope) (T : SupC P K mg scope params f C cc cda)
    (hno : PySem.W.findIn K (.ref C) fl = some none) (hno2 : PySem.W.findIn K (.ref C) gl = some none)
    (hm : ∀ A outer s H E, MsgOk (cxSup CX P w K mg base ["self", x, y] qual scope f (.ref cda) cc A outer s H E) msg fun σ => ∃ v u, σ[1]? = some (some v) ∧ okF v ∧ σ[2]? = some (some u) ∧ okF u)
    (hev : ∀ env, ∃ pl : Sem Bool, eval (.Call (.Attribute (.Call (.Name "super" p0) [] [] p1) "__init__" p2) [msg] [] p3) env = (do
      let ov ← attributeBase (.Call (.Name "super" p0) [] [] p1) "__init__" env (eval (.Call (.Name "super" p0) [] [] p1) env)
      standAt p2.atName
      let (f, first) ← holding [ov] (getMethod ov "__init__" pl)
      callWith p3 f first (backTo p3 (starEach [msg] env)) []))
    (hsw : ∀ env, swapsWith (.Call (.Attribute (.Call (.Name "super" p0) [] [] p1) "__init__" p2) [msg] [] p3) none p4.line env = pure false)
    (hst : ∀ env, starEach [msg] env = (false, eval msg env) :: starEach [] env)
    (hsw2 : ∀ env, swapsWith (.Name x q3) (some (.Attribute (.Name "self" q1) fl q2)) q4.line env = pure false)
    (hsw3 : ∀ env, swapsWith (.Name y q7) (some (.Attribute (.Name "self" q5) gl q6)) q8.line env = pure false)
    (hd : (x == ("__debug__" : Str)) = false := by decide) (hcd2 : (x == ("__classdict__" : Str)) = false := by decide) (hdy : (y == ("__debug__" : Str)) = false := by decide) (hcdy : (y == ("__classdict__" : Str)) = false := by decide) :
    FnOk P w K mg base CX (k + 1) f (PySem.W.ksFn name qual params [.Expr (.Call (.Attribute (.Call (.Name "super" p0) [] [] p1) "__init__" p2) [msg] [] p3) p4, .Assign [.Attribute (.Name "self" q1) fl q2] (.Name x q3) q4, .Assign [.Attribute (.Name "self" q5) gl q6] (.Name y q7) q8] scope dV kV doc pm an (.ref cda) ct cc) ["self", x, y] (sp2 C fl gl) := by
  refine fn_sup lk hcd S T rfl (fun vs H Q E h => ?_) (fun A outer s H vs Q E h => ?_) hev hsw hst
  · obtain ⟨a, v, u, e, _⟩ := h
    rw [e]; rfl
  obtain ⟨a, v, u, e, ea, hv, hu, q⟩ := h
  obtain ⟨tm, hpe, hr⟩ := (hm A outer s H E).ex
  subst e
  refine ⟨a, [v, u], tm, _, rfl, ea, hpe, pss_cons (ps_ost (pe_var (i := 0) rfl (.inl (S.par "self" (by simp)))) (pe_var (i := 1) rfl (.inl (S.par x (by simp))) hd hcd2) (hsw2 _))
    (pss_cons (ps_ost (pe_var (i := 0) rfl (.inl (S.par "self" (by simp)))) (pe_var (i := 2) rfl (.inl (S.par y (by simp))) hdy hcdy) (hsw3 _)) pss_nil), ?_⟩
  refine hr _ _ (fun H1 => H1 a = some (exo a C none) ∧ tSeq _ _ _ (start ["self", x, y] [.ref a, v, u]) H1) ⟨v, u, rfl, hv, rfl, hu⟩ ⟨ea, ?_⟩
  refine ⟨v, rfl, .ref a, rfl, a, C, rfl, T.oex, hno, .inl ⟨ea, fun dx hdx hne => ?_⟩⟩
  refine ⟨u, rfl, .ref a, rfl, a, C, rfl, T.oex, hno2, .inr ⟨dx, [(fl, v)], upd_same, by rw [upd_ne hne, upd_same], by simp, ?_⟩⟩
  have z := q dx hdx hne
  rw [upd_comm (Ne.symm hne), upd_upd]
  exact z

theorem fn_xB {k : Nat} {f C cc cda : Addr} {name qual : Str} {params : Arguments} {msg : Expr} {scope : Scope} {dV kV doc pm ct oc : Value} {an od : Option Addr} {osl : Array (Option Value)} {p0 p1 p2 p3 p4 q1 q2 q3 q4 q5 q6 q7 q8 q9 q10 : Pos} {x y fl gl : Str}
    (lk : K.lookup f = some ⟨oc, od, .func (PySem.W.ksFn name qual params [.Expr (.Call (.Attribute (.Call (.Name "super" p0) [] [] p1) "__init__" p2) [msg] [] p3) p4, .Assign [.Attribute (.Name "self" q1) fl q2] (.Name x q3) q4, .Assign [.Attribute (.Name "self" q5) gl q6] (.Call (.Name "list" q9) [.Name y q7] [] q10) q8] scope dV kV doc pm an (.ref cda) ct cc), osl⟩)
    (hcd : PySem.W.codeIn K (.ref cda) qual = true) (S : SupScope ["self", x, y] ["self", x, y] scope) (T : SupC P K mg scope params f C cc cda)
    (hno : PySem.W.findIn K (.ref C) fl = some none) (hno2 : PySem.W.findIn K (.ref C) gl = some none)
    (hm : ∀ A outer s H E, MsgOk (cxSup CX P w K mg base ["self", x, y] qual scope f (.ref cda) cc A outer s H E) msg fun σ => ∃ v, σ[1]? = some (some v) ∧ okF v)
    (hev : ∀ env, ∃ pl : Sem Bool, eval (.Call (.Attribute (.Call (.Name "super" p0) [] [] p1) "__init__" p2) [msg] [] p3) env = (do
      let ov ← attributeBase (.Call (.Name "super" p0) [] [] p1) "__init__" env (eval (.Call (.Name "super" p0) [] [] p1) env)
      standAt p2.atName
      let (f, first) ← holding [ov] (getMethod ov "__init__" pl)
      callWith p3 f first (backTo p3 (starEach [msg] env)) []))
    (hsw : ∀ env, swapsWith (.Call (.Attribute (.Call (.Name "super" p0) [] [] p1) "__init__" p2) [msg] [] p3) none p4.line env = pure false)
    (hst : ∀ env, starEach [msg] env = (false, eval msg env) :: starEach [] env)
    (hsw2 : ∀ env, swapsWith (.Name x q3) (some (.Attribute (.Name "self" q1) fl q2)) q4.line env = pure false)
    (hsw3 : ∀ env, swapsWith (.Call (.Name "list" q9) [.Name y q7] [] q10) (some (.Attribute (.Name "self" q5) gl q6)) q8.line env = pure false) (hlg : scope.names.lookup ("list" : Str) = some .globalImplicit) (hlm : mg "list" = none)
    (hd : (x == ("__debug__" : Str)) = false := by decide) (hcd2 : (x == ("__classdict__" : Str)) = false := by decide) (hdy : (y == ("__debug__" : Str)) = false := by decide) (hcdy : (y == ("__classdict__" : Str)) = false := by decide) :
    FnOk P w K mg base CX (k + 1) f (PySem.W.ksFn name qual params [.Expr (.Call (.Attribute (.Call (.Name "super" p0) [] [] p1) "__init__" p2) [msg] [] p3) p4, .Assign [.Attribute (.Name "self" q1) fl q2] (.Name x q3) q4, .Assign [.Attribute (.Name "self" q5) gl q6] (.Call (.Name "list" q9) [.Name y q7] [] q10) q8] scope dV kV doc pm an (.ref cda) ct cc) ["self", x, y] (spB K C fl gl) := by
  refine fn_sup lk hcd S T rfl (fun vs H Q E h => ?_) (fun A outer s H vs Q E h => ?_) hev hsw hst
  · obtain ⟨a, v, u, zs, e, _⟩ := h
    rw [e]; rfl
  obtain ⟨a, v, l, zs, e, ea, hv, hl, hz, q⟩ := h
  obtain ⟨tm, hpe, hr⟩ := (hm A outer s H E).ex
  subst e
  refine ⟨a, [v, .ref l], tm, _, rfl, ea, hpe, pss_cons (ps_ost (pe_var (i := 0) rfl (.inl (S.par "self" (by simp)))) (pe_var (i := 1) rfl (.inl (S.par x (by simp))) hd hcd2) (hsw2 _))
    (pss_cons (ps_ost (pe_var (i := 0) rfl (.inl (S.par "self" (by simp)))) (pe_callTy call_list_of hlg hlm (by first | rfl | kernel_rfl) (pa_cons (pe_var (i := 2) rfl (.inl (S.par y (by simp))) hdy hcdy) pa_nil)) (hsw3 _)) pss_nil), ?_⟩
  refine hr _ _ (fun H1 => H1 a = some (exo a C none) ∧ tSeq _ _ _ (start ["self", x, y] [.ref a, v, .ref l]) H1) ⟨v, rfl, hv⟩ ⟨ea, ?_⟩
  refine ⟨v, rfl, .ref a, rfl, a, C, rfl, T.oex, hno, .inl ⟨ea, fun dx hdx hne => ?_⟩⟩
  have hl2 : SqL K (upd (upd H dx (exd dx [(fl, v)])) a (exo a C (some dx))) l zs := by
    have up : ∀ (o : HO), H l = some o → o ≠ exo a C none → upd (upd H dx (exd dx [(fl, v)])) a (exo a C (some dx)) l = some o := fun o e ne => by
      rw [upd_ne (fun z => by rw [z, ea] at e; exact ne (Option.some.inj e).symm), upd_ne (ne_of_none e hdx)]
      exact e
    rcases hl with (h | ⟨ob, h⟩) | h
    · exact .inl (.inl (up _ h (fun z => by
        have z' : HO.lst zs = HO.ext _ := z
        cases z')))
    · exact .inl (.inr ⟨ob, up _ h (Ne.symm exo_frz)⟩)
    · exact .inr h
  refine ⟨.ref l, rfl, l, zs, rfl, .inl hl2, fun p hp => ?_⟩
  have hpa : p ≠ a := fun z => by rw [z, upd_same] at hp; cases hp
  rw [upd_ne hpa] at hp
  have hpd : p ≠ dx := fun z => by rw [z, upd_same] at hp; cases hp
  rw [upd_ne hpd] at hp
  refine ⟨.ref a, rfl, a, C, rfl, T.oex, hno2, .inr ⟨dx, [(fl, v)], by rw [upd_ne (Ne.symm hpa), upd_same], by rw [upd_ne (Ne.symm hpd), upd_ne hne, upd_same], by simp, ?_⟩⟩
  have z := q dx p hdx hne hp hpa hpd
  rw [upd_comm hpd, upd_comm (Ne.symm hne), upd_upd, upd_comm (a := a) (b := p) (Ne.symm hpa), upd_comm (a := dx) (b := p) (Ne.symm hpd)]
  exact z

end
end L2

set_option maxRecDepth 100000
set_option maxHeartbeats 2000000
/-! EXc: error objects as values: made, read, asked for their class. -/
namespace L2
open PySem PySem.Spec PyProof.Rows
/-- C(e, ..) as a value -/
def tMkV (C : Addr) (sp : Sp) (ta : TA) : TE := fun σ H Q => ta σ H fun vs H1 => vs.length ≤ 1000 ∧ ∀ a, H1 a = none → sp (.ref a :: vs) (upd H1 a (exo a C none)) (fun v H2 => v = .non ∧ Q (.ref a) H2) (fun _ _ _ => False)
section
variable {X : Cx} {e : Expr} {es : List Expr} {p pos : Pos}
theorem call_oexV {CX : CXT} {C fI : Addr} {k : Nat} {fd : FuncData} {ps : List Str} {sp : Sp} (T : OexC X.K C) (iC : PySem.W.findIn X.K (.ref C) "__init__" = some (some (.ref fI))) (tI : PySem.W.typeIn X.K (.ref fI) = some (.type "function"))
    (F1 : FnOk X.prog X.w X.K X.mg X.base CX k fI fd ps sp) (hr : Room (k + 1) X.A) (hb : Binds X.K fd ps []) (hx : Passes CX X (fun _ _ _ => False))
    {pins : List (Addr × Obj)} {σ : L2.St} {H1 : Hp} {s1 : Shared} {vs : List V} {us : List Value} {Q : VK} (I1 : Inv X pins σ H1 s1) (r1 : Vals vs us) (hz : vs.length ≤ 1000)
    (q1 : ∀ a, H1 a = none → sp (.ref a :: vs) (upd H1 a (exo a C none)) (fun v H2 => v = .non ∧ Q (.ref a) H2) (fun _ _ _ => False)) :
    wpAny (model X.prog X.w) X.A (call (.ref C) us) (EP X pins σ Q) X.xe s1 := by
  obtain ⟨nm, q, N, bs, bm, sn, sub, ab, col, dd, k0, k1, k2, k3, k5, hC, hbm⟩ := T.cls
  obtain ⟨hp, g, dr, tk, os⟩ := s1
  have hsz : hp.objs.size ≤ hp.objs.size + 1 := Nat.le_succ _
  have hn : H1 (hp.objs.size + 1) = none := I1.hok.fresh hsz
  have hq := q1 (hp.objs.size + 1) hn
  have kk : ∀ b o, hp.get? b = some o → ((hp.push (PySem.W.kdv_tup us)).push (PySem.HandSPX.excO C hp.objs.size)).get? b = some o := fun b o e => Heap.get?_push_of_some _ (Heap.get?_push_of_some _ e)
  have hget : ((hp.push (PySem.W.kdv_tup us)).push (PySem.HandSPX.excO C hp.objs.size)).get? (hp.objs.size + 1) = some (PySem.HandSPX.excO C hp.objs.size) := by heap_get
  have I2 : Inv X pins σ (upd H1 (hp.objs.size + 1) (exo (hp.objs.size + 1) C none)) ⟨(hp.push (PySem.W.kdv_tup us)).push (PySem.HandSPX.excO C hp.objs.size), g, dr, tk, os⟩ :=
    I1.laid (t' := tk) (a := hp.objs.size + 1) (o := exo (hp.objs.size + 1) C none) (h' := (hp.push (PySem.W.kdv_tup us)).push (PySem.HandSPX.excO C hp.objs.size)) kk hsz (exo_ok hget)
  have r2 : Vals (V.ref (hp.objs.size + 1) :: vs) (Value.ref (hp.objs.size + 1) :: us) := .cons rfl r1
  have hl : (Value.ref (hp.objs.size + 1) :: us ++ []).length = ps.length := by
    have e := r2.length
    rw [F1.len _ _ _ _ hq] at e
    rw [List.append_nil]
    exact e.symm
  have hus : us.length ≤ sizeLine := by
    rw [← Paired.length r1, sizeLine_eq]
    omega
  have hbb := hb _ (Value.ref (hp.objs.size + 1) :: us) I2.kIn hl
  rw [List.append_nil] at hbb
  refine wpAny_call (PySem.HandSPX.call_own F.excBase_ValueError (fun Y => PySem.HandSPX.refsVE_contains Y bm hbm) (I1.kIn _ _ hC) (PySem.W.looks_findIn I1.kIn iC) (fun self => PySem.W.bind_fn I1.kIn self tI) hus
    (codeAny_mono (F1.run _ X.stack _ _ ⟨Value.ref (hp.objs.size + 1) :: us, []⟩ (Value.ref (hp.objs.size + 1) :: us) _ _ (fun _ _ _ => False) (hr.make C us []) (I2.env0.make C us []) hbb r2 hq) fun r s' hq' => ?_))
  cases r with
  | error er => exact hx pins σ _ _ er s' I2 hq'
  | ok fl =>
    cases fl with
    | ret u =>
      obtain ⟨v, H2, os2, bare2, un2, hok2, rv, ev, q2⟩ := hq'
      subst ev
      obtain ⟨v3, H3, I3, r3, q3⟩ := I2.after (Q := fun v H' => H' = H2) ⟨.non, H2, os2, bare2, un2, hok2, rv, rfl⟩
      subst q3
      exact ⟨rv, .ref _, H3, I3, rfl, q2⟩
    | next => exact False.elim hq'
    | brk => exact False.elim hq'
    | cont => exact False.elim hq'
theorem pe_oexV {CX : CXT} {x : Str} {C fI : Addr} {k : Nat} {fd : FuncData} {ps : List Str} {sp : Sp} {ta : TA} (T : OexC X.K C) (iC : PySem.W.findIn X.K (.ref C) "__init__" = some (some (.ref fI))) (tI : PySem.W.typeIn X.K (.ref fI) = some (.type "function"))
    (F1 : FnOk X.prog X.w X.K X.mg X.base CX k fI fd ps sp) (hr : Room (k + 1) X.A) (hb : Binds X.K fd ps []) (hx : Passes CX X (fun _ _ _ => False)) (hg : Gl X x) (hm : X.mg x = some (.ref C)) (ha : PA X (e :: es) ta)
    (hdb : (x == ("__debug__" : Str)) = false := by decide) (he : starEach (e :: es) X.env = (false, eval e X.env) :: starEach es X.env := by rfl) (hpl : (backTo pos (starEach es X.env)).any (·.1) = false := by rfl) :
    PE X (.Call (.Name x p) (e :: es) [] pos) (tMkV C sp ta) := by
  refine ⟨fun pins s σ H Q I h => ?_⟩
  refine wpAny_Call_Name_kw (ld_glob I hg hm ?_ hdb)
  exact PySem.W.callWith_K (h₀ := X.base) I.ok.mod.kin T.kC (thn (ha.run pos pins s σ H _ I h) fun us s1 ⟨vs, H1, I1, r1, hz, q1⟩ => ⟨I1.kIn, call_oexV T iC tI F1 hr hb hx I1 r1 hz q1⟩) he hpl
theorem pe_oexV0 {CX : CXT} {x : Str} {C fI : Addr} {k : Nat} {fd : FuncData} {ps : List Str} {sp : Sp} (T : OexC X.K C) (iC : PySem.W.findIn X.K (.ref C) "__init__" = some (some (.ref fI))) (tI : PySem.W.typeIn X.K (.ref fI) = some (.type "function"))
    (F1 : FnOk X.prog X.w X.K X.mg X.base CX k fI fd ps sp) (hr : Room (k + 1) X.A) (hb : Binds X.K fd ps []) (hx : Passes CX X (fun _ _ _ => False)) (hg : Gl X x) (hm : X.mg x = some (.ref C))
    (hdb : (x == ("__debug__" : Str)) = false := by decide) :
    PE X (.Call (.Name x p) [] [] pos) (tMkV C sp tNil) := by
  refine ⟨fun pins s σ H Q I h => ?_⟩
  refine wpAny_Call_Name_kw (ld_glob I hg hm ?_ hdb)
  obtain ⟨hz, q1⟩ := h
  exact PySem.W.callWith_K0 I.kIn T.kC (call_oexV T iC tI F1 hr hb hx I .nil hz q1)
/-- e.f, e an error object -/
def tXfV (K : PySem.W.Frag) (f : Str) (te : TE) : TE := fun σ H Q => te σ H fun x H1 => ∃ a C dx fs v, x = .ref a ∧ H1 a = some (exo a C (some dx)) ∧ H1 dx = some (exd dx fs) ∧ XfC K C ∧ PySem.W.findIn K (.ref C) f = some none ∧ fs.lookup f = some v ∧ Q v H1
theorem pe_xfV {te : TE} {n : Str} (he : PE X e te) (hb : attributeBase e n X.env (eval e X.env) = eval e X.env := by rfl) : PE X (.Attribute e n pos) (tXfV X.K n te) := by
  refine ⟨fun pins s σ H Q I h => ?_⟩
  refine attr_of hb (thn (he.run pins s σ H _ I h) fun u s1 hh => ?_)
  obtain ⟨x, H1, I1, rx, a, C, dx, fs, v, ex, ea, ed, T, hno, l, q⟩ := hh
  subst ex
  obtain rfl : u = Value.ref a := rx
  obtain ⟨t1, ho⟩ := exo_at I1.hok ea
  obtain ⟨mA, hns, hr⟩ := exd_at I1.hok ed
  obtain ⟨od, hod, hl⟩ := lookIn_ns hns
  obtain ⟨u, hu, ru⟩ := RelO.some_of (v := v) (o := mA n) (by rw [← l]; exact hr n)
  have J : PySem.W.InstAt s1.heap a { cls := .ref C, dict := some dx, data := .fields #[.ref t1, .none, .none, .none, .bool false, .none] } C (some od) := ⟨ho, rfl, rfl, hod⟩
  exact HandSPX.exc_get I1.kIn J T.ga T.gg T.exC (PySem.W.findObj_own T.hdC hno rfl (by rw [hl, hu])) (handed_of ru) ⟨v, H1, I1.tok _, ru, q⟩
/-- what isinstance asks of the class of an error object -/
structure XiC (K : PySem.W.Frag) (C : Addr) : Prop where
  xf : XfC K C
  cl : (PySem.W.clsIn K C).isSome = true
  ha : PySem.W.findIn K (.ref C) "__class__" = some (some (.builtin "object.__class__"))
  hn : PySem.W.specialIn K (.builtin "object.__class__") "__get__" = some (some (.builtin "getset_descriptor.__get__"))
  ht : PySem.W.takesIn K (.builtin "object.__class__") = some true
  hm : PySem.W.mroIn K C (.type "object") = some true
/-- isinstance(e, c), e an error object -/
def rIsV (K : PySem.W.Frag) (c : V) (cv : Value) : List V → Hp → VK → Prop := fun xs H Q => ∃ (a C : Addr) (b : Bool), xs = [.ref a, c] ∧ (∃ od, H a = some (exo a C od) ∧ ∀ dx, od = some dx → ∃ fs, H dx = some (exd dx fs)) ∧ XiC K C ∧ PySem.W.kitOne K (.ref C) cv = some b ∧ Q (.bl b) H
theorem call_isV {c : V} {cv : Value} (hcv : ∀ u, RelV c u → u = cv) : CallR X (.builtin "isinstance") (rIsV X.K c cv) := by
  intro pins s σ H xs us Q I r h
  obtain ⟨a, C, b, rfl, ⟨od, ea, ed⟩, T, e, q⟩ := h
  cases r with
  | cons rx rr =>
    cases rr with
    | cons rt rr =>
      cases rr
      cases rx
      have ec := hcv _ rt
      subst ec
      obtain ⟨t1, ho⟩ := exo_at I.hok ea
      have J : ∃ o2, PySem.W.InstAt s.heap a { cls := .ref C, dict := od, data := .fields #[.ref t1, .none, .none, .none, .bool false, .none] } C o2 := by
        cases od with
        | none => exact ⟨none, ho, rfl, rfl, trivial⟩
        | some dx =>
          obtain ⟨fs, hd⟩ := ed dx rfl
          obtain ⟨mA, hns, hr⟩ := exd_at I.hok hd
          obtain ⟨o2, hod, hl⟩ := lookIn_ns hns
          exact ⟨some o2, ho, rfl, rfl, hod⟩
      obtain ⟨o2, J⟩ := J
      exact PySem.W.kia_one (PySem.W.kitx_exc T.cl T.xf.ga T.xf.gg T.xf.exC T.ha T.hn T.ht T.hm) I.kIn J e (fun z => nomatch z) fun tk => ⟨.bl b, H, I.kept (t' := tk) fun _ _ z => z, rfl, q⟩
/-- C(), an error class without own __init__ -/
theorem pe_exc0V {x : Str} {C : Addr} (T : OexC X.K C) (hi : PySem.W.findIn X.K (.ref C) "__init__" = some (some (.builtin "ValueError.__init__"))) (hg : Gl X x) (hm : X.mg x = some (.ref C)) (hdb : (x == ("__debug__" : Str)) = false := by decide) :
    PE X (.Call (.Name x p) [] [] pos) (fun σ H Q => ∀ a, H a = none → Q (.ref a) (upd H a (exo a C none))) := by
  refine ⟨fun pins s σ H Q I h => ?_⟩
  obtain ⟨nm, q, N, bs, bm, sn, sub, ab, col, dd, k0, k1, k2, k3, k5, hC, hbm⟩ := T.cls
  refine wpAny_Call_Name_kw (ld_glob I hg hm ?_ hdb)
  refine PySem.W.callWith_K0 I.kIn T.kC ?_
  obtain ⟨hp, g, dr, tk, os⟩ := s
  refine PySem.W.call_B (rest := []) F.excBase_ValueError (fun Y => PySem.HandSPX.refsVE_contains Y bm hbm) (I.kIn _ _ hC) (PySem.W.looks_findIn I.kIn hi) (by rw [sizeLine_eq]; exact Nat.zero_le _) fun h' k e t => ?_
  have hsz : hp.objs.size ≤ hp.objs.size + 1 := Nat.le_succ _
  exact ⟨.ref (hp.objs.size + 1), _, I.laid (t' := tk) (a := hp.objs.size + 1) (o := exo (hp.objs.size + 1) C none) (h' := h') k hsz (exo_ok e), rfl, h _ (I.hok.fresh hsz)⟩
end
end L2

namespace DL
open PySem PySem.Spec PyProof.Rows L2
/-- the forms of the classes' __init__ -/
inductive Shp where
  | s0 | s1 (f : Str) | s2 (f g : Str) | sB (f g : Str)
def spS (K : PySem.W.Frag) (C : Addr) : Shp → Sp
  | .s0 => sp0 C
  | .s1 f => sp1 C f
  | .s2 f g => sp2 C f g
  | .sB f g => spB K C f g
/-- what a text may show -/
def okX : X → Prop
  | .int i => i.natAbs.log2 < 1920
  | .str y => y.length ≤ 10000
  | _ => False
def mkS (s : Shp) (xs : List X) (M : Mu) (k : List Str → List X → Prop) : Prop := match s, xs with
  | .s0, [] => k [] []
  | .s1 f, [x] => okX x ∧ k [f] [x]
  | .s2 f g, [x, y] => okX x ∧ okX y ∧ k [g, f] [y, x]
  | .sB f g, [x, y] => okX x ∧ (match lstOf M y with
    | some zs => zs.length ≤ sizeLine ∧ k [g, f] [.lst true zs, x]
    | none => False)
  | _, _ => False
section
variable {K : PySem.W.Frag} {N : Ent} {O H : Hp} {M : Mu}
theorem okX_ok {B : Hp} {x : X} {v : V} (r : Rp K O B x v) (h : okX x) : okF v := by
  cases x with
  | int i => simp only [Rp] at r; subst r; exact .inr ⟨i, rfl, h⟩
  | str y => simp only [Rp] at r; subst r; exact .inl ⟨y, rfl, h⟩
  | _ => exact h.elim
theorem rp_exn {B : Hp} {a C : Addr} {ns : List Str} {xs : List X} {vs : List V} (h : ExnAt O a C (ns.zip vs)) (l : ns.length = vs.length) (r : RpA K O B xs vs) : Rp K O B (.exn C ns xs) (.ref a) := by
  simp only [Rp]
  exact ⟨a, vs, rfl, h, l, r⟩
theorem upd_tw {H : Hp} {a : Addr} {o u : HO} {G : Hp → Hp} (hG : ∀ H1 o1, G (upd H1 a o1) = upd (G H1) a o1) : upd (G (upd H a o)) a u = upd (G H) a u := by
  rw [hG, upd_upd]
theorem mkS_ok {C : Addr} {sh : Shp} {xs : List X} {vs : List V} {Q : VK} {Qd : VKd} (S : Stt K N O M H) (r : RpA K O N.B0 xs vs) (h : mkS sh xs M fun ns ys => Qd (.exn C ns ys) M)
    (k : ∀ O' M' H' x v, Nxt K N O M H O' M' H' → Rp K O' N.B0 x v → Qd x M' → Q v H') :
    vs.length ≤ 1000 ∧ ∀ a, H a = none → spS K C sh (.ref a :: vs) (upd H a (exo a C none)) (fun v H2 => v = .non ∧ Q (.ref a) H2) (fun _ _ _ => False) := by
  unfold mkS at h
  split at h
  · have e := r
    simp only [RpA] at e
    subst e
    refine ⟨by simp, fun a ha => ⟨a, rfl, upd_same, rfl, ?_⟩⟩
    obtain ⟨S1, eo, e1⟩ := S.own ha (exo a C none)
    exact k _ _ _ _ _ ⟨S1, eo⟩ (rp_exn (.inl ⟨rfl, e1⟩) rfl RpA.nil) h
  · rename_i f x
    obtain ⟨v, e, q⟩ := rpa1 r
    subst e
    refine ⟨by simp, fun a ha => ⟨a, v, rfl, upd_same, okX_ok q h.1, fun dx hdx hne => ⟨rfl, ?_⟩⟩⟩
    rw [upd_ne hne] at hdx
    rw [upd_comm (Ne.symm hne), upd_upd]
    obtain ⟨S1, eo1, e1⟩ := S.own hdx (exd dx [(f, v)])
    have ha1 : upd H dx (exd dx [(f, v)]) a = none := by rw [upd_ne (Ne.symm hne)]; exact ha
    obtain ⟨S2, eo2, e2⟩ := S1.own ha1 (exo a C (some dx))
    refine k _ _ _ _ _ ⟨S2, eo1.trans eo2⟩ (rp_exn (ns := [f]) (vs := [v]) (.inr ⟨dx, e2, eo2 _ _ e1⟩) rfl ?_) h.2
    exact r.mono (eo1.trans eo2) (Ex.refl _)
  · rename_i f g x y
    obtain ⟨v, u, e, q, q2⟩ := rpa2 r
    subst e
    refine ⟨by simp, fun a ha => ⟨a, v, u, rfl, upd_same, okX_ok q h.1, okX_ok q2 h.2.1, fun dx hdx hne => ⟨rfl, ?_⟩⟩⟩
    rw [upd_ne hne] at hdx
    rw [upd_comm (Ne.symm hne), upd_upd]
    obtain ⟨S1, eo1, e1⟩ := S.own hdx (exd dx [(g, u), (f, v)])
    have ha1 : upd H dx (exd dx [(g, u), (f, v)]) a = none := by rw [upd_ne (Ne.symm hne)]; exact ha
    obtain ⟨S2, eo2, e2⟩ := S1.own ha1 (exo a C (some dx))
    refine k _ _ _ _ _ ⟨S2, eo1.trans eo2⟩ (rp_exn (ns := [g, f]) (vs := [u, v]) (.inr ⟨dx, e2, eo2 _ _ e1⟩) rfl ?_) h.2.2
    exact (RpA.cons q2 (RpA.cons q RpA.nil)).mono (eo1.trans eo2) (Ex.refl _)
  · rename_i f g x y
    obtain ⟨v, u, e, q, q2⟩ := rpa2 r
    subst e
    obtain ⟨hx, h⟩ := h
    split at h
    · rename_i zs ez
      obtain ⟨l, ws, e3, q3, r3⟩ := lstOf_ok S q2 ez
      subst e3
      refine ⟨by simp, fun a ha => ⟨a, v, l, ws, rfl, upd_same, okX_ok q hx, ex_sql (ex_upd ha) q3, by rw [r3.len]; exact h.1, fun dx p hdx hne hp hpa hpd => ⟨rfl, ?_⟩⟩⟩
      rw [upd_ne hne] at hdx
      rw [upd_ne hpa] at hp
      rw [upd_comm (H := H) (a := a) (b := p) (Ne.symm hpa), upd_comm (a := a) (b := dx) (Ne.symm hne), upd_upd]
      obtain ⟨S0, eo0, e0⟩ := S.own hp (.lst ws)
      have hd1 : upd H p (.lst ws) dx = none := by rw [upd_ne (Ne.symm hpd)]; exact hdx
      obtain ⟨S1, eo1, e1⟩ := S0.own hd1 (exd dx [(g, .ref p), (f, v)])
      have ha1 : upd (upd H p (.lst ws)) dx (exd dx [(g, .ref p), (f, v)]) a = none := by rw [upd_ne (Ne.symm hne), upd_ne (Ne.symm hpa)]; exact ha
      obtain ⟨S2, eo2, e2⟩ := S1.own ha1 (exo a C (some dx))
      have eo := (eo0.trans eo1).trans eo2
      refine k _ _ _ _ _ ⟨S2, eo⟩ (rp_exn (ns := [g, f]) (vs := [.ref p, v]) (.inr ⟨dx, e2, eo2 _ _ e1⟩) rfl ?_) h.2
      refine RpA.cons ?_ (RpA.cons (q.mono eo (Ex.refl _)) RpA.nil)
      simp only [Rp]
      exact ⟨p, ws, rfl, (eo1.trans eo2) _ _ e0, r3.mono eo (Ex.refl _)⟩
    · exact h.elim
  · exact h.elim
end
/-- an error class of the text by its name -/
structure CalX (P : Program) (w : World) (K : PySem.W.Frag) (mg : Str → Option Value) (base : Heap) (CX' : CXT) (x : Str) (k : Nat) (C : Addr) (sh : Shp) : Prop where
  ex : ∃ fI fdt ps, FnOk P w K mg base CX' k fI fdt ps (spS K C sh) ∧ mg x = some (.ref C) ∧ PySem.W.findIn K (.ref C) "__init__" = some (some (.ref fI)) ∧ PySem.W.typeIn K (.ref fI) = some (.type "function") ∧ Binds K fdt ps []
  oex : OexC K C
def dmk (C : Addr) (sh : Shp) (a : DA) : DE := fun δ M Q => a δ M fun xs M1 => mkS sh xs M1 fun ns ys => Q (.exn C ns ys) M1
def dmk0 (C : Addr) : DE := fun _ M Q => Q (.exn C [] []) M
/-- e.f -/
def dxf (K : PySem.W.Frag) (f : Str) (d : DE) : DE := fun δ M Q => d δ M fun x M1 => match x with
  | .exn C ns xs => XfC K C ∧ PySem.W.findIn K (.ref C) f = some none ∧ ns.length = xs.length ∧ ∃ y, (ns.zip xs).lookup f = some y ∧ Q y M1
  | _ => False
/-- isinstance(e, c) -/
def disx (K : PySem.W.Frag) (cv : Value) (d : DE) : DE := fun δ M Q => d δ M fun x M1 => match x with
  | .exn C _ _ => XiC K C ∧ ∃ b, PySem.W.kitOne K (.ref C) cv = some b ∧ Q (.bl b) M1
  | _ => False
theorem lookup_zip {K : PySem.W.Frag} {O B : Hp} {f : Str} {y : X} : ∀ {ns : List Str} {xs : List X} {vs : List V}, RpA K O B xs vs → (ns.zip xs).lookup f = some y → ∃ v, (ns.zip vs).lookup f = some v ∧ Rp K O B y v
  | [], _, _, _, h => by simp at h
  | n :: ns, [], _, _, h => by simp at h
  | n :: ns, x :: xs, _, r, h => by
    simp only [RpA] at r
    obtain ⟨v, t, e, q, u⟩ := r
    subst e
    simp only [List.zip_cons_cons, List.lookup] at h ⊢
    split at h
    · rename_i hn
      cases h
      exact ⟨v, rfl, q⟩
    · rename_i hn
      exact lookup_zip u h
section
variable {Y : Cx} {W : Ent → Prop} {e : Expr} {es : List Expr} {p pos : Pos} {d : DE} {dr : DA} {CX' : CXT} {k : Nat} {C : Addr} {sh : Shp} {x : Str}
theorem pd_mk (T : CalX Y.prog Y.w Y.K Y.mg Y.base CX' x k C sh) (hr : Room (k + 1) Y.A) (hx : Passes CX' Y (fun _ _ _ => False)) (ha : PAD Y W (e :: es) dr) (hg : Gl Y x := by rfl) (hdb : (x == ("__debug__" : Str)) = false := by decide)
    (he : starEach (e :: es) Y.env = (false, eval e Y.env) :: starEach es Y.env := by rfl) (hpl : (backTo pos (starEach es Y.env)).any (·.1) = false := by rfl) : PD Y W (.Call (.Name x p) (e :: es) [] pos) (dmk C sh dr) := by
  obtain ⟨fI, fdt, ps, F1, hm, iC, tI, hb⟩ := T.ex
  obtain ⟨t, h1, s1⟩ := ha.ex
  refine ⟨_, pe_oexV T.oex iC tI F1 hr hb hx hg hm h1 hdb he hpl, fun N O M δ σ H Q Qd w S L h kk => s1 N O M δ σ H _ _ w S L h fun O1 M1 H1 xs vs n1 r1 h => ?_⟩
  exact mkS_ok n1.st r1 h fun O' M' H' x v n r q => kk O' M' H' x v (n1.trans n) r q
theorem pd_mkE (T : CalX Y.prog Y.w Y.K Y.mg Y.base CX' x k C sh) (hr : Room (k + 1) Y.A) (hx : Passes CX' Y (fun _ _ _ => False)) (hg : Gl Y x := by rfl) (hdb : (x == ("__debug__" : Str)) = false := by decide) :
    PD Y W (.Call (.Name x p) [] [] pos) (dmk C sh dnil) := by
  obtain ⟨fI, fdt, ps, F1, hm, iC, tI, hb⟩ := T.ex
  refine ⟨_, pe_oexV0 T.oex iC tI F1 hr hb hx hg hm hdb, fun N O M δ σ H Q Qd w S L h kk => ?_⟩
  exact mkS_ok S RpA.nil h fun O' M' H' x v n r q => kk O' M' H' x v n r q
theorem pd_mk0 (T : OexC Y.K C) (hi : PySem.W.findIn Y.K (.ref C) "__init__" = some (some (.builtin "ValueError.__init__"))) (hm : Y.mg x = some (.ref C)) (hg : Gl Y x := by rfl) (hdb : (x == ("__debug__" : Str)) = false := by decide) :
    PD Y W (.Call (.Name x p) [] [] pos) (dmk0 C) := by
  refine ⟨_, pe_exc0V T hi hg hm hdb, fun N O M δ σ H Q Qd w S L h kk a ha => ?_⟩
  obtain ⟨S1, eo, e1⟩ := S.own ha (exo a C none)
  exact kk _ _ _ _ _ ⟨S1, eo⟩ (rp_exn (.inl ⟨rfl, e1⟩) rfl RpA.nil) h
theorem pd_xf {n : Str} (he : PD Y W e d) (hb : attributeBase e n Y.env (eval e Y.env) = eval e Y.env := by rfl) : PD Y W (.Attribute e n pos) (dxf Y.K n d) := by
  obtain ⟨t, h1, s1⟩ := he.ex
  refine ⟨_, pe_xfV h1 hb, fun N O M δ σ H Q Qd w S L h kk => s1 N O M δ σ H _ _ w S L h fun O1 M1 H1 x v n1 r1 h => ?_⟩
  split at h
  · rename_i C ns xs
    obtain ⟨T, hno, hl, y, ly, q⟩ := h
    simp only [Rp] at r1
    obtain ⟨a, vs, e1, ea, l2, rr⟩ := r1
    obtain ⟨v2, lv, rv⟩ := lookup_zip rr ly
    rcases ea with ⟨e2, _⟩ | ⟨dx, q1, q2⟩
    · rw [e2] at lv
      cases lv
    · exact ⟨a, C, dx, _, v2, e1, n1.st.oh _ _ q1, n1.st.oh _ _ q2, T, hno, lv, kk _ _ _ _ _ n1 rv q⟩
  · exact h.elim
theorem snd_is {c : V} {cv : Value} {t : TE} (s1 : SndE Y.K W t d) : SndE Y.K W (tCB (rIsV Y.K c cv) (tCons t (tCons (tC c) tNil))) (disx Y.K cv d) := fun N O M δ σ H Q Qd w S L h kk => s1 N O M δ σ H _ _ w S L h fun O1 M1 H1 x v n1 r1 h => by
  split at h
  · rename_i C ns xs
    obtain ⟨T, b, eb, q⟩ := h
    simp only [Rp] at r1
    obtain ⟨a, vs, e1, ea, l2, rr⟩ := r1
    refine ⟨a, C, b, by rw [e1], ?_, T, eb, kk _ _ _ _ _ n1 (by simp only [Rp]) q⟩
    rcases ea with ⟨e2, q1⟩ | ⟨dx, q1, q2⟩
    · exact ⟨none, n1.st.oh _ _ q1, fun _ z => nomatch z⟩
    · exact ⟨some dx, n1.st.oh _ _ q1, fun _ z => by cases z; exact ⟨_, n1.st.oh _ _ q2⟩⟩
  · exact h.elim
/-- isinstance(e, D), D a class of the text -/
theorem pd_isC {D : Addr} {p1 p2 : Pos} (he : PD Y W e d) (hm : Y.mg "isinstance" = none) (hD : Y.mg x = some (.ref D)) (hg : Gl Y "isinstance" := by rfl) (hgx : Gl Y x := by rfl) (hdb : (x == ("__debug__" : Str)) = false := by decide)
    (hs : starEach [e, .Name x p1] Y.env = (false, eval e Y.env) :: starEach [.Name x p1] Y.env := by rfl) (hpl : (backTo pos (starEach [.Name x p1] Y.env)).any (·.1) = false := by rfl) (hs2 : starEach [.Name x p1] Y.env = (false, eval (.Name x p1) Y.env) :: starEach [] Y.env := by rfl) :
    PD Y W (.Call (.Name "isinstance" p2) [e, .Name x p1] [] pos) (disx Y.K (.ref D) d) := by
  obtain ⟨t, h1, s1⟩ := he.ex
  exact ⟨_, pe_callB (call_isV (c := .ref D) fun u r => r) hg hm (by first | rfl | kernel_rfl) (pa_cons h1 (pa_cons (pe_glob (v := .ref D) hgx hD rfl hdb) pa_nil hs2) hs) (by decide) (by decide) hs hpl, snd_is s1⟩
/-- isinstance(e, T), T a built-in type -/
theorem pd_isT {T : String} {p1 p2 : Pos} (he : PD Y W e d) (hm : Y.mg "isinstance" = none) (hT : Y.mg x = none) (hv : bootBuiltins x = some (.type T)) (hg : Gl Y "isinstance" := by rfl) (hgx : Gl Y x := by rfl) (hn : x ≠ "__name__" := by decide) (hdb : (x == ("__debug__" : Str)) = false := by decide)
    (hs : starEach [e, .Name x p1] Y.env = (false, eval e Y.env) :: starEach [.Name x p1] Y.env := by rfl) (hpl : (backTo pos (starEach [.Name x p1] Y.env)).any (·.1) = false := by rfl) (hs2 : starEach [.Name x p1] Y.env = (false, eval (.Name x p1) Y.env) :: starEach [] Y.env := by rfl) :
    PD Y W (.Call (.Name "isinstance" p2) [e, .Name x p1] [] pos) (disx Y.K (.type T) d) := by
  obtain ⟨t, h1, s1⟩ := he.ex
  exact ⟨_, pe_callB (call_isV (c := .ty T) fun u r => r) hg hm (by first | rfl | kernel_rfl) (pa_cons h1 (pa_cons (pe_bltn (v := .ty T) hgx hT hv rfl hn hdb) pa_nil hs2) hs) (by decide) (by decide) hs hpl, snd_is s1⟩
end
end DL

set_option maxRecDepth 100000
set_option maxHeartbeats 4000000
/-! DLi: repr of data; sorted(set(xs)) of ints. -/
namespace L2
open PySem PySem.Spec PyProof.Rows
section
variable {P : Program} {w : World} {A : Around} {E : Value → Shared → Prop} {s : Shared}
theorem call_set_lstI {l : Addr} {items : Array Value} (ns : List Int) {Q : Value → Shared → Prop} (hh : A.handled = none) (hl : s.heap.IsList l items) (hit : IntsAre items.toList ns) (hb : ns.length + 1 < scanBound)
    (h : ∀ (h' : Heap) (tk c : Nat), SetR w h' s.heap.objs.size (fun j => decide (j ∈ ns)) c → c ≤ ns.length → (∀ b o, s.heap.get? b = some o → h'.get? b = some o) → Q (.ref s.heap.objs.size) { s with heap := h', toks := tk }) :
    wpAny (model P w) A (call (.type "set") [.ref l]) Q E s := by
  have hisz : items.size = ns.length := by
    have q := IntsAre.length hit
    rw [Array.length_toList] at q
    exact q
  obtain ⟨c, tl, hmro⟩ := F.called_set.mro
  have hmade := F.called_set.made
  have hsub := F.called_set.sub
  refine wpAny_call (codeAny_of_tree ?_)
  show wpAny _ _ (callAny (.type "set") _) _ _ _
  refine wpAny_pure ⟨Code.quiet_builtin _ (by decide +kernel), codeAny_builtin F.entry_type_call ?_⟩
  rw [Around.under_plain (weight_type_call_type "set" [.ref l] []) rfl]
  have h1 := F.called_set.notType
  have h2 := F.called_set.canCreate
  have hct := F.typeCall_set_1 (.ref l)
  repeat (any_goals (first | assumption | wp_step))
  obtain ⟨S0, hS0⟩ : ∃ S0 : Obj, S0 = { cls := .type "set", dict := none, data := .set #[] 0 (.fresh 0 0 (!w.params.followText "set-order")) } := ⟨_, rfl⟩
  refine codeAny_mono (code_set_led1 (.ref l) (E := E) (Q₁ := fun obj s₁ => obj = .ref s.heap.objs.size ∧ s₁ = { s with heap := s.heap.push { cls := .type "set", dict := none, data := .set #[] 0 (.fresh 0 0 (!w.params.followText "set-order")) } }) ⟨rfl, rfl⟩) fun r s₁ hr => ?_
  match r, hr with
  | .error e, hr => exact hr
  | .ok .next, hr => exact hr.elim
  | .ok .brk, hr => exact hr.elim
  | .ok .cont, hr => exact hr.elim
  | .ok (.ret obj), hr =>
    obtain ⟨rfl, rfl⟩ := hr
    have hS : (s.heap.push { cls := .type "set", dict := none, data := .set #[] 0 (.fresh 0 0 (!w.params.followText "set-order")) }).get? s.heap.objs.size = some { cls := .type "set", dict := none, data := .set #[] 0 (.fresh 0 0 (!w.params.followText "set-order")) } := Heap.get?_push_size _ rfl
    have hT : Shared.TypeIs { s with heap := s.heap.push { cls := .type "set", dict := none, data := .set #[] 0 (.fresh 0 0 (!w.params.followText "set-order")) } } (.ref s.heap.objs.size) "set" := ⟨_, hS, rfl⟩
    have hli := F.called_set.init.lookup
    have hbi := F.called_set.init.bind (.ref s.heap.objs.size)
    repeat (any_goals (first | assumption | wp_step))
    refine codeAny_mono (codeAny_call_builtin (R := wants (fun r s₂ => r = .none ∧ ∃ h' tk c, s₂ = { s with heap := h', toks := tk } ∧ SetR w h' s.heap.objs.size (fun j => decide (j ∈ ns)) c ∧ c ≤ ns.length ∧
        (∀ b o, s.heap.get? b = some o → h'.get? b = some o)) E) F.called_set.init.plain F.entry_set_init (check_set_init_1 hT ?_)) fun r₂ s₂ hr₂ => ?_
    · obtain ⟨⟨ocls, odict, odata, oslots⟩, hol, hcl, nl, hdl⟩ := hl
      simp only at hcl hdl
      subst hcl hdl
      have hol' : (s.heap.push { cls := .type "set", dict := none, data := .set #[] 0 (.fresh 0 0 (!w.params.followText "set-order")) }).get? l = some { cls := .type "list", dict := odict, data := .seq items nl, slots := oslots } := Heap.get?_push_of_some _ hol
      have hsls := F.sub_list_set
      have hslf := F.sub_list_frozenset
      have hne : (Value.type "list" == Value.type "dict") = false := by decide
      have hl1 : (s.heap.push { cls := .type "set", dict := none, data := .set #[] 0 (.fresh 0 0 (!w.params.followText "set-order")) }).IsList l items := ⟨_, hol', rfl, nl, rfl⟩
      unfold Builtin.«set.__init__» noKeywords Builtin.Frozenset.updateFrom
      generalize hPI : pyIter = PI
      wp_walk
      subst hPI
      refine wpAny_pyIter_list hl1 (wpAny_bind (wpAny_runValue ?_))
      have hlS : l < s.heap.objs.size := Heap.lt_size hol
      have hh3 : A.in1.in1.in1.handled = none := by simp [hh]
      have hneI : l ≠ (s.heap.push { cls := .type "set", dict := none, data := .set #[] 0 (.fresh 0 0 (!w.params.followText "set-order")) }).objs.size := by
        rw [Heap.size_push]; exact Nat.ne_of_lt (Nat.lt_succ_of_lt hlS)
      have hSf : s.heap.objs.size ∉ [(s.heap.push { cls := .type "set", dict := none, data := .set #[] 0 (.fresh 0 0 (!w.params.followText "set-order")) }).objs.size, l] := by
        rw [Heap.size_push]; simp only [List.mem_cons, List.mem_singleton, List.not_mem_nil, or_false, not_or]
        exact ⟨Nat.ne_of_lt (Nat.lt_succ_self _), Nat.ne_of_gt hlS⟩
      have hval : ∀ (i : Nat) (v : Value), items[i]? = some v → ∃ k t, ns[i]? = some k ∧ v = .int k t := fun i v hv => by
        have hi : i < ns.length := by rw [← hisz]; exact (Array.getElem?_eq_some_iff.mp hv).1
        obtain ⟨t, e⟩ := PyProof.Rows.IntsAre.int_at hit i v (by rw [Array.getElem?_toList]; exact hv)
        refine ⟨ns[i], t, List.getElem?_eq_getElem hi, ?_⟩
        rw [e, List.getD_eq_getElem?_getD, List.getElem?_eq_getElem hi] <;> rfl
      refine set_update_ints ((Walks.list hh3 _ l hneI items).toS) s.heap.objs.size
        hSf ns hisz hb hval (items.size - 0) 0 _ (by omega) (Nat.zero_le _)
        ⟨⟨_, Heap.get?_push_size _ rfl, rfl, rfl⟩, (hl1.push _)⟩ ?hS0 ?hR
      case hS0 => exact ⟨0, Nat.le_refl 0, setR_new_at (Heap.get?_push_of_some _ hS)⟩
      case hR =>
        intro s' c' hm hc' hS'
        obtain ⟨h', g2, d', tk', os'⟩ := s'
        obtain rfl : g2 = s.gens := hm.gens
        obtain rfl : d' = s.drawn := hm.drawn
        obtain rfl : os' = s.os := hm.os
        show wpAny _ _ _ _ _ _
        refine wpAny_pure ?_
        show wpAny _ _ (ret Value.none) _ _ _
        rw [hisz] at hc'
        refine wpAny_pure ⟨rfl, h', tk', c', rfl, hS', hc', fun b o e => ?_⟩
        have hb0 : b < s.heap.objs.size := Heap.lt_size e
        have hb1 : b ≠ s.heap.objs.size := Nat.ne_of_lt hb0
        have hb2 : b ≠ (s.heap.push { cls := .type "set", dict := none, data := .set #[] 0 (.fresh 0 0 (!w.params.followText "set-order")) }).objs.size := by
          rw [Heap.size_push]; exact Nat.ne_of_lt (Nat.lt_succ_of_lt hb0)
        exact hm.heap b o (by simp only [List.mem_cons, List.mem_singleton, List.not_mem_nil, or_false, not_or]; exact ⟨hb1, hb2⟩) (Heap.get?_push_of_some _ (Heap.get?_push_of_some _ e))
    · match r₂, hr₂ with
      | .error e, hr₂ => exact hr₂
      | .ok .next, hr₂ => exact hr₂.elim
      | .ok .brk, hr₂ => exact hr₂.elim
      | .ok .cont, hr₂ => exact hr₂.elim
      | .ok (.ret r), hr₂ =>
        obtain ⟨rfl, h', tk, c', rfl, hS', hc', hk'⟩ := hr₂
        repeat (any_goals (first | assumption | wp_step))
        exact h _ _ _ hS' hc' hk'
end
section
variable {X : Cx}
/-- sorted(set(xs)), ints -/
def tSortSet (K : PySem.W.Frag) (ta : TE) : TE := fun σ H Q => ta σ H fun x H1 => ∃ (l : Addr) (ns : List Int), x = V.ref l ∧ SqL K H1 l (ns.map V.int) ∧ ns.length < 64 ∧
  ∀ (zs : List Int) (p : Addr), zs.Pairwise (· < ·) → (∀ k : Int, k ∈ zs ↔ k ∈ ns) → zs.length ≤ ns.length → H1 p = none → Q (.ref p) (upd H1 p (.lst (zs.map V.int)))
theorem pe_sortSet {a : Expr} {ta : TE} {p p2 q pos : Pos} (hc : X.calm = true) (hg : Gl X "sorted") (hm : X.mg "sorted" = none) (hg2 : Gl X "set") (hm2 : X.mg "set" = none) (ha : PE X a ta)
    (na : starEach [a] X.env = (false, eval a X.env) :: starEach [] X.env := by rfl) : PE X (.Call (.Name "sorted" p) [.Call (.Name "set" p2) [a] [] q] [] pos) (tSortSet X.K ta) := by
  refine ⟨fun pins s σ H Q I h => ?_⟩
  refine Call_ (ld_blt I hg hm (by first | rfl | kernel_rfl : bootBuiltins "sorted" = some (.builtin "sorted")) ?_)
  refine PyProof.Rows.callWith_builtin1 (PyProof.Rows.args_cons ?_ rfl) rfl rfl
  refine Call_ (ld_blt I hg2 hm2 PyProof.Rows.boot_set ?_)
  refine PyProof.Rows.callWith_type1 (PyProof.Rows.args_cons (thn (ha.run pins s σ H _ I h) fun v s1 ⟨x, H1, I1, r1, q1⟩ => PyProof.Rows.args_nil ?_) na) na rfl
  obtain ⟨l, ns, rfl, hq, h64, q1⟩ := q1
  cases r1
  obtain ⟨its, r, pl, hz⟩ := I1.list hq
  refine call_set_lstI ns (I1.ok.hd hc) pl.isList (by simpa using ints_of_vals r) (by unfold scanBound; omega) fun h' tk c R hcn k => ?_
  refine PyProof.Rows.args_nil ?_
  have I2 : Inv X pins σ H1 { s1 with heap := h', toks := tk } := I1.kept k
  refine sorted_set R (I2.ok.hd hc) (by omega) fun s' p out c2 zs k2 g o hp hgt hi hs hmm hl => ?_
  have hlen : (zs.map V.int).length ≤ sizeLine := by rw [List.length_map, hl, sizeLine_eq]; omega
  have hn : H1 p = none := I2.hok.fresh hp
  have J : Inv X pins σ (upd H1 p (.lst (zs.map V.int))) { ({ s1 with heap := h', toks := tk } : Shared) with heap := s'.heap, gens := s'.gens, drawn := s'.drawn, toks := s'.toks } :=
    I2.call (ch := []) (Un.laid k2 hp hn) (I2.hok.laid k2 hp ⟨hlen, out.toList, c2, vals_of_ints hi, hgt⟩) (by rw [g]; exact I2.bare) (fun _ z => nomatch z)
  have e : s' = { ({ s1 with heap := h', toks := tk } : Shared) with heap := s'.heap, gens := s'.gens, drawn := s'.drawn, toks := s'.toks } := by
    cases s'
    cases s1
    cases o
    rfl
  rw [e]
  exact ⟨.ref p, _, J, rfl, q1 zs p hs (fun k => by rw [hmm k]; simp) (by omega) hn⟩
/-- repr(xs), no repr under way -/
def rRepr (K : PySem.W.Frag) : List V → Hp → VK → Prop := fun xs H Q => ∃ a d, xs = [.ref a] ∧ Dp K H (.ref a) d ∧ d.showable = true ∧ d.hasDict = false ∧ d.depth ≤ 60 ∧ d.shown.length ≤ sizeLine ∧ Q (.str d.shown) H
theorem call_reprL (hg : X.A.guards = some []) (hu : X.A.units + 64 < cLine) : CallR X (.builtin "repr") (rRepr X.K) := by
  intro pins s σ H xs us Q I r h
  obtain ⟨a, d, rfl, hd, hs, hh, hdp, hz, q⟩ := h
  rw [Vals.ref1 r]
  obtain ⟨as, hr⟩ := Dp.reads I d (.ref a) (.ref a) hd rfl
  exact PySem.repr_of_reads' hr hs (fun z => by rw [hh] at z; cases z) hg (by omega) (fun _ _ z => z) (fun h' u tk k => ⟨.str d.shown, H, I.kept k, ⟨_, rfl⟩, q⟩) hz
end
end L2
namespace DL
open PySem PySem.Spec PyProof.Rows L2
mutual
/-- what a thing is as data; g: the mutable ones -/
def dX (g : Addr → Option PyData) : X → Option PyData
  | .non => some .none
  | .bl b => some (.bool b)
  | .int i => some (.int i)
  | .str s => some (.str s)
  | .lst _ xs => (dXs g xs).map .list
  | .tup xs => (dXs g xs).map .tuple
  | .ptr p => g p
  | .scr ns => some (.list (ns.map .int))
  | _ => none
def dXs (g : Addr → Option PyData) : List X → Option (List PyData)
  | [] => some []
  | x :: xs => match dX g x, dXs g xs with
    | some d, some ds => some (d :: ds)
    | _, _ => none
end
def gM (M : Mu) : Nat → Addr → Option PyData
  | 0, _ => none
  | n + 1, p => match M p with
    | some (.lst zs) => (dXs (gM M n) zs).map .list
    | _ => none
section
variable {K : PySem.W.Frag} {N : Ent} {O H : Hp} {M : Mu}
theorem dpAll_ints : ∀ (ns : List Int), DpAll K H (ns.map V.int) (ns.map PyData.int)
  | [] => .nil
  | n :: ns => .cons (.int n) (dpAll_ints ns)
mutual
theorem dX_ok (S : Stt K N O M H) {g : Addr → Option PyData} (hg : ∀ p d, g p = some d → Dp K H (.ref p) d) : ∀ (x : X) {v : V} {d : PyData}, Rp K O N.B0 x v → dX g x = some d → Dp K H v d
  | .non, _, _, r, h => by simp only [Rp] at r; simp only [dX] at h; cases h; subst r; exact .non
  | .bl b, _, _, r, h => by simp only [Rp] at r; simp only [dX] at h; cases h; subst r; exact .bl b
  | .int i, _, _, r, h => by simp only [Rp] at r; simp only [dX] at h; cases h; subst r; exact .int i
  | .str s, _, _, r, h => by simp only [Rp] at r; simp only [dX] at h; cases h; subst r; exact .str s
  | .ptr p, _, _, r, h => by simp only [Rp] at r; simp only [dX] at h; subst r; exact hg p _ h
  | .ref a, _, _, _, h => by simp only [dX] at h; cases h
  | .obj _ _ _ _, _, _, _, h => by simp only [dX] at h; cases h
  | .exn _ _ _, _, _, _, h => by simp only [dX] at h; cases h
  | .scr ns, _, _, r, h => by
    simp only [dX] at h
    cases h
    obtain ⟨a, vs, e, q, r2⟩ := lstOf_ok S r (show lstOf M (.scr ns) = some (ns.map X.int) from rfl)
    subst e
    rw [r2.ints] at q
    exact .lst q (dpAll_ints ns)
  | .lst b xs, _, _, r, h => by
    simp only [dX] at h
    obtain ⟨ds, e2, e3⟩ := Option.map_eq_some_iff.mp h
    subst e3
    obtain ⟨a, vs, e, q, r2⟩ := lstOf_ok S r (show lstOf M (.lst b xs) = some xs from rfl)
    subst e
    exact .lst q (dXs_ok S hg xs r2 e2)
  | .tup xs, _, _, r, h => by
    simp only [dX] at h
    obtain ⟨ds, e2, e3⟩ := Option.map_eq_some_iff.mp h
    subst e3
    obtain ⟨a, vs, e, q, r2⟩ := tup_ok S r
    subst e
    exact .tup q (dXs_ok S hg xs r2 e2)
theorem dXs_ok (S : Stt K N O M H) {g : Addr → Option PyData} (hg : ∀ p d, g p = some d → Dp K H (.ref p) d) : ∀ (xs : List X) {vs : List V} {ds : List PyData}, RpA K O N.B0 xs vs → dXs g xs = some ds → DpAll K H vs ds
  | [], _, _, r, h => by simp only [RpA] at r; simp only [dXs] at h; cases h; subst r; exact .nil
  | x :: xs, _, _, r, h => by
    simp only [RpA] at r
    obtain ⟨v, t, e, q, u⟩ := r
    subst e
    simp only [dXs] at h
    split at h
    · rename_i d ds e1 e2
      cases h
      exact .cons (dX_ok S hg x q e1) (dXs_ok S hg xs u e2)
    · cases h
end
theorem gM_ok (S : Stt K N O M H) : ∀ (n : Nat) p d, gM M n p = some d → Dp K H (.ref p) d
  | 0, _, _, h => by simp only [gM] at h; cases h
  | n + 1, p, d, h => by
    simp only [gM] at h
    split at h
    · rename_i zs e
      obtain ⟨ds, e2, e3⟩ := Option.map_eq_some_iff.mp h
      subst e3
      obtain ⟨vs, hp, r⟩ := S.cl p _ e
      exact .lst (.inl (.inl hp)) (dXs_ok S (gM_ok S n) zs r e2)
    · cases h
theorem dXs_map (g : Addr → Option PyData) {α : Type} (f : α → X) (f' : α → PyData) (h : ∀ a, dX g (f a) = some (f' a)) : ∀ l : List α, dXs g (l.map f) = some (l.map f')
  | [] => rfl
  | a :: l => by simp only [List.map_cons, dXs, h, dXs_map g f f' h l]
@[simp] theorem dXs_ints (g : Addr → Option PyData) (ns : List Int) : dXs g (ns.map X.int) = some (ns.map PyData.int) := dXs_map g _ _ (fun _ => by simp only [dX]) ns
end
/-- the text that repr gives is told -/
def okR (d : PyData) : Prop := d.showable = true ∧ d.hasDict = false ∧ d.depth ≤ 60 ∧ d.shown.length ≤ sizeLine
def fRepr (xs : List X) (M : Mu) (Q : VKd) : Prop := match xs with
  | [x] => (match x with
    | .lst _ _ | .tup _ | .ptr _ | .scr _ => (match dX (gM M 3) x with
      | some d => okR d ∧ Q (.str d.shown) M
      | none => False)
    | _ => False)
  | _ => False
def fSortSet (m : Bool) (d : DE) : DE := fun δ M Q => d δ M fun x M1 => match lstOf M1 x with
  | some xs => ∃ ns : List Int, xs = ns.map X.int ∧ ns.length < 64 ∧ ∀ zs : List Int, zs.Pairwise (· < ·) → (∀ k, k ∈ zs ↔ k ∈ ns) → zs.length ≤ ns.length → newl m (zs.map X.int) M1 Q
  | none => False
section
variable {K : PySem.W.Frag} {Y : Cx} {W : Ent → Prop} {a : Expr} {d : DE} {p p2 q pos : Pos}
theorem snd_repr : SndC K (rRepr K) fRepr := fun N O M H xs vs Q Qd S r h k => by
  unfold fRepr at h
  split at h
  · rename_i x
    obtain ⟨v, e, r1⟩ := rpa1 r
    subst e
    have key : ∀ d, dX (gM M 3) x = some d → okR d → Qd (.str d.shown) M → (∃ a, v = .ref a) → rRepr K [v] H Q := fun d e ⟨h1, h2, h3, h4⟩ q ⟨a, ea⟩ => by
      have z := dX_ok S (gM_ok S 3) x r1 e
      subst ea
      exact ⟨a, d, rfl, z, h1, h2, h3, h4, k _ _ _ (.str d.shown) _ (Nxt.refl S) (by simp only [Rp]) q⟩
    split at h
    · split at h
      · rename_i d e
        simp only [Rp] at r1
        obtain ⟨a, vs, e1, _⟩ := id r1
        exact key d e h.1 h.2 ⟨a, e1⟩
      · exact h.elim
    · split at h
      · rename_i d e
        simp only [Rp] at r1
        obtain ⟨a, vs, e1, _⟩ := id r1
        exact key d e h.1 h.2 ⟨a, e1⟩
      · exact h.elim
    · split at h
      · rename_i d e
        simp only [Rp] at r1
        exact key d e h.1 h.2 ⟨_, r1⟩
      · exact h.elim
    · split at h
      · rename_i d e
        simp only [Rp] at r1
        obtain ⟨a, e1, _⟩ := id r1
        exact key d e h.1 h.2 ⟨a, e1⟩
      · exact h.elim
    · exact h.elim
  · exact h.elim
theorem pd_sortSet (m : Bool) (hc : Y.calm = true) (hm : Y.mg "sorted" = none) (hm2 : Y.mg "set" = none) (ha : PD Y W a d) (hg : Gl Y "sorted" := by rfl) (hg2 : Gl Y "set" := by rfl)
    (na : starEach [a] Y.env = (false, eval a Y.env) :: starEach [] Y.env := by rfl) : PD Y W (.Call (.Name "sorted" p) [.Call (.Name "set" p2) [a] [] q] [] pos) (fSortSet m d) := by
  obtain ⟨t, h1, s1⟩ := ha.ex
  refine ⟨_, pe_sortSet hc hg hm hg2 hm2 h1 na, fun N O M δ σ H Q Qd w S L h kk => s1 N O M δ σ H _ _ w S L h fun O1 M1 H1 x v n1 r1 h => ?_⟩
  split at h
  · rename_i xs ex
    obtain ⟨ns, e1, h64, h⟩ := h
    subst e1
    obtain ⟨l, vs, e2, q2, r2⟩ := lstOf_ok n1.st r1 ex
    rw [r2.ints] at q2
    refine ⟨l, ns, e2, q2, h64, fun zs p hs hmm hl hp => ?_⟩
    exact newl_ok n1.st (RpA.of_ints zs) (h zs hs hmm hl) (fun O' M' H' x v n r q => kk O' M' H' x v (n1.trans n) r q) p hp
  · exact h.elim
/-- x == y, x != y of things made of lists and tuples -/
def fEqD (n : Bool) (x y : X) (M : Mu) (Q : VKd) : Prop := match dX (gM M 3) x, dX (gM M 3) y with
  | some d, some e => SeqAt.shaped d = true ∧ SeqAt.shaped e = true ∧ Q (.bl (n != PyData.eqv d e)) M
  | _, _ => False
theorem snd_eqD : SndOp K (rEqD K) (fEqD false) := fun N O M H x y v u Q Qd S rx ry h k => by
  unfold fEqD at h
  split at h
  · rename_i d e e1 e2
    exact ⟨d, e, dX_ok S (gM_ok S 3) x rx e1, dX_ok S (gM_ok S 3) y ry e2, h.1, h.2.1, k _ _ _ (.bl (false != PyData.eqv d e)) _ (Nxt.refl S) (by simp [Rp]) h.2.2⟩
  · exact h.elim
theorem snd_neD : SndOp K (rNeD K) (fEqD true) := fun N O M H x y v u Q Qd S rx ry h k => by
  unfold fEqD at h
  split at h
  · rename_i d e e1 e2
    exact ⟨d, e, dX_ok S (gM_ok S 3) x rx e1, dX_ok S (gM_ok S 3) y ry e2, h.1, h.2.1, k _ _ _ (.bl (true != PyData.eqv d e)) _ (Nxt.refl S) (by simp [Rp]) h.2.2⟩
  · exact h.elim
theorem depthAll_leaf : ∀ {ds : List PyData}, (∀ d ∈ ds, d.depth = 0) → PyData.depthAll ds = 0
  | [], _ => rfl
  | d :: ds, h => by simp only [PyData.depthAll, h d List.mem_cons_self, depthAll_leaf fun e he => h e (List.mem_cons_of_mem _ he)]; rfl
theorem canLayAll0_of : ∀ {ds : List PyData}, (∀ d ∈ ds, d.canLay0 = true) → PyData.canLayAll0 ds = true
  | [], _ => rfl
  | d :: ds, h => by simp only [PyData.canLayAll0, h d List.mem_cons_self, canLayAll0_of fun e he => h e (List.mem_cons_of_mem _ he), Bool.and_self]
theorem shaped_leaves {ds : List PyData} (h : ∀ d ∈ ds, d.canLay0 = true ∧ d.depth = 0) : SeqAt.shaped (.list ds) = true := by
  unfold SeqAt.shaped
  rw [Bool.and_eq_true]
  refine ⟨by simp only [PyData.canLay0]; exact canLayAll0_of fun d hd => (h d hd).1, ?_⟩
  simp only [PyData.depth, depthAll_leaf fun d hd => (h d hd).2]
  decide
theorem shaped_map {α : Type} (f : α → PyData) (h : ∀ a, (f a).canLay0 = true ∧ (f a).depth = 0) (l : List α) : SeqAt.shaped (.list (l.map f)) = true := shaped_leaves fun d hd => by
  obtain ⟨a, _, rfl⟩ := List.mem_map.mp hd
  exact h a
theorem eqv_shaped {d : PyData} (h : SeqAt.shaped d = true) : PyData.eqv d d = true := SeqAt.eqv_refl d (SeqAt.canLay_of_shaped h)
end
end DL

set_option maxRecDepth 100000
/-! DLj: expressions of which the outcome is told: Ev e δ M x M'. -/
namespace DL
open PySem PySem.Spec PyProof.Rows L2
def Ev (e : DE) (δ : Dl) (M : Mu) (x : X) (M' : Mu) : Prop := ∀ Q : VKd, Q x M' → e δ M Q
def EvA (a : DA) (δ : Dl) (M : Mu) (xs : List X) (M' : Mu) : Prop := ∀ Q : List X → Mu → Prop, Q xs M' → a δ M Q
def EvT (t : DT) (δ : Dl) (M : Mu) (b : Bool) (M' : Mu) : Prop := ∀ Q : Bool → Mu → Prop, Q b M' → t δ M Q
section
variable {δ : Dl} {M M1 M2 M' : Mu} {e a b : DE} {r : DA} {x y z : X} {xs ys : List X}
theorem ev_var {i : Nat} (h : δ[i]? = some (some x)) : Ev (dvar i) δ M x M := fun Q q => by
  unfold dvar
  rw [h]
  exact q
theorem ev_c : Ev (dc x) δ M x M := fun Q q => q
theorem ev_nil : EvA dnil δ M [] M := fun Q q => q
theorem ev_cons (h : Ev e δ M x M1) (t : EvA r δ M1 xs M2) : EvA (dcons e r) δ M (x :: xs) M2 := fun Q q => h _ (t _ q)
theorem ev_lst (h : EvA r δ M xs M1) (hl : xs.length ≤ sizeLine) : Ev (dlst false r) δ M (.lst true xs) M1 := fun Q q => h _ ⟨hl, q⟩
theorem ev_tup (h : EvA r δ M xs M1) (hl : xs.length ≤ sizeLine) : Ev (dtup r) δ M (.tup xs) M1 := fun Q q => h _ ⟨hl, q⟩
theorem ev_addL {b1 b2 : Bool} (h : Ev a δ M (.lst b1 xs) M1) (k : Ev b δ M1 (.lst b2 ys) M2) (hl : xs.length + ys.length ≤ sizeLine) : Ev (dop (fAdd false) a b) δ M (.lst true (xs ++ ys)) M2 := fun Q q => h _ (k _ ⟨hl, q⟩)
theorem ev_ix {i : Int} {b1 : Bool} (h : Ev a δ M (.lst b1 xs) M1) (k : Ev b δ M1 (.int i) M2) (hz : atI xs i = some z) : Ev (dop fIx a b) δ M z M2 := fun Q q => h _ (k _ (by
  show (match atI xs i with | some z => Q z M2 | none => False)
  rw [hz]
  exact q))
theorem ev_ixP {i : Int} {p : Addr} (h : Ev a δ M (.ptr p) M1) (k : Ev b δ M1 (.int i) M2) (hp : M2 p = some (.lst xs)) (hz : atI xs i = some z) : Ev (dop fIx a b) δ M z M2 := fun Q q => h _ (k _ (by
  simp only [fIx, lstOf, hp]
  rw [hz]
  exact q))
theorem ev_mk0 {C : Addr} (h : EvA r δ M [] M1) : Ev (dmk C .s0 r) δ M (.exn C [] []) M1 := fun Q q => h _ q
theorem ev_mk1 {C : Addr} {f : Str} (h : EvA r δ M [x] M1) (hx : okX x) : Ev (dmk C (.s1 f) r) δ M (.exn C [f] [x]) M1 := fun Q q => h _ ⟨hx, q⟩
theorem ev_mk2 {C : Addr} {f g : Str} (h : EvA r δ M [x, y] M1) (hx : okX x) (hy : okX y) : Ev (dmk C (.s2 f g) r) δ M (.exn C [g, f] [y, x]) M1 := fun Q q => h _ ⟨hx, hy, q⟩
theorem ev_mkB {C : Addr} {f g : Str} (h : EvA r δ M [x, y] M1) (hx : okX x) (hy : lstOf M1 y = some xs) (hl : xs.length ≤ sizeLine) : Ev (dmk C (.sB f g) r) δ M (.exn C [g, f] [.lst true xs, x]) M1 := fun Q q => h _ ⟨hx, by
  rw [hy]
  exact ⟨hl, q⟩⟩
theorem ev_mkP {C : Addr} : Ev (dmk0 C) δ M (.exn C [] []) M := fun Q q => q
theorem ev_xf {K : PySem.W.Frag} {C : Addr} {f : Str} {ns : List Str} (h : Ev e δ M (.exn C ns xs) M1) (T : XfC K C) (hf : PySem.W.findIn K (.ref C) f = some none) (hl : ns.length = xs.length) (hy : (ns.zip xs).lookup f = some y) : Ev (dxf K f e) δ M y M1 := fun Q q => h _ ⟨T, hf, hl, y, hy, q⟩
theorem ev_is {K : PySem.W.Frag} {C : Addr} {cv : Value} {ns : List Str} {k : Bool} (h : Ev e δ M (.exn C ns xs) M1) (T : XiC K C) (hk : PySem.W.kitOne K (.ref C) cv = some k) : Ev (disx K cv e) δ M (.bl k) M1 := fun Q q => h _ ⟨T, k, hk, q⟩
theorem ev_asg {i : Nat} {D : EndsD} (h : Ev e δ M x M1) (k : D.nx (δ.set i (some x)) M1) : dasg e i D δ M := h _ k
theorem ev_step {i : Nat} {rest : DS} {D : EndsD} (h : Ev e δ M x M1) (k : rest D (δ.set i (some x)) M1) : dseq (dasg e i) rest D δ M := h _ k
theorem ev_ret {D : EndsD} (h : Ev e δ M x M1) (k : D.rt x M1) : dret e D δ M := h _ k
theorem ev_seq {s t : DS} {D : EndsD} (h : s { D with nx := t D } δ M) : dseq s t D δ M := h
theorem ev_not {k : Bool} (h : Ev e δ M (.bl k) M1) : Ev (dnotV e) δ M (.bl (!k)) M1 := fun Q q => h _ q
theorem evt_test {k : Bool} (h : Ev e δ M (.bl k) M1) : EvT (dtest e) δ M k M1 := fun Q q => h _ q
theorem repr_lst {b : Bool} {d : PyData} {Q : VKd} (h : dX (gM M 3) (.lst b xs) = some d) (ok : okR d) (q : Q (.str d.shown) M) : fRepr [.lst b xs] M Q := by
  unfold fRepr
  simp only [h]
  exact ⟨ok, q⟩
theorem sortSet_i {m : Bool} {b : Bool} {ns : List Int} {d : DE} {Q : VKd} (h : Ev d δ M (.lst b (ns.map X.int)) M1) (h64 : ns.length < 64)
    (q : ∀ zs : List Int, zs.Pairwise (· < ·) → (∀ k, k ∈ zs ↔ k ∈ ns) → zs.length ≤ ns.length → newl m (zs.map X.int) M1 Q) : fSortSet m d δ M Q := h _ ⟨ns, rfl, h64, q⟩
theorem eqD_i {n : Bool} {d e' : PyData} {Q : VKd} (h1 : dX (gM M 3) x = some d) (h2 : dX (gM M 3) y = some e') (s1 : SeqAt.shaped d = true) (s2 : SeqAt.shaped e' = true) (q : Q (.bl (n != PyData.eqv d e')) M) : fEqD n x y M Q := by
  unfold fEqD
  simp only [h1, h2]
  exact ⟨s1, s2, q⟩
/-- one statement, its outcomes told -/
theorem step_asg {i : Nat} {rest : DS} {D : EndsD} (S : X → Mu → Prop) (h : ∀ Q : VKd, (∀ x M1, S x M1 → Q x M1) → e δ M Q) (k : ∀ x M1, S x M1 → rest D (δ.set i (some x)) M1) : dseq (dasg e i) rest D δ M := h _ k
theorem step_drop {rest : DS} {D : EndsD} (S : X → Mu → Prop) (h : ∀ Q : VKd, (∀ x M1, S x M1 → Q x M1) → e δ M Q) (k : ∀ x M1, S x M1 → rest D δ M1) : dseq (ddrop e) rest D δ M := h _ k
theorem step_if0 {c : DT} {a : DS} {rest : DS} {D : EndsD} (h : EvT c δ M false M1) (k : rest D δ M1) : dseq (diff c a dnext) rest D δ M := h _ k
theorem step_if1 {c : DT} {a : DS} {b rest : DS} {D : EndsD} (h : EvT c δ M true M1) (k : a { D with nx := rest D } δ M1) : dseq (diff c a b) rest D δ M := h _ k
theorem evt_not {c : DT} {k : Bool} (h : EvT c δ M k M1) : EvT (dnot c) δ M (!k) M1 := fun Q q => h _ q
theorem evt_or0 {c d : DT} {k : Bool} (h : EvT c δ M false M1) (h2 : EvT d δ M1 k M2) : EvT (dor c d) δ M k M2 := fun Q q => h _ (h2 _ q)
theorem ev_repr {b : Bool} {d : PyData} (h : Ev e δ M (.lst b xs) M1) (hd : dX (gM M1 3) (.lst b xs) = some d) (ok : okR d) : Ev (dcb fRepr (dcons e dnil)) δ M (.str d.shown) M1 := fun Q q => h _ (repr_lst hd ok q)
theorem ev_eqS {n : Bool} {s s' : Str} (h : Ev a δ M (.str s) M1) (k : Ev b δ M1 (.str s') M2) : Ev (dop (fEq n) a b) δ M (.bl (n != decide (s = s'))) M2 := fun Q q => h _ (k _ q)
theorem ev_eqI {n : Bool} {i j : Int} (h : Ev a δ M (.int i) M1) (k : Ev b δ M1 (.int j) M2) : Ev (dop (fEq n) a b) δ M (.bl (n != decide (i = j))) M2 := fun Q q => h _ (k _ q)
theorem ev_eqD {n : Bool} {d e' : PyData} (h : Ev a δ M x M1) (k : Ev b δ M1 y M2) (h1 : dX (gM M2 3) x = some d) (h2 : dX (gM M2 3) y = some e') (s1 : SeqAt.shaped d = true) (s2 : SeqAt.shaped e' = true) :
    Ev (dop (fEqD n) a b) δ M (.bl (n != PyData.eqv d e')) M2 := fun Q q => h _ (k _ (eqD_i h1 h2 s1 s2 q))
theorem ev_and1 (h : Ev a δ M (.bl true) M1) (k : Ev b δ M1 x M2) : Ev (dandV a b) δ M x M2 := fun Q q => h _ (k _ q)
theorem ev_callP {n : Nat} {f : PF} {Er : ErrK} (h : EvA r δ M xs M1) (hf : ∀ (P : X → Prop) E, P x → f (xs.map (vw m0 M1 n)) P E) : Ev (dcallP n f Er r) δ M x M1 := fun Q q => h _ (hf _ _ q)
theorem ev_len {b : Bool} (h : Ev e δ M (.lst b xs) M1) : Ev (dcb fLen (dcons e dnil)) δ M (.int xs.length) M1 := fun Q q => h _ q
end
theorem okR_of {d : PyData} (h1 : d.showable = true) (h2 : d.hasDict = false) (h3 : d.depth ≤ 60) (h4 : d.leavesShort 60 = true) (h5 : d.weight ≤ 100000) : okR d := by
  have := PyData.shown_le 60 (by decide) d h4
  exact ⟨h1, h2, h3, by rw [sizeLine_eq]; omega⟩
theorem int_small {z : Int} (h : z.natAbs < 10 ^ 30) : (PyData.int z).showable = true ∧ (PyData.int z).leavesShort 60 = true ∧ (PyData.int z).weight ≤ 100 := by
  have hl : z = 0 ∨ z.natAbs.log2 < 100 := by
    by_cases h0 : z.natAbs = 0
    · exact .inl (by omega)
    · exact .inr ((Nat.log2_lt h0).mpr (Nat.lt_trans h (by decide)))
  refine ⟨?_, ?_, ?_⟩
  · simp only [PyData.showable]
    rcases hl with rfl | hl
    · decide
    · exact decide_eq_true (by omega)
  · simp only [PyData.leavesShort]
    refine decide_eq_true ?_
    have e := int_text_length_le10 (k := 30) (by decide) h
    show (Str.ofString (toString z)).length ≤ 60
    rw [PySem.ofString_length]
    omega
  · simp only [PyData.weight]
    split
    · omega
    · rename_i hz
      rcases hl with rfl | hl
      · exact absurd rfl hz
      · omega
theorem ints_ok : ∀ {zs : List Int}, (∀ z ∈ zs, z.natAbs < 10 ^ 30) → PyData.showableAll (zs.map .int) = true ∧ PyData.hasDictAll (zs.map .int) = false ∧ PyData.depthAll (zs.map .int) = 0 ∧ PyData.leavesShortAll 60 (zs.map .int) = true ∧ PyData.weightAll (zs.map .int) ≤ 101 * zs.length
  | [], _ => ⟨rfl, rfl, rfl, rfl, by simp [PyData.weightAll]⟩
  | z :: zs, h => by
    obtain ⟨a1, a2, a3⟩ := int_small (h z List.mem_cons_self)
    obtain ⟨b1, b2, b3, b4, b5⟩ := ints_ok fun y hy => h y (List.mem_cons_of_mem _ hy)
    refine ⟨?_, ?_, ?_, ?_, ?_⟩
    · simp only [List.map_cons, PyData.showableAll, a1, b1, Bool.and_self]
    · simp only [List.map_cons, PyData.hasDictAll, PyData.hasDict, b2, Bool.or_self]
    · simp only [List.map_cons, PyData.depthAll, PyData.depth, b3]; rfl
    · simp only [List.map_cons, PyData.leavesShortAll, a2, b4, Bool.and_self]
    · simp only [List.map_cons, PyData.weightAll, List.length_cons]
      omega
section
variable {δ : Dl} {M M1 M2 M' : Mu} {e a b : DE} {r : DA} {x y z : X} {xs ys : List X}
theorem ev_eqq {s : Str} (h : Ev a δ M (.str s) M1) (k : Ev b δ M1 (.str s) M2) : Ev (dop (fEq true) a b) δ M (.bl false) M2 := fun Q q => h _ (k _ (by
  show Q (.bl (true != decide (s = s))) M2
  rw [decide_eq_true rfl]
  exact q))
theorem ev_eqqD {d : PyData} (h : Ev a δ M x M1) (k : Ev b δ M1 y M2) (h1 : dX (gM M2 3) x = some d) (h2 : dX (gM M2 3) y = some d) (s1 : SeqAt.shaped d = true) : Ev (dop (fEqD true) a b) δ M (.bl false) M2 := fun Q q => h _ (k _ (eqD_i h1 h2 s1 s1 (by
  rw [eqv_shaped s1]
  exact q)))
theorem ev_lenN {b : Bool} {n : Int} (h : Ev e δ M (.lst b xs) M1) (hl : (xs.length : Int) = n) : Ev (dcb fLen (dcons e dnil)) δ M (.int n) M1 := fun Q q => h _ (by
  show Q (.int xs.length) M1
  rw [hl]
  exact q)
/-- for i in range(n), by an invariant -/
theorem step_rng {a : DA} {g : DG} {body rest : DS} {D : EndsD} {j : Int} (h : EvA a δ M [.int j] M1) (hj : j < 2 ^ 60) (hj0 : 0 ≤ j) (I : Nat → Dl → Mu → Prop) (h0 : I 0 δ M1) (k : ∀ δ M, I j.toNat δ M → rest D δ M)
    (hb : ∀ (i : Nat) (δ : Dl) (M : Mu) (R B : Dl → Mu → Prop), i < j.toNat → I i δ M → (∀ δ' M', I (i + 1) δ' M' → R δ' M') → g (.int i) δ M fun δ1 M1 => body { nx := R, rt := D.rt, ct := R, bk := B } δ1 M1) : dseq (dforS (dirng1 a) g body) rest D δ M := by
  refine h _ ⟨hj, by omega, ?_⟩
  refine dfor_rng I h0 (fun δ M q => ⟨trivial, k δ M q⟩) fun i δ M R hi q kk => ⟨trivial, ?_⟩
  exact hb i δ M R _ hi q kk
theorem ev_lcr {a : DA} {g : DG} {e : DE} {vs : List Nat} {j : Int} {v : Nat → X} (h : EvA a δ M [.int j] M1) (hj : j < 1000000) (hj0 : 0 ≤ j)
    (hs : ∀ (i : Nat) (R : X → Mu → Prop), i < j.toNat → R (v i) M1 → g (.int i) (wipeD δ vs) M1 fun δ1 M1 => e δ1 M1 R) : Ev (dlc false (dirng1 a) g dyes e vs) δ M (.lst true ((List.range j.toNat).map v)) M1 := fun Q q =>
  h _ ⟨by omega, by omega, dlc_rng (by omega) trivial q hs⟩
end
end DL

set_option maxRecDepth 100000
set_option maxHeartbeats 2000000
/-! EXd: own errors raised. -/
namespace L2
open PySem PySem.Spec PyProof.Rows
section
variable {X : Cx} {p pos : Pos}
/-- C(), made to be raised; its __init__ leaves it without a field -/
theorem pmk_oex0 {CX : CXT} {x : Str} {C fI : Addr} {k : Nat} {fd : FuncData} {ps : List Str} (T : OexC X.K C) (iC : PySem.W.findIn X.K (.ref C) "__init__" = some (some (.ref fI))) (tI : PySem.W.typeIn X.K (.ref fI) = some (.type "function"))
    (F1 : FnOk X.prog X.w X.K X.mg X.base CX k fI fd ps (sp0 C)) (hr : Room (k + 1) X.A) (hb : Binds X.K fd ps []) (hx : Passes CX X (fun _ _ _ => False)) (hg : Gl X x) (hm : X.mg x = some (.ref C)) (hdb : (x == ("__debug__" : Str)) = false := by decide) :
    PMk X (.Call (.Name x p) [] [] pos) (fun _ H Q => Q (.ref C) none H) := by
  intro pins s σ H Q I h
  obtain ⟨nm, q, N, bs, bm, sn, sub, ab, col, dd, k0, k1, k2, k3, k5, hC, hbm⟩ := T.cls
  refine wpAny_Call_Name_kw (ld_glob I hg hm (PySem.W.callWith_K0 I.kIn T.kC ?_) hdb)
  obtain ⟨hp, g, dr, tk, os⟩ := s
  have hn : H (hp.objs.size + 1) = none := I.hok.fresh (Nat.le_succ _)
  have kk : ∀ b o, hp.get? b = some o → ((hp.push (PySem.W.kdv_tup [])).push (PySem.HandSPX.excO C hp.objs.size)).get? b = some o := fun b o e => Heap.get?_push_of_some _ (Heap.get?_push_of_some _ e)
  have hget : ((hp.push (PySem.W.kdv_tup [])).push (PySem.HandSPX.excO C hp.objs.size)).get? (hp.objs.size + 1) = some (PySem.HandSPX.excO C hp.objs.size) := by heap_get
  have I2 := I.laid (t' := tk) (a := hp.objs.size + 1) (o := exo (hp.objs.size + 1) C none) kk (Nat.le_succ _) (exo_ok hget)
  have hq : sp0 C [.ref (hp.objs.size + 1)] (upd H (hp.objs.size + 1) (exo (hp.objs.size + 1) C none)) (fun v H2 => v = .non ∧ H2 = upd H (hp.objs.size + 1) (exo (hp.objs.size + 1) C none)) (fun _ _ _ => False) := ⟨_, rfl, upd_same, rfl, rfl⟩
  have hl : ([Value.ref (hp.objs.size + 1)] ++ []).length = ps.length := (F1.len _ _ _ _ hq).trans rfl |>.symm ▸ rfl
  have hbb := hb _ [Value.ref (hp.objs.size + 1)] I2.kIn hl
  rw [List.append_nil] at hbb
  refine wpAny_call (PySem.HandSPX.call_own F.excBase_ValueError (fun Y => PySem.HandSPX.refsVE_contains Y bm hbm) (I.kIn _ _ hC) (PySem.W.looks_findIn I.kIn iC) (fun self => PySem.W.bind_fn I.kIn self tI) (by rw [sizeLine_eq]; exact Nat.zero_le _)
    (codeAny_mono (F1.run _ X.stack _ _ ⟨[Value.ref (hp.objs.size + 1)], []⟩ [Value.ref (hp.objs.size + 1)] _ _ (fun _ _ _ => False) (hr.make C [] []) (I2.env0.make C [] []) hbb (show Vals [V.ref (hp.objs.size + 1)] [Value.ref (hp.objs.size + 1)] from .cons rfl .nil) hq) fun r s' hq' => ?_))
  match r, hq' with
  | .error er, hq' => exact hx pins σ _ _ er s' I2 hq'
  | .ok .next, hq' => exact hq'.elim
  | .ok .brk, hq' => exact hq'.elim
  | .ok .cont, hq' => exact hq'.elim
  | .ok (.ret u), ⟨v, H2, os2, bare2, un, hok, rv, ev, e2⟩ =>
    subst ev e2
    refine ⟨rv, ?_⟩
    obtain ⟨h2, g2, d2, t2, os'⟩ := s'
    obtain ⟨t0, hoe⟩ := exo_at hok upd_same
    -- the heap without the error
    obtain ⟨G, g1, gn⟩ := restrict h2 fun b => decide (b ≠ hp.objs.size + 1)
    have gk : ∀ b, b ≠ hp.objs.size + 1 → G.get? b = h2.get? b := fun b hb => g1 b (decide_eq_true hb)
    have ge : G.get? (hp.objs.size + 1) = none := gn _ (by simp)
    have old : ∀ {b : Addr} {o : Obj}, hp.get? b = some o → b ≠ hp.objs.size + 1 := fun z => Nat.ne_of_lt (Nat.lt_succ_of_lt (Heap.lt_size z))
    have off : ∀ {b : Addr} {u : Option HO}, b ≠ hp.objs.size + 1 → H b = u → upd H (hp.objs.size + 1) (exo (hp.objs.size + 1) C none) b = u := fun hb n => by rw [upd_ne hb]; exact n
    have ne : ∀ {b : Addr} {u : HO}, H b = some u → b ≠ hp.objs.size + 1 := fun z => ne_of_none z hn
    have U : Un (frs X.stack) [] H H hp G := by
      refine ⟨fun b o z n hf hx => ?_, fun b o z n hf hx => ?_, fun b o z n hx => n, fun b o z hx => ?_, fun b xs z => z, fun b o v z => z, fun b ps z => ⟨#[], by rw [z]; simp⟩⟩
      · rw [gk b (old z)]
        exact un.keep b o (kk b o z) (off (old z) n) hf hx
      · rw [gk b (old z)]
        exact un.slot b o (kk b o z) (off (old z) n) hf hx
      · rw [gk b (old z)]
        exact un.there b o (kk b o z) hx
    have hokG : HOk X.prog X.w H G := fun b o z => (hok b o (off (ne z) z)).stay (fun c v hc y => by
        have hca : c ≠ hp.objs.size + 1 := by
          rcases hc with hc | hc
          · rw [hc]; exact ne z
          · exact at_ne upd_same hc exo_own
        rw [gk c hca]
        exact y)
      (fun c hc => by rw [upd_ne (at_ne upd_same hc exo_own)] at hc; exact hc) (fun c xs hc => by rw [upd_ne (at_ne upd_same hc exo_tup)] at hc; exact hc)
    have J : Inv X pins σ H ⟨G, g2, d2, t2, os'⟩ := I.call' (ch := []) os2 U hokG bare2 (fun b z => absurd z (by simp))
    refine ⟨_, _, _, ⟨G, g2, d2, t2, os'⟩, H, .ref C, none, rfl, J, fun b o z => ?_, ge, hoe, ⟨rfl, rfl⟩, rfl, rfl, hn, rfl, bare2, raises_own T.exC T.tyC, h⟩
    by_cases hba : b = hp.objs.size + 1
    · rw [hba, ge] at z; cases z
    · exact (gk b hba).symm.trans z
end
end L2
namespace DL
open PySem PySem.Spec PyProof.Rows L2
section
variable {K : PySem.W.Frag} {N : Ent} {O H : Hp} {M : Mu}
theorem del_upd {G : Hp} {a : Addr} {o : HO} (h : G a = none) : del (upd G a o) a = G := by
  funext b
  by_cases e : b = a
  · rw [e, del_same, h]
  · rw [del_ne e, upd_ne e]
/-- the classes' forms, raised -/
theorem mkS_raise {C : Addr} {sh : Shp} {xs : List X} {vs : List V} {E : XK} {Er : ErrK} (hs : sh ≠ .s0) (S : Stt K N O M H) (hE : WE K E Er N) (r : RpA K O N.B0 xs vs) (h : mkS sh xs M fun ns ys => Er C ns ys M) :
    vs.length ≤ 1000 ∧ ∀ a, H a = none → spS K C sh (.ref a :: (vs ++ [])) (upd H a (exo a C none))
      (fun v H2 => v = .non ∧ ∃ (d : Addr) (fs : List (Str × V)), H2 a = some (exo a C (some d)) ∧ H2 d = some (exd d fs) ∧ H d = none ∧ E (.ref C) (some d) (upd (del H2 a) d (.xd fs))) (fun _ _ _ => False) := by
  rw [List.append_nil]
  have fin : ∀ (a dx : Addr) (G : Hp) (fs : List (Str × V)), G a = none → dx ≠ a → E (.ref C) (some dx) (upd G dx (.xd fs)) → ∃ (d : Addr) (fs' : List (Str × V)), upd (upd G dx (exd dx fs)) a (exo a C (some dx)) a = some (exo a C (some d)) ∧ upd (upd G dx (exd dx fs)) a (exo a C (some dx)) d = some (exd d fs') ∧ (d = dx) ∧ E (.ref C) (some d) (upd (del (upd (upd G dx (exd dx fs)) a (exo a C (some dx))) a) d (.xd fs')) := fun a dx G fs ga hne q => by
    refine ⟨dx, fs, upd_same, by rw [upd_ne hne, upd_same], rfl, ?_⟩
    rw [del_upd (by rw [upd_ne (Ne.symm hne)]; exact ga), upd_upd]
    exact q
  unfold mkS at h
  split at h
  · exact absurd rfl hs
  · rename_i f x
    obtain ⟨v, e, q⟩ := rpa1 r
    subst e
    refine ⟨by simp, fun a ha => ⟨a, v, rfl, upd_same, okX_ok q h.1, fun dx hdx hne => ⟨rfl, ?_⟩⟩⟩
    rw [upd_ne hne] at hdx
    rw [upd_comm (Ne.symm hne), upd_upd]
    obtain ⟨S1, eo1, e1⟩ := S.own hdx (.xd [(f, v)])
    obtain ⟨d, fs', z1, z2, rfl, z3⟩ := fin a dx H [(f, v)] ha hne (hE _ _ _ C (some dx) [f] [x] S1 ⟨dx, [v], rfl, upd_same, rfl, r.mono eo1 (Ex.refl _)⟩ h.2)
    exact ⟨_, fs', z1, z2, hdx, z3⟩
  · rename_i f g x y
    obtain ⟨v, u, e, q, q2⟩ := rpa2 r
    subst e
    refine ⟨by simp, fun a ha => ⟨a, v, u, rfl, upd_same, okX_ok q h.1, okX_ok q2 h.2.1, fun dx hdx hne => ⟨rfl, ?_⟩⟩⟩
    rw [upd_ne hne] at hdx
    rw [upd_comm (Ne.symm hne), upd_upd]
    obtain ⟨S1, eo1, e1⟩ := S.own hdx (.xd [(g, u), (f, v)])
    obtain ⟨d, fs', z1, z2, rfl, z3⟩ := fin a dx H [(g, u), (f, v)] ha hne (hE _ _ _ C (some dx) [g, f] [y, x] S1 ⟨dx, [u, v], rfl, upd_same, rfl, (RpA.cons q2 (RpA.cons q RpA.nil)).mono eo1 (Ex.refl _)⟩ h.2.2)
    exact ⟨_, fs', z1, z2, hdx, z3⟩
  · rename_i f g x y
    obtain ⟨v, u, e, q, q2⟩ := rpa2 r
    subst e
    obtain ⟨hx, h⟩ := h
    split at h
    · rename_i zs ez
      obtain ⟨l, ws, e3, q3, r3⟩ := lstOf_ok S q2 ez
      subst e3
      refine ⟨by simp, fun a ha => ⟨a, v, l, ws, rfl, upd_same, okX_ok q hx, ex_sql (ex_upd ha) q3, by rw [r3.len]; exact h.1, fun dx p hdx hne hp hpa hpd => ⟨rfl, ?_⟩⟩⟩
      rw [upd_ne hne] at hdx
      rw [upd_ne hpa] at hp
      rw [upd_comm (H := H) (a := a) (b := p) (Ne.symm hpa), upd_comm (a := a) (b := dx) (Ne.symm hne), upd_upd]
      obtain ⟨S0, eo0, e0⟩ := S.own hp (.lst ws)
      have hd1 : upd H p (.lst ws) dx = none := by rw [upd_ne (Ne.symm hpd)]; exact hdx
      obtain ⟨S1, eo1, e1⟩ := S0.own hd1 (.xd [(g, .ref p), (f, v)])
      have eo := eo0.trans eo1
      have rl : Rp K (upd (upd O p (.lst ws)) dx (.xd [(g, .ref p), (f, v)])) N.B0 (.lst true zs) (.ref p) := by
        simp only [Rp]
        exact ⟨p, ws, rfl, eo1 _ _ e0, r3.mono eo (Ex.refl _)⟩
      obtain ⟨d, fs', z1, z2, rfl, z3⟩ := fin a dx (upd H p (.lst ws)) [(g, .ref p), (f, v)] (by rw [upd_ne (Ne.symm hpa)]; exact ha) hne
        (hE _ _ _ C (some dx) [g, f] [.lst true zs, x] S1 ⟨dx, [.ref p, v], rfl, upd_same, rfl, RpA.cons rl (RpA.cons (q.mono eo (Ex.refl _)) RpA.nil)⟩ h.2)
      exact ⟨_, fs', z1, z2, hdx, z3⟩
    · exact h.elim
  · exact h.elim
end
/-- raise C(e, ..) -/
def draise (C : Addr) (sh : Shp) (Er : ErrK) (a : DA) : DS := fun _ δ M => a δ M fun xs M1 => mkS sh xs M1 fun ns ys => Er C ns ys M1
section
variable {Y : Cx} {W : Ent → Prop} {e : Expr} {es : List Expr} {p pos pos2 : Pos} {dr : DA} {CX' : CXT} {k : Nat} {C : Addr} {sh : Shp} {x : Str} {E : XK} {Er : ErrK}
theorem psd_raise (hs : sh ≠ .s0) (T : CalX Y.prog Y.w Y.K Y.mg Y.base CX' x k C sh) (hr : Room (k + 1) Y.A) (hx : Passes CX' Y (fun _ _ _ => False)) (hc : Y.calm = true) (tk : Takes Y fun cls d _ H => E cls d H) (hW : ∀ N, W N → WE Y.K E Er N)
    (ha : PAD Y W (e :: es) dr) (hg : Gl Y x := by rfl) (hdb : (x == ("__debug__" : Str)) = false := by decide)
    (he : starEach (e :: es) Y.env = (false, eval e Y.env) :: starEach es Y.env := by rfl) (hpl : (backTo pos (starEach es Y.env)).any (·.1) = false := by rfl) :
    PSD Y W (.Raise (some (.Call (.Name x p) (e :: es) [] pos)) none pos2) (draise C sh Er dr) := by
  obtain ⟨fI, fdt, ps, F1, hm, iC, tI, hb⟩ := T.ex
  obtain ⟨t, h1, s1⟩ := ha.ex
  refine ⟨_, ps_raise hc tk (pmk_oex T.oex iC tI F1 hr hb .nil hx hg hm h1 hdb he hpl), fun N D DD w C0 O M δ σ H S L h => ?_⟩
  exact s1 N O M δ σ H _ _ w S L h fun O1 M1 H1 xs vs n1 r1 h => mkS_raise hs n1.st (hW N w) r1 h
theorem psd_raise0 (T : CalX Y.prog Y.w Y.K Y.mg Y.base CX' x k C .s0) (hr : Room (k + 1) Y.A) (hx : Passes CX' Y (fun _ _ _ => False)) (hc : Y.calm = true) (tk : Takes Y fun cls d _ H => E cls d H) (hW : ∀ N, W N → WE Y.K E Er N)
    (hg : Gl Y x := by rfl) (hdb : (x == ("__debug__" : Str)) = false := by decide) : PSD Y W (.Raise (some (.Call (.Name x p) [] [] pos)) none pos2) (draise C .s0 Er dnil) := by
  obtain ⟨fI, fdt, ps, F1, hm, iC, tI, hb⟩ := T.ex
  exact ⟨_, ps_raise hc tk (pmk_oex0 T.oex iC tI F1 hr hb hx hg hm hdb), fun N D DD w C0 O M δ σ H S L h => hW N w O M H C none [] [] S rfl h⟩
end
end DL

set_option maxRecDepth 100000
set_option maxHeartbeats 2000000
/-! HXa: the head's facts, error classes with super().__init__ among them. -/
namespace HX
open PySem PySem.Spec PyProof.Rows L2 DL He
/-- what the row says of the class named x -/
def oexB (K : PySem.W.Frag) (C : Addr) : Bool := match K.lookup C with
  | some ⟨.type t, _, .cls ⟨_, _, .ref C' :: bm, _, _, hd, _, _, _, _, dl⟩, sl⟩ => (match sl.toList with
    | [_, _, _, _, some (.builtin n), _] => decide (t = "type") && (decide (C' = C) && (hd && (!dl && (decide (n = "ValueError.__new__") && PySem.HandSPX.refsVE bm))))
    | _ => false)
  | _ => false
theorem oexB_ok {K : PySem.W.Frag} {C : Addr} (h : oexB K C = true) : ∃ nm q N bs bm sn sub ab col dd k0 k1 k2 k3 k5, K.lookup C = some (excClassObj nm q C N bs bm true sn sub ab col dd k0 k1 k2 k3 k5 "ValueError.__new__") ∧ PySem.HandSPX.refsVE bm = true := by
  unfold oexB at h
  split at h
  · rename_i t dd nm bs C' bm N q hd sn sub ab col dl sl e
    split at h
    · rename_i k0 k1 k2 k3 n k5 es
      simp only [Bool.and_eq_true, decide_eq_true_eq, Bool.not_eq_true'] at h
      obtain ⟨rfl, rfl, rfl, rfl, rfl, hb⟩ := h
      have esl : sl = #[k0, k1, k2, k3, some (.builtin "ValueError.__new__"), k5] := by
        apply Array.ext'
        rw [es]
      subst esl
      exact ⟨_, _, _, _, _, _, _, _, _, _, _, _, _, _, _, e, hb⟩
    · cases h
  · cases h
def o1 (K : PySem.W.Frag) (v : Value) (n : Str) (r : Option Value) : Bool := eqO (PySem.W.findIn K v n) (some r)
def b1 (a : Option Bool) (b : Bool) : Bool := decide (a = some b)
/-- an error class: the facts that isinstance, the fields and the making ask -/
def clsB (K : PySem.W.Frag) (C : Addr) : Bool :=
  oexB K C && (o1 K (.ref C) "__setattr__" (some (.builtin "object.__setattr__")) && (b1 (PySem.W.subIn K (.ref C) (.type "BaseException")) true && (decide (PySem.W.typeIn K (.ref C) = some (.type "type")) && (PySem.W.keepIn K (.ref C) &&
  (o1 K (.ref C) "__getattribute__" (some (.builtin "BaseException.__getattribute__")) && (o1 K (.ref C) "__getattr__" none && (PySem.W.hasDictIn K C && ((PySem.W.clsIn K C).isSome &&
  (o1 K (.ref C) "__class__" (some (.builtin "object.__class__")) && (eqO (PySem.W.specialIn K (.builtin "object.__class__") "__get__") (some (some (.builtin "getset_descriptor.__get__"))) && (b1 (PySem.W.takesIn K (.builtin "object.__class__")) true && b1 (PySem.W.mroIn K C (.type "object")) true)))))))))))
theorem clsB_ok {K : PySem.W.Frag} {C : Addr} (h : clsB K C = true) : OexC K C ∧ XiC K C := by
  simp only [clsB, o1, b1, eqO, Bool.and_eq_true, decide_eq_true_eq] at h
  obtain ⟨h1, h2, h3, h4, h5, h6, h7, h8, h9, h10, h11, h12, h13⟩ := h
  exact ⟨⟨oexB_ok h1, h2, h3, h4, h5⟩, ⟨⟨h6, h7, h3, h8⟩, h9, h10, h11, h12, h13⟩⟩
/-- its __init__ -/
abbrev ia (K : PySem.W.Frag) (x : Str) : Addr := ma K (ga K x) "__init__"
def iniB (P : Program) (K : PySem.W.Frag) (x q : Str) : Bool :=
  o1 K (.ref (ga K x)) "__init__" (some (.ref (ia K x))) && (decide (PySem.W.typeIn K (.ref (ia K x)) = some (.type "function")) && (b1 (PySem.W.mroIn K (ga K x) (.ref (ga K x))) true && (eqO (PySem.W.nsIn K cStatics "thirdparty.any") (some none) &&
  (eqO (PySem.W.ks_superIn K (ga K x) (ga K x) "__init__") (some (some (.builtin "ValueError.__init__"))) && (b1 (PySem.W.subIn K (.ref (ga K x)) (.type "ValueError")) true &&
  (match K.lookup (ia K x) with
  | some ⟨_, _, .func fd, _⟩ => PySem.W.codeIn K fd.code q && ((match fd.code with
    | .ref cd => (match K.lookup cd with
      | some ⟨_, _, .fields vs, _⟩ => (match (vs[2]? : Option Value) with
        | some (.str f _) => ((P.main.file : Str) == f)
        | _ => false)
      | _ => false)
    | _ => false) && (match fd.closure with
    | [(n, c)] => decide (n = ("__class__" : Str)) && (match K.lookup c with
      | some ⟨_, _, .cell (some (.ref D)), _⟩ => decide (D = ga K x)
      | _ => false)
    | _ => false))
  | _ => false))))))
abbrev FnX : Type := Option (Str × Str × Arguments × FuncBody × Scope × Addr × Value × Addr)
def xObs (K : PySem.W.Frag) (x : Str) : FnX := match K.lookup (ia K x) with
  | some ⟨_, _, .func fd, _⟩ => some (fd.name, fd.qualname, fd.params, fd.body, fd.scope, fd.globals, fd.defaults, fd.builtins)
  | _ => none
/-- one class: its name, its __init__'s qualified name, the def -/
structure XnD where
  x : Str
  qual : Str
  st : Stmt
def XnD.val (d : XnD) : FnX := some (("__init__" : Str), d.qual, defArgs d.st, .stmts (defBody d.st), defScope d.st, mainGlobals, .none, builtinsNs)
/-- what is known of an __init__ -/
structure Ini (P : Program) (K : PySem.W.Frag) (x q : Str) (st : Stmt) : Prop where
  ex : ∃ (oc : Value) (od : Option Addr) (kV doc pm : Value) (an : Option Addr) (cda : Addr) (ct : Value) (cc : Addr) (osl : Array (Option Value)),
    K.lookup (ia K x) = some ⟨oc, od, .func (PySem.W.ksFn "__init__" q (defArgs st) (defBody st) (defScope st) .none kV doc pm an (.ref cda) ct cc), osl⟩ ∧ PySem.W.codeIn K (.ref cda) q = true ∧
    (∃ ccl cdd vs ccs file tf, K.lookup cda = some ⟨ccl, cdd, .fields vs, ccs⟩ ∧ vs[2]? = some (.str file tf) ∧ ((P.main.file : Str) == file) = true) ∧ (∃ cl cld csl, K.lookup cc = some ⟨cl, cld, .cell (some (.ref (ga K x))), csl⟩)
  i1 : PySem.W.findIn K (.ref (ga K x)) "__init__" = some (some (.ref (ia K x)))
  i2 : PySem.W.typeIn K (.ref (ia K x)) = some (.type "function")
  i3 : PySem.W.mroIn K (ga K x) (.ref (ga K x)) = some true
  i4 : PySem.W.nsIn K cStatics "thirdparty.any" = some none
  i5 : PySem.W.ks_superIn K (ga K x) (ga K x) "__init__" = some (some (.builtin "ValueError.__init__"))
  i6 : PySem.W.subIn K (.ref (ga K x)) (.type "ValueError") = some true
theorem ini_ok {P : Program} {K : PySem.W.Frag} {d : XnD} (e : xObs K d.x = d.val) (h : iniB P K d.x d.qual = true) : Ini P K d.x d.qual d.st := by
  simp only [iniB, o1, b1, eqO, Bool.and_eq_true, decide_eq_true_eq] at h
  obtain ⟨h1, h2, h3, h4, h5, h6, h7⟩ := h
  refine ⟨?_, h1, h2, h3, h4, h5, h6⟩
  unfold xObs at e
  split at h7
  · rename_i oc od fd osl lk
    rw [lk] at e
    simp only [Bool.and_eq_true] at h7
    obtain ⟨c1, c2, c3⟩ := h7
    obtain ⟨n1, n2, n3, n4, n5, n6, n7, n8, n9, n10, n11, n12, n13, n14, n15⟩ := fd
    have e2 : (some (n1, n2, n3, n4, n5, n6, n8, n15) : FnX) = some (("__init__" : Str), d.qual, defArgs d.st, FuncBody.stmts (defBody d.st), defScope d.st, mainGlobals, Value.none, builtinsNs) := e
    simp only [Option.some.injEq, Prod.mk.injEq] at e2
    obtain ⟨rfl, rfl, rfl, rfl, rfl, rfl, rfl, rfl⟩ := e2
    dsimp only at c1 c2 c3
    split at c2
    · rename_i cd
      split at c2
      · rename_i ccl cdd vs ccs lc
        split at c2
        · rename_i f tf hv
          split at c3
          · rename_i nm c
            simp only [Bool.and_eq_true, decide_eq_true_eq] at c3
            obtain ⟨rfl, c4⟩ := c3
            split at c4
            · rename_i cl cld D csl lcc
              have hD := of_decide_eq_true c4
              subst hD
              exact ⟨_, _, _, _, _, _, cd, _, c, _, lk, c1, ⟨_, _, _, _, _, _, lc, hv, c2⟩, _, _, _, lcc⟩
            · cases c4
          · cases c3
        · cases c2
      · cases c2
    · cases c2
  · cases h7
theorem Ini.sup {P : Program} {K : PySem.W.Frag} {mg : Str → Option Value} {x q : Str} {st : Stmt} (I : Ini P K x q st) (T : OexC K (ga K x)) (hs : mg "super" = none) (p1 : ∃ ar, ((defArgs st).posonlyargs ++ (defArgs st).args).head? = some ar ∧ ar.arg = ("self" : Str))
    (n1 : (defScope st).names.lookup ("super" : Str) = some .globalImplicit) (n2 : (defScope st).names.lookup ("__class__" : Str) = some .free) (n3 : (defScope st).names.lookup ("self" : Str) = some .local) (top : (P.main.scope.names.lookup ("super" : Str)).isSome = false) :
    ∃ (oc : Value) (od : Option Addr) (kV doc pm : Value) (an : Option Addr) (cda : Addr) (ct : Value) (cc : Addr) (osl : Array (Option Value)),
    K.lookup (ia K x) = some ⟨oc, od, .func (PySem.W.ksFn "__init__" q (defArgs st) (defBody st) (defScope st) .none kV doc pm an (.ref cda) ct cc), osl⟩ ∧ PySem.W.codeIn K (.ref cda) q = true ∧ SupC P K mg (defScope st) (defArgs st) (ia K x) (ga K x) cc cda := by
  obtain ⟨oc, od, kV, doc, pm, an, cda, ct, cc, osl, lk, hcd, c1, c2⟩ := I.ex
  exact ⟨oc, od, kV, doc, pm, an, cda, ct, cc, osl, lk, hcd, ⟨c1, c2, p1, I.i3, hs, n1, n2, n3, top, I.i4, I.i5, I.i6, T⟩⟩
/-! ### the Hook -/
def asX (g : Addr → Option Obj) : Nat → List Addr
  | 0 => [mainGlobals, cStatics]
  | n + 1 => growD g (asX g n)
abbrev AlX : Type := Bool × List FnV × List FnX
def obsX (bf : PySem.W.Frag → Bool) (P : Program) (fn : List FnD) (xn : List XnD) (K : PySem.W.Frag) : AlX :=
  (bf K && ((fn.all fun d => (Fa.code d.at_ d.qual).ok K && eqO (PySem.W.nsIn K mainGlobals d.at_.1) (some (some (.ref (ga K d.at_.1))))) && (xn.all fun d => iniB P K d.x d.qual)), fn.map fun d => fnObs K d.at_, xn.map fun d => xObs K d.x)
def valX (fn : List FnD) (xn : List XnD) : AlX := (true, fn.map FnD.val, xn.map XnD.val)
def SaysX (bf : PySem.W.Frag → Bool) (P : Program) (fn : List FnD) (xn : List XnD) (K : PySem.W.Frag) : Prop := obsX bf P fn xn K = valX fn xn
def obsXG (n : Nat) (bf : PySem.W.Frag → Bool) (P : Program) (fn : List FnD) (xn : List XnD) (g : Addr → Option Obj) : AlX := obsX bf P fn xn (frG g (asX g n))
def hookX (n : Nat) (bf : PySem.W.Frag → Bool) (P : Program) (fn : List FnD) (xn : List XnD) : PySem.W.Hook where
  α := AlX
  obs := fun s => obsXG n bf P fn xn s.heap.get?
  val := fun _ => valX fn xn
  says := fun _ h => ∃ K : PySem.W.Frag, K.In h ∧ SaysX bf P fn xn K
  of := fun _ _ e => ⟨_, frG_in, e⟩
  keeps := fun _ _ _ ⟨K, hK, c⟩ k => ⟨K, PySem.W.Frag.In.keeps hK k, c⟩
theorem obsXG_eq {n : Nat} {bf : PySem.W.Frag → Bool} {P : Program} {fn : List FnD} {xn : List XnD} {g : Addr → Option Obj} {s : Shared} (h : ∀ a, g a = s.heap.get? a) : obsXG n bf P fn xn g = (hookX n bf P fn xn).obs s := by
  have e : g = s.heap.get? := funext h
  rw [e] <;> rfl
section
variable {bf : PySem.W.Frag → Bool} {P : Program} {fn : List FnD} {xn : List XnD} {K : PySem.W.Frag}
theorem SaysX.bools (c : SaysX bf P fn xn K) : bf K = true ∧ (fn.all fun d => (Fa.code d.at_ d.qual).ok K && eqO (PySem.W.nsIn K mainGlobals d.at_.1) (some (some (.ref (ga K d.at_.1))))) = true ∧ (xn.all fun d => iniB P K d.x d.qual) = true := by
  have c1 := congrArg (fun z : AlX => z.1) c
  simp only [obsX, valX, Bool.and_eq_true] at c1
  exact c1
theorem SaysX.def_ (c : SaysX bf P fn xn K) (i : Nat) {x : Str} {st : Stmt} (h : fn[i]? = some ⟨(x, none), x, x, defArgs st, defBody st, defScope st⟩) {hp : Heap} {mg : Str → Option Value} (X : K.In hp) (G : hp.Ns mainGlobals mg) : ∃ f fdt, Fun K x x st f fdt ∧ mg x = some (.ref f) := by
  have c2 := List.all_eq_true.mp c.bools.2.1 _ (List.mem_of_getElem? h)
  obtain ⟨c3, c4⟩ := Bool.and_eq_true_iff.mp c2
  have e : fn.map (fun d => fnObs K d.at_) = fn.map FnD.val := congrArg (fun z : AlX => z.2.1) c
  have e2 : (fn.map fun d => fnObs K d.at_)[i]? = (fn.map FnD.val)[i]? := by rw [e]
  rw [List.getElem?_map, List.getElem?_map, h] at e2
  obtain ⟨oc, od, osl, kV, doc, pm, an, cdv, ct, lk, hcd⟩ := fn_ok (Option.some.inj e2) c3
  have lk' : K.lookup (ga K x) = _ := lk
  refine ⟨ga K x, _, ⟨⟨oc, od, kV, doc, pm, an, cdv, ct, osl, rfl, lk', hcd⟩, ?_⟩, PySem.W.mg_of X G (eqO_ok c4)⟩
  unfold PySem.W.keepIn
  simp only [lk']
theorem SaysX.ini (c : SaysX bf P fn xn K) (i : Nat) {d : XnD} (h : xn[i]? = some d) : Ini P K d.x d.qual d.st := by
  have c2 := List.all_eq_true.mp c.bools.2.2 _ (List.mem_of_getElem? h)
  have e : xn.map (fun d => xObs K d.x) = xn.map XnD.val := congrArg (fun z : AlX => z.2.2) c
  have e2 : (xn.map fun d => xObs K d.x)[i]? = (xn.map XnD.val)[i]? := by rw [e]
  rw [List.getElem?_map, List.getElem?_map, h] at e2
  exact ini_ok (Option.some.inj e2) c2
end
end HX
namespace HX
open PySem PySem.Spec PyProof.Rows L2 DL He
/-- the law's promise at its script -/
theorem sp_law {K : PySem.W.Frag} {g : PF} {H : Hp} {a : Addr} {ns : List Int} (hO : L2.Only H) (hS : SqL K H a (ns.map V.int)) (h : ∀ (Q : DL.X → Prop) E, Q (.bl true) → g [.scr ns] Q E) : spG K (PFd g) [.ref a] H (fun v _ => v = .bl true) fun _ _ _ => False := by
  refine ⟨fun _ => none, m0, [.scr ns], fun y _ => y = .bl true, fun _ _ _ _ => False, ?_, ?_, ⟨rfl, h _ _ rfl⟩, ?_, ?_⟩
  · refine ⟨fun _ _ z => (nomatch z), fun _ _ z => (nomatch z), fun b xs z => ?_, fun _ _ z => (nomatch z), Ex.refl _, Ex.refl _, Ex.refl _, fun _ _ z => (nomatch z), fun _ z => z, fun _ _ z => (nomatch z)⟩
    rcases hO b with e | ⟨o, ys, e⟩
    · rw [e] at z; cases z
    · rw [e] at z; cases z
  · refine RpA.cons ?_ RpA.nil
    simp only [Rp]
    exact ⟨a, rfl, by rw [fz_m0]; exact hS⟩
  · intro O' M' H' y v _ r _ _ e
    subst e
    simpa only [Rp] using r
  · intro _ _ _ _ _ _ _ _ _ _ _ z
    exact z.elim
end HX

set_option maxRecDepth 100000
set_option maxHeartbeats 1000000
/-! GRa: instances: fields read and stored. -/
namespace DL
open PySem PySem.Spec PyProof.Rows L2
/-- an instance's class, its fields -/
def objOf (M : Mu) : X → Option (Addr × List Str × List X)
  | .obj _ C ns xs => some (C, ns, xs)
  | .ptr p => match M p with
    | some (.ins C ns xs) => some (C, ns, xs)
    | _ => none
  | _ => none
section
variable {K : PySem.W.Frag} {N : Ent} {O H : Hp} {M : Mu}
theorem objOf_ok {x : X} {v : V} {C : Addr} {ns : List Str} {xs : List X} (S : Stt K N O M H) (r : Rp K O N.B0 x v) (h : objOf M x = some (C, ns, xs)) :
    ∃ a dx vs, v = .ref a ∧ H a = some (.ins C dx (ns.zip vs)) ∧ ns.length = vs.length ∧ RpA K O N.B0 xs vs := by
  unfold objOf at h
  split at h
  · rename_i b C' ns' xs'
    cases h
    simp only [Rp] at r
    obtain ⟨a, dx, vs, e, q1, q3, r⟩ := r
    refine ⟨a, dx, vs, e, ?_, q3, r⟩
    cases b with
    | true => exact S.oh _ _ q1
    | false => exact fz_sub _ _ (S.b0 _ _ q1)
  · rename_i p
    split at h
    · rename_i C' ns' xs' e
      cases h
      simp only [Rp] at r
      obtain ⟨dx, vs, q1, q2, q3, r2⟩ := S.cl p _ e
      exact ⟨p, dx, vs, r, q1, q3, r2⟩
    · cases h
  · cases h
end
/-- e.f, a field of an instance -/
def dfld (K : PySem.W.Frag) (f : Str) (d : DE) : DE := fun δ M Q => d δ M fun x M1 => match objOf M1 x with
  | some (C, ns, xs) => Cls K C ∧ NoAttr K C f ∧ ∃ y, (ns.zip xs).lookup f = some y ∧ Q y M1
  | none => False
/-- a new field -/
def dsfld (K : PySem.W.Frag) (f : Str) (o e : DE) : DS := fun DD δ M => e δ M fun y M1 => o δ M1 fun x M2 => match x with
  | .ptr p => (match M2 p with
    | some (.ins C ns xs) => Cls K C ∧ NoAttr K C f ∧ f ∉ ns ∧ ns.length < 1000 ∧ DD.nx δ (mset M2 p (.ins C (ns ++ [f]) (xs ++ [y])))
    | _ => False)
  | _ => False
theorem putF_new {f : Str} {v : V} : ∀ {ns : List Str} {vs : List V}, f ∉ ns → ns.length = vs.length → putF f v (ns.zip vs) = (ns ++ [f]).zip (vs ++ [v])
  | [], [], _, _ => rfl
  | n :: ns, w :: vs, h, l => by
    have h1 : n ≠ f := fun e => h (by rw [e]; exact List.mem_cons_self)
    have h2 : f ∉ ns := fun e => h (List.mem_cons_of_mem _ e)
    show (if n = f then _ else (n, w) :: putF f v (ns.zip vs)) = _
    rw [if_neg h1, putF_new h2 (by simpa using l)]
    rfl
  | [], _ :: _, _, l => by cases l
  | _ :: _, [], _, l => by cases l
section
variable {Y : Cx} {W : Ent → Prop} {e o value : Expr} {f : Str} {pos pos' : Pos} {d dv : DE}
theorem pd_fld (he : PD Y W e d) (hb : attributeBase e f Y.env (eval e Y.env) = eval e Y.env := by rfl) : PD Y W (.Attribute e f pos) (dfld Y.K f d) := by
  obtain ⟨t, h1, s1⟩ := he.ex
  refine ⟨_, pe_fld h1 hb, fun N O M δ σ H Q Qd w S L h kk => s1 N O M δ σ H _ _ w S L h fun O1 M1 H1 x v n1 r1 h => ?_⟩
  split at h
  · rename_i C ns xs eo
    obtain ⟨c, na, y, ly, q⟩ := h
    obtain ⟨a, dx, vs, e1, ea, hl, r⟩ := objOf_ok n1.st r1 eo
    obtain ⟨u, lu, ru⟩ := lookup_zip r ly
    exact ⟨a, C, dx, _, u, e1, ea, c, na, lu, kk _ _ _ y u n1 ru q⟩
  · exact h.elim
end
section
variable {K : PySem.W.Frag} {N : Ent} {O H : Hp} {M : Mu} {p : Addr} {c c' : Cell} {o : HO}
/-- a mutable object changes -/
theorem Stt.writeC (S : Stt K N O M H) (h : M p = some c) (ht : ∀ xs, o ≠ .tup xs) (hc : RpC K O N.B0 (upd H p o) p c') : Stt K N O (mset M p c') (upd H p o) := by
  obtain ⟨u0, hp, mu⟩ := (S.cl p c h).there
  have op := S.om p _ h
  have e3 : Ex (fz H M) (fz (upd H p o) (mset M p c')) := fun a u q => by
    obtain ⟨q1, q2⟩ := of_fz q
    have hb : a ≠ p := fun z => by rw [z, h] at q2; cases q2
    rw [fz_of (by rw [mset_ne hb]; exact q2), upd_ne hb]
    exact q1
  refine ⟨fun a u q => ?_, fun a d q => ?_, fun a xs q => ?_, fun a d q => ?_, S.b0.trans e3, S.c0.trans e3, S.o0, S.nw, fun a q => ?_, fun a d q => ?_⟩
  · have hb : a ≠ p := fun z => by rw [z, op] at q; cases q
    rw [upd_ne hb]; exact S.oh a u q
  · by_cases hb : a = p
    · rw [hb]; exact op
    · rw [mset_ne hb] at q; exact S.om a d q
  · by_cases hb : a = p
    · rw [hb, upd_same] at q; exact absurd (Option.some.inj q) (ht xs)
    · rw [upd_ne hb] at q; exact S.tp a xs q
  · by_cases hb : a = p
    · subst hb
      rw [mset_same] at q
      cases q
      exact hc
    · rw [mset_ne hb] at q
      refine (S.cl a d q).mono (Ex.refl O) (Ex.refl _) fun b u hbb z => ?_
      have hb' : b ≠ p := by
        rcases hbb with e | e
        · rw [e]; exact hb
        · intro z
          rw [z, hp] at e
          cases e
          exact mu
      rw [upd_ne hb']; exact z
  · by_cases hb : a = p
    · rw [hb, upd_same] at q; cases q
    · rw [upd_ne hb] at q; exact S.dm a q
  · by_cases hb : a = p
    · rw [hb]; exact S.mf _ _ h
    · rw [mset_ne hb] at q; exact S.mf a d q
/-- what a cell holds may be told otherwise -/
theorem Stt.tell (S : Stt K N O M H) (h : M p = some c) (hc : RpC K O N.B0 H p c') : Stt K N O (mset M p c') H := by
  have e : ∀ a, (mset M p c' a = none) ↔ (M a = none) := fun a => by
    by_cases hb : a = p
    · rw [hb, mset_same, h]; simp
    · rw [mset_ne hb]
  have ef : fz H (mset M p c') = fz H M := by
    funext a
    cases q : M a with
    | none => rw [fz_of q, fz_of ((e a).mpr q)]
    | some d =>
      cases q2 : mset M p c' a with
      | none => rw [(e a).mp q2] at q; cases q
      | some d2 => simp only [fz, q, q2]
  refine ⟨S.oh, fun a d q => ?_, S.tp, fun a d q => ?_, by rw [ef]; exact S.b0, by rw [ef]; exact S.c0, S.o0, S.nw, S.dm, fun a d q => ?_⟩
  · by_cases hb : a = p
    · rw [hb]; exact S.om p c h
    · rw [mset_ne hb] at q; exact S.om a d q
  · by_cases hb : a = p
    · subst hb; rw [mset_same] at q; cases q; exact hc
    · rw [mset_ne hb] at q; exact S.cl a d q
  · by_cases hb : a = p
    · rw [hb]; exact S.mf p c h
    · rw [mset_ne hb] at q; exact S.mf a d q
end
section
variable {Y : Cx} {W : Ent → Prop} {o value : Expr} {f : Str} {pos pos' : Pos} {d dv : DE}
theorem psd_fld (ho : PD Y W o d) (hv : PD Y W value dv) (hs : swapsWith value (some (.Attribute o f pos')) pos.line Y.env = pure false := by rfl) : PSD Y W (.Assign [.Attribute o f pos'] value pos) (dsfld Y.K f d dv) := by
  obtain ⟨t, h1, s1⟩ := ho.ex
  obtain ⟨u, h2, s2⟩ := hv.ex
  refine ⟨_, ps_fld h1 h2 hs, fun N D DD w C0 O M δ σ H S L h => s2 N O M δ σ H _ _ w S L h fun O1 M1 H1 y v n1 r1 h => s1 N O1 M1 δ σ H1 _ _ w n1.st (n1.sl L) h fun O2 M2 H2 x u n2 r2 h => ?_⟩
  split at h
  · rename_i p
    split at h
    · rename_i C ns xs e
      obtain ⟨c, na, hf, hl, q⟩ := h
      simp only [Rp] at r2
      obtain ⟨dx, vs, hp, hd, hlen, r⟩ := n2.st.cl p _ e
      have el : (ns.zip vs).length < 1000 := by rw [List.length_zip]; omega
      refine ⟨p, C, dx, _, r2, hp, c, na, el, ?_⟩
      rw [putF_new hf hlen]
      have hne : dx ≠ p := fun z => by rw [z, hp] at hd; cases hd
      refine C0.nx O2 _ δ σ _ (n2.st.writeC (c := .ins C ns xs) (c' := .ins C (ns ++ [f]) (xs ++ [y])) e (fun _ z => nomatch z) ⟨dx, vs ++ [v], upd_same, by rw [upd_ne hne]; exact hd, by simp [hlen], r.append (RpA.cons (n2.rp r1) RpA.nil)⟩) (n2.sl (n1.sl L)) q
    · exact h.elim
  · exact h.elim
end
end DL

set_option maxRecDepth 100000
set_option maxHeartbeats 1000000
/-! GRb: instances: made, frozen; methods, properties called. -/
namespace DL
open PySem PySem.Spec PyProof.Rows L2
/-! ### many cells frozen at once -/
def keepM (F : Addr → Bool) (M : Mu) : Mu := fun a => if F a then none else M a
def frO (F : Addr → Bool) (M : Mu) (O H : Hp) : Hp := fun a => match M a with
  | some _ => if F a then H a else O a
  | none => O a
section
variable {K : PySem.W.Frag} {N : Ent} {O H : Hp} {M M' : Mu} {F : Addr → Bool}
theorem keepM_some {a : Addr} {c : Cell} (h : keepM F M a = some c) : F a = false ∧ M a = some c := by
  unfold keepM at h
  split at h
  · cases h
  · rename_i e
    exact ⟨by simpa using e, h⟩
theorem Stt.frO_ex (S : Stt K N O M H) : Ex O (frO F M O H) := fun a o e => by
  unfold frO
  split
  · rename_i c q
    rw [S.om a c q] at e; cases e
  · exact e
theorem Stt.freezeF (S : Stt K N O M H) (F : Addr → Bool) : Stt K N (frO F M O H) (keepM F M) H := by
  have e1 : Ex O (frO F M O H) := S.frO_ex
  have e3 : Ex (fz H M) (fz H (keepM F M)) := fun a u q => by
    obtain ⟨q1, q2⟩ := of_fz q
    rw [fz_of]
    · exact q1
    · unfold keepM
      split
      · rfl
      · exact q2
  refine ⟨fun a o q => ?_, fun a c q => ?_, fun a xs q => e1 _ _ (S.tp a xs q), fun a c q => (S.cl a c (keepM_some q).2).mono e1 (Ex.refl _) fun b u _ z => z, S.b0.trans e3, S.c0.trans e3, S.o0.trans e1, fun a o q => ?_, S.dm, fun a c q => S.mf a c (keepM_some q).2⟩
  · unfold frO at q
    split at q
    · split at q
      · exact q
      · exact S.oh _ _ q
    · exact S.oh _ _ q
  · obtain ⟨q1, q2⟩ := keepM_some q
    unfold frO
    rw [q2]
    simp only [q1, Bool.false_eq_true, if_false]
    exact S.om a c q2
  · unfold frO at q
    split at q
    · rename_i c e
      split at q
      · exact .inr (S.mf a c e)
      · exact S.nw a o q
    · exact S.nw a o q
/-- what M' tells of a thing, frozen -/
def frz (M : Mu) : Nat → X → X
  | n + 1, .ptr p => match M p with
    | some (.lst zs) => .lst true (zs.map (frz M n))
    | some (.ins C ns zs) => .obj true C ns (zs.map (frz M n))
    | _ => .ptr p
  | _, x => x
theorem frz_ok (S : Stt K N O M H) (hF : ∀ p c, M' p = some c → F p = true ∧ M p = some c) : ∀ (n : Nat) {x : X} {v : V}, Rp K O N.B0 x v → Rp K (frO F M O H) N.B0 (frz M' n x) v := by
  intro n
  have e1 : Ex O (frO F M O H) := S.frO_ex
  induction n with
  | zero =>
    intro x v r
    have e : frz M' 0 x = x := by cases x <;> rfl
    rw [e]
    exact r.mono e1 (Ex.refl _)
  | succ n ih =>
    intro x v r
    have all : ∀ {zs : List X} {vs : List V}, RpA K O N.B0 zs vs → RpA K (frO F M O H) N.B0 (zs.map (frz M' n)) vs := by
      intro zs
      induction zs with
      | nil => intro vs r; simp only [RpA] at r; subst r; exact RpA.nil
      | cons z zs ihz =>
        intro vs r
        simp only [RpA] at r
        obtain ⟨v, t, e, q, u⟩ := r
        subst e
        exact RpA.cons (ih q) (ihz u)
    cases x with
    | ptr p =>
      have rv : v = .ref p := by simpa only [Rp] using r
      unfold frz
      split
      · rename_i zs e
        obtain ⟨f1, f2⟩ := hF _ _ e
        obtain ⟨vs, hp, rr⟩ := S.cl p _ f2
        simp only [Rp]
        refine ⟨p, vs, rv, ?_, all rr⟩
        show frO F M O H p = _
        unfold frO
        rw [f2]
        simp only [f1, if_true]
        exact hp
      · rename_i C ns zs e
        obtain ⟨f1, f2⟩ := hF _ _ e
        obtain ⟨dx, vs, hp, hd, hl, rr⟩ := S.cl p _ f2
        simp only [Rp]
        refine ⟨p, dx, vs, rv, ?_, hl, all rr⟩
        show frO F M O H p = _
        unfold frO
        rw [f2]
        simp only [f1, if_true]
        exact hp
      · simp only [Rp]; exact rv
    | _ => exact r.mono e1 (Ex.refl _)
/-- a new instance -/
theorem Stt.newI (S : Stt K N O M H) {x dx C : Addr} (hx : H x = none) (hd : H dx = none) (hne : dx ≠ x) : Stt K N O (mset M x (.ins C [] [])) (upd (upd H dx (.own x)) x (.ins C dx [])) := by
  have e2 : Ex H (upd (upd H dx (.own x)) x (.ins C dx [])) := (ex_upd hd).trans (ex_upd (by rw [upd_ne (Ne.symm hne)]; exact hx))
  have mn := S.mnone hx
  have md := S.mnone hd
  have e3 : Ex (fz H M) (fz (upd (upd H dx (.own x)) x (.ins C dx [])) (mset M x (.ins C [] []))) := fun a u q => by
    obtain ⟨q1, q2⟩ := of_fz q
    have hb : a ≠ x := fun z => by rw [z, hx] at q1; cases q1
    rw [fz_of (by rw [mset_ne hb]; exact q2)]
    exact e2 a u q1
  refine ⟨S.oh.trans e2, fun a c q => ?_, fun a xs q => ?_, fun a c q => ?_, S.b0.trans e3, S.c0.trans e3, S.o0, S.nw, fun a q => ?_, fun a c q => ?_⟩
  · by_cases hb : a = x
    · subst hb; exact S.onone hx
    · rw [mset_ne hb] at q; exact S.om a c q
  · by_cases hb : a = x
    · subst hb; rw [upd_same] at q; cases q
    · rw [upd_ne hb] at q
      by_cases hb2 : a = dx
      · subst hb2; rw [upd_same] at q; cases q
      · rw [upd_ne hb2] at q; exact S.tp a xs q
  · by_cases hb : a = x
    · subst hb
      rw [mset_same] at q
      cases q
      exact ⟨dx, [], upd_same, by rw [upd_ne hne, upd_same], rfl, RpA.nil⟩
    · rw [mset_ne hb] at q
      exact (S.cl a c q).mono (Ex.refl O) (Ex.refl _) fun b u _ z => e2 b u z
  · by_cases hb : a = x
    · subst hb; rw [upd_same] at q; cases q
    · rw [upd_ne hb] at q
      by_cases hb2 : a = dx
      · subst hb2; rw [upd_same] at q; cases q
      · rw [upd_ne hb2] at q; exact S.dm a q
  · by_cases hb : a = x
    · subst hb; exact .inl (S.dm _ hx)
    · rw [mset_ne hb] at q; exact S.mf a c q
end
/-! ### constructors -/
def cellI (p C : Addr) : Mu := mset m0 p (.ins C [] [])
/-- __init__: the object that it leaves behind, nothing of which changes later -/
def IFd (C : Addr) (f : PF) : FD := fun xs M Q E => ∃ p r, xs = .ptr p :: r ∧ M = cellI p C ∧ f r (fun y => ∀ M', ownM M' → frz M' 4 (.ptr p) = y → (∃ c, M' p = some c) → Q .non M') fun C' ns ys => E C' ns ys m0
structure CalI (P : Program) (w : World) (K : PySem.W.Frag) (mg : Str → Option Value) (base : Heap) (CX' : CXT) (x : Str) (k : Nat) (C : Addr) (ps : List Str) (f : PF) : Prop where
  ex : ∃ (fI : Addr) (fdt : FuncData), Mk K C fI ∧ FnOk P w K mg base CX' k fI fdt ("self" :: ps) (spG K (IFd C f)) ∧ mg x = some (.ref C) ∧ Binds K fdt ("self" :: ps) []
  mono : ∀ xs P P' E, (∀ y, P y → P' y) → f xs P E → f xs P' E
section
variable {Y : Cx} {W : Ent → Prop} {K : PySem.W.Frag} {k : Nat} {ps : List Str} {CX' : CXT} {Er : ErrK} {E : XK} {x : Str} {p pos : Pos} {e : Expr} {es : List Expr} {dr : DA} {C : Addr}
theorem mun_I {M1 M' : Mu} {x C : Addr} {H : Hp} (hm : M1 x = none) (fr : ∀ p c, M' p = some c → M1 p = none) : keepM (fun a => (M' a).isSome) (mun (mset M1 x (.ins C [] [])) (cellI x C) M') = M1 := by
  funext a
  unfold keepM mun
  cases e : M' a with
  | some c => simp only [e, Option.isSome_some, if_true]; exact (fr a c e).symm
  | none =>
    simp only [e, Option.isSome_none, Bool.false_eq_true, if_false]
    by_cases ha : a = x
    · subst ha
      unfold cellI
      rw [mset_same]
      exact hm.symm
    · unfold cellI
      rw [mset_ne ha, mset_ne ha]
      rfl
theorem pd_make (n : Nat) {g : PF} (T : CalI Y.prog Y.w Y.K Y.mg Y.base CX' x k C ps g) (hr : Room (k + 1) Y.A) (hx : Passes CX' Y E) (hW : ∀ N, W N → WE Y.K E Er N)
    (ha : PAD Y W (e :: es) dr) (hg : Gl Y x := by rfl) (hdb : (x == ("__debug__" : Str)) = false := by decide) (he : starEach (e :: es) Y.env = (false, eval e Y.env) :: starEach es Y.env := by rfl) (hpl : (backTo pos (starEach es Y.env)).any (·.1) = false := by rfl) :
    PD Y W (.Call (.Name x p) (e :: es) [] pos) (dcallP n g Er dr) := by
  obtain ⟨fI, fdt, mk, F, hm, hb⟩ := T.ex
  obtain ⟨t, h1, s1⟩ := ha.ex
  refine ⟨_, pe_make mk F hr hg hm hb .nil hx h1 hdb he hpl, fun N O M δ σ H Q Qd w S L h kk => ?_⟩
  refine s1 N O M δ σ H _ _ w S L h fun O1 M1 H1 xs vs n1 r1 h => fun a dx hxa hdx hne => ?_
  have S1 := n1.st
  have m1 := S1.mnone hxa
  have S2 := S1.newI (C := C) hxa hdx hne
  have sub : Sub (cellI a C) (mset M1 a (.ins C [] [])) := fun b c q => by
    unfold cellI at q
    by_cases hb : b = a
    · subst hb; rw [mset_same] at q ⊢; exact q
    · rw [mset_ne hb] at q; cases q
  have sub0 : Sub m0 M1 := fun _ _ z => nomatch z
  have exB : Ex (fz H1 m0) (fz (upd (upd H1 dx (.own a)) a (.ins C dx [])) (cellI a C)) := fun b u q => by
    rw [fz_m0] at q
    have hb : b ≠ a := fun z => by rw [z, hxa] at q; cases q
    have hb2 : b ≠ dx := fun z => by rw [z, hdx] at q; cases q
    rw [fz_of (by unfold cellI; rw [mset_ne hb]; rfl), upd_ne hb, upd_ne hb2]
    exact q
  refine ⟨O1, cellI a C, .ptr a :: xs.map (vw m0 M1 n), fun y M' => ∃ z, (y = .non ∧ frz M' 4 (.ptr a) = z ∧ (∃ c, M' a = some c)) ∧ Qd z M1, fun C' ns ys M' => M' = m0 ∧ Er C' ns ys M1, S2.enter sub, ?_, ?_, ?_, ?_⟩
  · rw [List.append_nil]
    exact RpA.cons (by simp only [Rp]) ((vwA_ok S1 sub0 n r1).mono (Ex.refl _) exB)
  · refine ⟨a, _, rfl, rfl, ?_⟩
    have e0 : (fun (C' : Addr) (ns : List Str) (ys : List DL.X) => (m0 = m0) ∧ Er C' ns ys M1) = fun C' ns ys => Er C' ns ys M1 := by
      funext C ns ys
      exact propext ⟨fun h => h.2, fun h => ⟨rfl, h⟩⟩
    rw [e0]
    refine T.mono _ _ _ _ (fun y q => fun M' _ z z2 => ⟨y, ⟨rfl, z, z2⟩, q⟩) h
  · intro O' M' H' y v S' r' oy om q
    obtain ⟨z, ⟨rfl, hz, hs⟩, q⟩ := q
    have rv : v = .non := by simpa only [Rp] using r'
    refine ⟨rv, ?_⟩
    have n2 := S2.back sub S' om
    have fr : ∀ p c, M' p = some c → M1 p = none := fun p c e => by
      rcases S'.mf p c e with q | q
      · by_cases hp : p = a
        · rw [hp]; exact m1
        · have := S2.mnone (p := p) q
          rw [mset_ne hp] at this
          exact this
      · have q' : cellI a C p ≠ none := q
        by_cases hp : p = a
        · rw [hp]; exact m1
        · unfold cellI at q'
          rw [mset_ne hp] at q'
          exact absurd rfl q'
    have S3 := n2.st.freezeF fun b => (M' b).isSome
    rw [mun_I (H := H1) m1 fr] at S3
    have r3 : Rp Y.K (frO (fun b => (M' b).isSome) (mun (mset M1 a (.ins C [] [])) (cellI a C) M') O' H') N.B0 (frz M' 4 (.ptr a)) (.ref a) := by
      refine frz_ok n2.st (fun p c e => ⟨by rw [e]; rfl, by unfold mun; rw [e]⟩) 4 ?_
      simp only [Rp]
    rw [hz] at r3
    exact kk _ M1 H' z _ (n1.trans ⟨S3, n2.eo.trans n2.st.frO_ex⟩) r3 q
  · intro O' M' H' C' d ns ys S' r' oy om q
    obtain ⟨rfl, q⟩ := q
    have n2 := S2.back sub S' om
    have e : keepM (fun a => ((m0 : Mu) a).isSome) (mun (mset M1 a (.ins C [] [])) (cellI a C) m0) = M1 := mun_I (H := H1) m1 fun p c e => nomatch e
    have S3 := n2.st.freezeF fun b => ((m0 : Mu) b).isSome
    rw [e] at S3
    refine hW N w _ M1 H' C' d ns ys S3 ?_ q
    unfold ErrRep at r' ⊢
    split at r'
    · exact r'
    · obtain ⟨a, vs', e1, e2, e3, r'⟩ := r'
      exact ⟨a, vs', e1, e2, e3, (r'.own ys oy).mono n2.st.frO_ex (Ex.refl _)⟩
end
/-! ### methods, properties -/
/-- a method by its class and its name -/
structure CalM (P : Program) (w : World) (K : PySem.W.Frag) (mg : Str → Option Value) (base : Heap) (CX' : CXT) (C : Addr) (m : Str) (k : Nat) (ps : List Str) (fd : FD) : Prop where
  ex : ∃ (f : Addr) (fdt : FuncData), Cls K C ∧ Meth K C m f ∧ FnOk P w K mg base CX' k f fdt ps (spG K fd) ∧ Binds K fdt ps []
/-- o.m(..), o frozen or not -/
def dmethP (n : Nat) (C : Addr) (m : Str) (f : PF) (Er : ErrK) (o : DE) (a : DA) : DE := fun δ M Q => o δ M fun x M0 => match objOf M0 x with
  | some (C', ns, _) => C' = C ∧ m ∉ ns ∧ a δ M0 fun xs M1 => f ((x :: xs).map (vw m0 M1 n)) (fun y => Q y M1) fun C ns ys => Er C ns ys M1
  | none => False
/-- .. with a new list -/
def dmethN (n : Nat) (C : Addr) (m : Str) (b : Bool) (f : NF) (Er : ErrK) (o : DE) (a : DA) : DE := fun δ M Q => o δ M fun x M0 => match objOf M0 x with
  | some (C', ns, _) => C' = C ∧ m ∉ ns ∧ a δ M0 fun xs M1 => f ((x :: xs).map (vw m0 M1 n)) (fun zs => newl b zs M1 Q) fun C ns ys => Er C ns ys M1
  | none => False
theorem lookup_no {f : Str} {v : V} : ∀ {ns : List Str} {vs : List V}, f ∉ ns → (ns.zip vs).lookup f = none
  | [], _, _ => rfl
  | _ :: _, [], _ => rfl
  | n :: ns, w :: vs, h => by
    have h1 : (f == n) = false := beq_false_of_ne fun e => h (by rw [e]; exact List.mem_cons_self)
    have h2 : f ∉ ns := fun e => h (List.mem_cons_of_mem _ e)
    rw [List.zip_cons_cons, List.lookup_cons, h1]
    exact lookup_no (v := v) h2
section
variable {Y : Cx} {W : Ent → Prop} {K : PySem.W.Frag} {k : Nat} {ps : List Str} {CX' : CXT} {Er : ErrK} {E : XK} {x m : Str} {p pos apos : Pos} {o e : Expr} {es : List Expr} {do' : DE} {dr : DA} {C : Addr}
/-- a promise met at a call: what sp asks -/
theorem sp_callP {N : Ent} {O1 H1 : Hp} {M1 : Mu} {xs : List DL.X} {vs : List V} {n : Nat} {g : PF} {Q : VK} {Qd : VKd} (hWN : WE K E Er N) (S1 : Stt K N O1 M1 H1) (r1 : RpA K O1 N.B0 xs vs)
    (h : g (xs.map (vw m0 M1 n)) (fun y => Qd y M1) fun C ns ys => Er C ns ys M1) (k : ∀ O' M' H' y v, Nxt K N O1 M1 H1 O' M' H' → Rp K O' N.B0 y v → Qd y M' → Q v H') : spG K (PFd g) vs H1 Q E := by
  have sub : Sub m0 M1 := fun _ _ z => nomatch z
  refine ⟨O1, m0, xs.map (vw m0 M1 n), fun y M' => M' = m0 ∧ Qd y M1, fun C ns ys M' => M' = m0 ∧ Er C ns ys M1, S1.enter sub, vwA_ok S1 sub n r1, ⟨rfl, ?_⟩, ?_, ?_⟩
  · have e0 : (fun (C' : Addr) (ns : List Str) (ys : List DL.X) => (m0 = m0) ∧ Er C' ns ys M1) = fun C' ns ys => Er C' ns ys M1 := by
      funext C ns ys
      exact propext ⟨fun h => h.2, fun h => ⟨rfl, h⟩⟩
    have e1 : (fun (y : DL.X) => (m0 = m0) ∧ Qd y M1) = fun y => Qd y M1 := by
      funext y
      exact propext ⟨fun h => h.2, fun h => ⟨rfl, h⟩⟩
    rw [e0]
    show g _ (fun (y : DL.X) => (m0 = m0) ∧ Qd y M1) _
    rw [e1]
    exact h
  · intro O' M' H' y v S' r' oy om q
    obtain ⟨rfl, q⟩ := q
    have n2 := S1.back sub S' om
    rw [mun_m0] at n2
    exact k _ _ _ y v n2 (r'.own y oy) q
  · intro O' M' H' C d ns ys S' r' oy om q
    obtain ⟨rfl, q⟩ := q
    have n2 := S1.back sub S' om
    rw [mun_m0] at n2
    refine hWN O' _ H' C d ns ys n2.st ?_ q
    unfold ErrRep at r' ⊢
    split at r'
    · exact r'
    · obtain ⟨a, vs', e1, e2, e3, r'⟩ := r'
      exact ⟨a, vs', e1, e2, e3, r'.own ys oy⟩
theorem sp_callN {N : Ent} {O1 H1 : Hp} {M1 : Mu} {xs : List DL.X} {vs : List V} {n : Nat} {g : NF} {b : Bool} {Q : VK} {Qd : VKd} (hmono : MonoN g) (hWN : WE K E Er N) (S1 : Stt K N O1 M1 H1) (r1 : RpA K O1 N.B0 xs vs)
    (h : g (xs.map (vw m0 M1 n)) (fun zs => newl b zs M1 Qd) fun C ns ys => Er C ns ys M1) (k : ∀ O' M' H' y v, Nxt K N O1 M1 H1 O' M' H' → Rp K O' N.B0 y v → Qd y M' → Q v H') : spG K (NFd g) vs H1 Q E := by
  have sub : Sub m0 M1 := fun _ _ z => nomatch z
  refine ⟨O1, m0, xs.map (vw m0 M1 n), fun y M' => ∃ p zs, y = .ptr p ∧ M' = mset m0 p (.lst zs) ∧ newl b zs M1 Qd, fun C ns ys M' => M' = m0 ∧ Er C ns ys M1, S1.enter sub, vwA_ok S1 sub n r1, ⟨rfl, hmono _ _ _ _ (fun zs hq p _ => ⟨p, zs, rfl, rfl, hq⟩) ?_⟩, ?_, ?_⟩
  · have e0 : (fun (C : Addr) (ns : List Str) (ys : List DL.X) => (m0 = m0) ∧ Er C ns ys M1) = fun C ns ys => Er C ns ys M1 := by
      funext C ns ys
      exact propext ⟨fun h => h.2, fun h => ⟨rfl, h⟩⟩
    rw [e0]
    exact h
  · intro O' M' H' y v S' r' oy om q
    obtain ⟨p, zs, rfl, rfl, q⟩ := q
    have n2 := S1.back sub S' om
    rw [mun_new] at n2
    have pm : M1 p = none := by
      rcases S'.mf p _ mset_same with z | z
      · exact S1.mnone z
      · exact absurd rfl z
    have rv : v = .ref p := by simpa only [Rp] using r'
    cases b with
    | true =>
      exact k O' _ H' (.ptr p) _ n2 (by simp only [Rp]; exact rv) (q p pm)
    | false =>
      obtain ⟨O2, T, eo, r2⟩ := n2.st.freeze (p := p) mset_same
      rw [mdel_mset, mdel_of pm] at T
      rw [rv]
      exact k O2 M1 H' _ _ ⟨T, n2.eo.trans eo⟩ r2 q
  · intro O' M' H' C d ns ys S' r' oy om q
    obtain ⟨rfl, q⟩ := q
    have n2 := S1.back sub S' om
    rw [mun_m0] at n2
    refine hWN O' _ H' C d ns ys n2.st ?_ q
    unfold ErrRep at r' ⊢
    split at r'
    · exact r'
    · obtain ⟨a, vs', e1, e2, e3, r'⟩ := r'
      exact ⟨a, vs', e1, e2, e3, r'.own ys oy⟩
theorem objOf_inv {M : Mu} {x : DL.X} {C : Addr} {ns : List Str} {xs : List DL.X} (h : objOf M x = some (C, ns, xs)) : True := trivial
theorem pd_methP {pl : Sem Bool} (n : Nat) {g : PF} (T : CalM Y.prog Y.w Y.K Y.mg Y.base CX' C m k ps (PFd g)) (hr : Room k Y.A) (hx : Passes CX' Y E) (hW : ∀ N, W N → WE Y.K E Er N)
    (ho : PD Y W o do') (ha : PAD Y W (e :: es) dr) (hst : starEach (e :: es) Y.env = (false, eval e Y.env) :: starEach es Y.env := by rfl) (hpl : (backTo pos (starEach es Y.env)).any (·.1) = false := by rfl)
    (ht : eval (.Call (.Attribute o m apos) (e :: es) [] pos) Y.env = (do
      let ov ← eval o Y.env
      standAt apos.atName
      let (f, first) ← holding [ov] (getMethod ov m pl)
      callWith pos f first (backTo pos (starEach (e :: es) Y.env)) (backToKw pos (keywordEach [] Y.env))) := by rfl) :
    PD Y W (.Call (.Attribute o m apos) (e :: es) [] pos) (dmethP n C m g Er do' dr) := by
  obtain ⟨f, fdt, c, me, F, hb⟩ := T.ex
  obtain ⟨to, h0, s0⟩ := ho.ex
  obtain ⟨t, h1, s1⟩ := ha.ex
  refine ⟨_, pe_meth h0 c me F hr hb .nil hx h1 hst hpl ht, fun N O M δ σ H Q Qd w S L h kk => ?_⟩
  refine s0 N O M δ σ H _ _ w S L h fun O0 M0 H0 x v n0 r0 h => ?_
  split at h
  · rename_i C' ns ys eo
    obtain ⟨rfl, hm, h⟩ := h
    obtain ⟨a, dx, vs, e1, e2, e3, r⟩ := objOf_ok n0.st r0 eo
    refine ⟨a, dx, _, e1, e2, lookup_no (v := .non) hm, ?_⟩
    refine s1 N O0 M0 δ σ H0 _ _ w n0.st (n0.sl L) h fun O1 M1 H1 xs us n1 r1 h => ?_
    rw [List.append_nil]
    refine sp_callP (xs := x :: xs) (hW N w) n1.st (RpA.cons (n1.rp r0) r1) h fun O' M' H' y v n2 r q => kk O' M' H' y v ((n0.trans n1).trans n2) r q
  · exact h.elim
theorem pd_methN {pl : Sem Bool} (n : Nat) (b : Bool) {g : NF} (hmono : MonoN g) (T : CalM Y.prog Y.w Y.K Y.mg Y.base CX' C m k ps (NFd g)) (hr : Room k Y.A) (hx : Passes CX' Y E) (hW : ∀ N, W N → WE Y.K E Er N)
    (ho : PD Y W o do') (ha : PAD Y W (e :: es) dr) (hst : starEach (e :: es) Y.env = (false, eval e Y.env) :: starEach es Y.env := by rfl) (hpl : (backTo pos (starEach es Y.env)).any (·.1) = false := by rfl)
    (ht : eval (.Call (.Attribute o m apos) (e :: es) [] pos) Y.env = (do
      let ov ← eval o Y.env
      standAt apos.atName
      let (f, first) ← holding [ov] (getMethod ov m pl)
      callWith pos f first (backTo pos (starEach (e :: es) Y.env)) (backToKw pos (keywordEach [] Y.env))) := by rfl) :
    PD Y W (.Call (.Attribute o m apos) (e :: es) [] pos) (dmethN n C m b g Er do' dr) := by
  obtain ⟨f, fdt, c, me, F, hb⟩ := T.ex
  obtain ⟨to, h0, s0⟩ := ho.ex
  obtain ⟨t, h1, s1⟩ := ha.ex
  refine ⟨_, pe_meth h0 c me F hr hb .nil hx h1 hst hpl ht, fun N O M δ σ H Q Qd w S L h kk => ?_⟩
  refine s0 N O M δ σ H _ _ w S L h fun O0 M0 H0 x v n0 r0 h => ?_
  split at h
  · rename_i C' ns ys eo
    obtain ⟨rfl, hm, h⟩ := h
    obtain ⟨a, dx, vs, e1, e2, e3, r⟩ := objOf_ok n0.st r0 eo
    refine ⟨a, dx, _, e1, e2, lookup_no (v := .non) hm, ?_⟩
    refine s1 N O0 M0 δ σ H0 _ _ w n0.st (n0.sl L) h fun O1 M1 H1 xs us n1 r1 h => ?_
    rw [List.append_nil]
    refine sp_callN (xs := x :: xs) hmono (hW N w) n1.st (RpA.cons (by subst e1; exact n1.rp r0) r1) h fun O' M' H' y v n2 r q => kk O' M' H' y v ((n0.trans n1).trans n2) r q
  · exact h.elim
end
end DL

set_option maxRecDepth 100000
set_option maxHeartbeats 2000000
/-! GRc: len(o), for x in o, enumerate(o) by own __len__, __iter__; properties. -/
namespace L2
open PySem PySem.Spec PyProof.Rows
/-- len(o) by an own __len__ -/
def rLenO (C : Addr) (sp : Sp) (E : XK) : List V → Hp → VK → Prop := fun xs H Q => ∃ a dx fs, xs = [.ref a] ∧ H a = some (.ins C dx fs) ∧ sp [.ref a] H (fun v H' => ∃ n : Int, v = .int n ∧ 0 ≤ n ∧ n < 2 ^ 63 ∧ Q (.int n) H') E
section
variable {X : Cx} {CX : CXT} {k : Nat} {C f : Addr} {fd : FuncData} {ps : List Str} {sp : Sp} {E : XK}
theorem call_lenO (hl : PySem.W.findIn X.K (.ref C) "__len__" = some (some (.ref f))) (hf : PySem.W.isFn X.K (.ref f) = true) (F : FnOk X.prog X.w X.K X.mg X.base CX k f fd ps sp) (hr : Room (k + 1) X.A) (hb : Binds X.K fd ps []) (hx : Passes CX X E) :
    CallR X (.builtin "len") (rLenO C sp E) := by
  intro pins s σ H xs us Q I r h
  obtain ⟨a, dx, fs, rfl, ea, q⟩ := h
  obtain ⟨u, rfl, ru⟩ := vals1 r
  obtain rfl : u = Value.ref a := ru
  obtain ⟨mA, J, _⟩ := ins_get I.hok ea
  obtain ⟨od, J, _⟩ := J.look
  refine Calls.call_function_entry kind_len plain_len entry_len (args_len1 _) ?_
  unfold Builtin.«len»
  refine wpAny_bind (m := oneArg "len" _) (wpAny_pure ?_)
  have hlen : ([Value.ref a] : List Value).length = ps.length := by rw [← F.len _ _ _ _ q]; rfl
  refine wpAny_bind (m := callSpecial? (.ref a) (Str.ofString "__len__")) (PySem.W.special_fn (name := "__len__") (args := []) I.kIn J hl (beq_iff_eq.mp hf) ?_)
  refine wpAny_call (codeAny_mono (F.run X.A.in1 X.stack s H ⟨[.ref a], []⟩ [.ref a] [.ref a] _ E hr.in1 I.env0.in1 (by
    have := hb s [.ref a] I.kIn (by simpa using hlen)
    simpa using this) (.cons rfl .nil) q) fun r s' hq => ?_)
  cases r with
  | error e => exact hx pins σ H s e s' I hq
  | ok fl =>
    cases fl with
    | next => exact False.elim hq
    | brk => exact False.elim hq
    | cont => exact False.elim hq
    | ret u =>
      obtain ⟨v, H', I', rv, n, rfl, h0, h1, q⟩ := I.after hq
      obtain ⟨t, rfl⟩ := rv
      refine wpAny_bind (wpAny_holding (wpAny_pure ?_))
      refine wpAny_bind (wpAny_letGo ?_)
      show wpAny _ _ (if n < 0 then _ else _) _ _ _
      rw [if_neg (by omega)]
      show wpAny _ _ (if n ≥ 2 ^ 63 then _ else _) _ _ _
      rw [if_neg (by omega)]
      exact wpAny_bind (wpAny_mkInt (wpAny_pure ⟨_, rfl, ⟨.int n, H', I'.tok _, ⟨_, rfl⟩, q⟩⟩))
end
/-! ### __iter__ -/
/-- an own __iter__ that gives an iterator over the list in the field fl -/
structure IterFn (P : Program) (w : World) (K : PySem.W.Frag) (mg : Str → Option Value) (base : Heap) (k : Nat) (fi : Addr) (C : Addr) (fl : Str) : Prop where
  run : ∀ (A : Around) (outer : List Env) (s : Shared) (H : Hp) (a dx : Addr) (fs : List (Str × V)) (l : Addr) (zs : List V) (Q : VK), Room k A → Env0 P w K mg base A outer s H → H a = some (.ins C dx fs) → fs.lookup fl = some (.ref l) → SqL K H l zs →
    (∀ it, H it = none → s.heap.objs.size ≤ it → Q (.ref it) (upd H it (ItO l it 0))) → codeAny (model P w) A (.call (.ref fi) ⟨[.ref a], []⟩) (CR CX0 outer P w H s Q (fun _ _ _ => False)) s
section
variable {CX : CXT} {P : Program} {w : World} {K : PySem.W.Frag} {mg : Str → Option Value} {base : Heap} {k : Nat} {f : Addr} {ps : List Str}
/-- one call of a def, by its body -/
theorem code_of {name qual : Str} {params : Arguments} {body : List Stmt} {scope : Scope} {dV kV doc pm cdv ct oc : Value} {an od : Option Addr} {osl : Array (Option Value)} {N : List Str}
    (lk : K.lookup f = some ⟨oc, od, .func (PySem.W.fnOf name qual params body scope dV kV doc pm an cdv ct), osl⟩) (hcd : PySem.W.codeIn K cdv qual = true) (S : FnScope N ps scope)
    {A : Around} {outer : List Env} {s : Shared} {H : Hp} {args : Args} {us : List Value} {vs : List V} {Q : VK} {E : XK} (hr : Room (k + 1) A) (e0 : Env0 P w K mg base A outer s H)
    (hb : BindsTo s (PySem.W.fnOf name qual params body scope dV kV doc pm an cdv ct) args (ps.zip us)) (r : Vals vs us) (hl : vs.length = ps.length)
    (hbody : ∃ t, PSs (cxOf CX P w K mg base N qual scope f cdv A outer s H E) body t ∧ t { nx := fun _ H' => Q .non H', rt := Q } (start N vs) H) :
    codeAny (model P w) A (.call (.ref f) args) (CR CX outer P w H s Q E) s := by
  have keepB : ∀ b o, base.get? b = some o → s.heap.get? b = some o := fun b o e => (e0.bs b o e).1
  have KX : K.In s.heap := e0.mod.kin.keeps keepB
  have hkind : ∀ y ∈ ps.zip us, scope.names.lookup y.1 = some .local ∨ (scope.names.lookup y.1 = some .cell ∧ ((cellsFrom (s.heap.objs.size + 1) scope.names []).lookup y.1).isSome = true) := fun ⟨n, v⟩ hy =>
    (S.par n (List.of_mem_zip hy).1).imp id fun q => ⟨q, PySem.W.cellsFrom_some _ _ _ (.inl q)⟩
  refine codeAny_call_function hr.depth (KX _ _ lk) rfl S.co S.gen rfl (PySem.W.codeRec_of KX hcd) (hb _ _ _ _ (wpAny_newFunctionEnv_cells S.kind hkind fun env he s1 x => ?_))
  subst he
  refine ⟨(e0.mod.nolimit.keeps keepB).keeps x.toInCall.keep, codeAny_func ?_⟩
  obtain ⟨t, ht, hq⟩ := hbody
  have I : Inv (cxOf CX P w K mg base N qual scope f cdv A outer s H E) [] (start N vs) H s1 := inv_start S hr.hd e0 hl r x
  refine wpAny_mono (ht.run [] s1 (start N vs) H _ I hq) (fun fl s' hs => ?_) fun e s' hs => hs
  match fl, hs with
  | .ret u, ⟨v, σ', H', J, rv, q⟩ => exact (⟨v, H', J.os, J.bare, J.base, J.hok, rv, q⟩ : CE outer P w H s Q u s')
  | .next, ⟨σ', H', J, q⟩ => exact (⟨.non, H', J.os, J.bare, J.base, J.hok, rfl, q⟩ : CE outer P w H s Q .none s')
  | .brk, ⟨_, _, _, q⟩ => exact q.elim
  | .cont, ⟨_, _, _, q⟩ => exact q.elim
/-- def __iter__(self): return iter(self.fl) -/
theorem fn_iter {name qual fl : Str} {params : Arguments} {body : List Stmt} {scope : Scope} {kV doc pm cdv ct oc : Value} {an od : Option Addr} {osl : Array (Option Value)} {N : List Str} {C : Addr} {p1 p2 p3 p4 p5 : Pos}
    (lk : K.lookup f = some ⟨oc, od, .func (PySem.W.fnOf name qual params body scope .none kV doc pm an cdv ct), osl⟩) (hcd : PySem.W.codeIn K cdv qual = true) (S : FnScope N ["self"] scope) (hN : N[0]? = some ("self" : Str))
    (hb : body = [.Return (some (.Call (.Name "iter" p1) [.Attribute (.Name "self" p2) fl p3] [] p4)) p5]) (hbind : ∀ u : Value, bindArgs (PySem.W.fnOf name qual params body scope .none kV doc pm an cdv ct) ⟨[u], []⟩ = pure [(("self" : Str), u)])
    (hi : mg "iter" = none) (gi : scope.names.lookup ("iter" : Str) = some .globalImplicit) (c : Cls K C) (na : NoAttr K C fl) : IterFn P w K mg base (k + 1) f C fl := by
  refine ⟨fun A outer s H a dx fs l zs Q hr e0 ea lf hq hQ => ?_⟩
  refine code_of lk hcd S (vs := [.ref a]) (us := [.ref a]) hr e0 (.of_eq (hbind _)) (.cons rfl .nil) rfl ?_
  subst hb
  refine ⟨_, pss_one (ps_ret (pe_callB ItX.call_iterN gi hi (by first | rfl | decide +kernel) (pa_cons (pe_fld (pe_var (i := 0) hN ((S.par "self" (List.Mem.head _)).elim (fun z => .inl z) (fun z => .inr (.inl z)))) rfl) pa_nil))), ?_⟩
  exact ⟨.ref a, rfl, a, C, dx, fs, .ref l, rfl, ea, c, na, lf, l, zs, rfl, hq, fun it h1 h2 => hQ it h1 h2⟩
end
section
variable {X : Cx} {pins : List (Addr × Obj)} {σ : St} {H : Hp} {s : Shared} {k : Nat} {C fi a dx : Addr} {fs : List (Str × V)} {fl : Str} {l : Addr} {zs : List V}
theorem iter_own (hs : PySem.W.findIn X.K (.ref C) "__iter__" = some (some (.ref fi))) (hf : PySem.W.isFn X.K (.ref fi) = true) (T : IterFn X.prog X.w X.K X.mg X.base k fi C fl) {A1 : Around} (hr : Room k A1) (e0 : Env0 X.prog X.w X.K X.mg X.base A1 X.stack s H)
    (I : Inv X pins σ H s) (ea : H a = some (.ins C dx fs)) (lf : fs.lookup fl = some (.ref l)) (hq : SqL X.K H l zs) {E : Value → Shared → Prop} :
    wpAny (model X.prog X.w) A1 (pyIter (.ref a)) (fun v s2 => ∃ it, v = .ref it ∧ Inv X pins σ H s2 ∧ s2.heap.IsListIter it l 0 ∧ FpOk X pins H it) E s := by
  obtain ⟨mA, J, _⟩ := ins_get I.hok ea
  obtain ⟨od, J, _⟩ := J.look
  obtain ⟨m0, hF⟩ := I.fr
  refine PySem.W.owit_iter hF I.ok.mod.kin J hs hf ?_
  refine wpAny_call (codeAny_mono (T.run A1 X.stack s H a dx fs l zs (fun v H2 => ∃ it, v = .ref it ∧ H it = none ∧ s.heap.objs.size ≤ it ∧ H2 = upd H it (ItO l it 0)) hr e0 ea lf hq fun it h1 h2 => ⟨it, rfl, h1, h2, rfl⟩) fun r s' hq' => ?_)
  cases r with
  | error e => exact False.elim hq'
  | ok fl' =>
    cases fl' with
    | next => exact False.elim hq'
    | brk => exact False.elim hq'
    | cont => exact False.elim hq'
    | ret u =>
      obtain ⟨v, H', I', rv, it, rfl, hn, hz, rfl⟩ := I.after hq'
      obtain rfl : u = Value.ref it := rv
      have hg := itO_get I' (upd_same (H := H) (a := it) (o := ItO l it 0))
      have hT : s'.TypeIs (.ref it) "list_iterator" := ⟨_, hg, rfl⟩
      show PySem.W.OwitIt _ _ _ _ _ _
      unfold PySem.W.OwitIt
      refine wpAny_specialOf (name := Str.ofString "__next__") hT slot_listiter_next.lookup ?_
      have I2 := ItX.inv_drop I' (a := it) (upd_same (H := H) (a := it) (o := ItO l it 0))
      have fp := ItX.inv_fp I' (a := it) (upd_same (H := H) (a := it) (o := ItO l it 0)) (Nat.le_trans I.sz hz)
      rw [ItX.dropH_upd hn] at I2 fp
      exact ⟨it, rfl, I2, ⟨_, hg, rfl, rfl⟩, fp⟩
def iOwn (C : Addr) (K : PySem.W.Frag) (fl : Str) (te : TE) : TI := fun σ H R => te σ H fun x H1 => ∃ a dx fs l, x = .ref a ∧ H1 a = some (.ins C dx fs) ∧ fs.lookup fl = some (.ref l) ∧ (∃ zs, SqL K H1 l zs) ∧ R (Itl K l) H1
theorem pi_own {tg e : Expr} {te : TE} (hs : PySem.W.findIn X.K (.ref C) "__iter__" = some (some (.ref fi))) (hf : PySem.W.isFn X.K (.ref fi) = true) (T : IterFn X.prog X.w X.K X.mg X.base k fi C fl) (hr : Room k X.A) (he : PE X e te) : PI X tg e (iOwn C X.K fl te) := by
  refine ⟨fun pins s σ H R I h => ?_⟩
  refine thn (he.run pins s σ H _ I h) fun v s1 ⟨x, H1, I1, r1, a, dx, fs, l, ex, ea, lf, ⟨zs, hq⟩, q⟩ => ?_
  subst ex
  obtain rfl : v = Value.ref a := r1
  refine wpAny_mono (iter_own hs hf T hr I1.env0 I1 ea lf hq) (fun u s2 hu => ?_) fun _ _ z => z
  obtain ⟨it, rfl, I2, hit, fp⟩ := hu
  refine ⟨it, [it], _, _, H1, rfl, I2, turn_list l it, hit, fun b hb => ?_, q⟩
  have e : b = it := by simpa using hb
  rw [e]; exact fp
end
/-! ### enumerate(o) -/
theorem meets_enumO {prog : Program} {w : World} (a : Addr) :
    MeetsIn prog w (Builtin.«enumerate.__new__» ⟨[.type "enumerate", .ref a], []⟩) (fun A R s => wpAny (model prog w) A.in1 (pyIter (.ref a))
      (fun v s' => R (.ok (.ret (.ref s'.heap.objs.size))) { s' with heap := s'.heap.push { cls := .type "enumerate", data := .fields #[.none, .bool false, v, rawInt 0, .none, .none] } }) (fun e s' => R (.error e) s') s) :=
  .of_wp fun A R s h => by
    have hsub := sub_enumerate
    have key : ∀ {Q : Value → Shared → Prop}, (∀ v s', R (.ok (.ret (.ref s'.heap.objs.size))) { s' with heap := s'.heap.push { cls := .type "enumerate", data := .fields #[.none, .bool false, v, rawInt 0, .none, .none] } } → Q v s') → wpAny (model prog w) A.in1 (pyIter (.ref a)) Q (fun e s' => R (.error e) s') s := fun hQ => wpAny_mono h hQ fun _ _ z => z
    wp_walk using key
    refine wpAny_stack_any fun st => wpAny_pure ?_
    split
    · rename_i c _ _ _ _ _
      cases (c == Value.type "enumerate")
      · wp_walk using key
        intro v s' hq
        wp_walk
        exact ⟨_, rfl, hq⟩
      · wp_walk using key
        intro v s' hq
        wp_walk
        exact ⟨_, rfl, hq⟩
    · wp_walk using key
      intro v s' hq
      wp_walk
      exact ⟨_, rfl, hq⟩
section
variable {X : Cx} {k : Nat} {C fi : Addr} {fl : Str} {e : Expr} {ta : TA} {p pos tpos : Pos} {elts : List Expr} {kk : Nat}
def iEnumO (C : Addr) (K : PySem.W.Frag) (fl : Str) (ta : TA) : TI := fun σ H R => ta σ H fun vs H1 => ∃ a dx fs l, vs = [.ref a] ∧ H1 a = some (.ins C dx fs) ∧ fs.lookup fl = some (.ref l) ∧ (∃ zs, SqL K H1 l zs) ∧ R (Ite K l) H1
theorem pi_enumO (hs : PySem.W.findIn X.K (.ref C) "__iter__" = some (some (.ref fi))) (hf : PySem.W.isFn X.K (.ref fi) = true) (T : IterFn X.prog X.w X.K X.mg X.base k fi C fl) (hr : Room (k + 1 + 1) X.A)
    (hg : Gl X "enumerate") (hm : X.mg "enumerate" = none) (ha : PA X [e] ta) (hst : starEach [e] X.env = [(false, eval e X.env)] := by rfl) : PI X (.Tuple elts kk tpos) (.Call (.Name "enumerate" p) [e] [] pos) (iEnumO C X.K fl ta) := by
  refine ⟨fun pins s σ H R I h => ?_⟩
  refine Call_ (ld_blt I hg hm boot_enumerate (PyProof.Rows.callWith_type1 (thn (ha.run pos pins s σ H _ I h) fun us s1 ⟨vs, H1, I1, r1, q1⟩ => ?_) hst rfl))
  obtain ⟨a, dx, fs, l, ex, ea, lf, ⟨zs, hq⟩, q⟩ := q1
  subst ex
  obtain ⟨u, rfl, ru⟩ := vals1 r1
  obtain rfl : u = Value.ref a := ru
  refine callType_newIn F.called_enumerate (by decide) (F.typeCall_enumerate_1 _) (F.newCall_enumerate_1 _) (fun obj => F.args_object_init_2 obj _) F.entry_enumerate_new (meets_enumO a) ?_
  refine wpAny_mono (iter_own hs hf T hr.in1.in1 I1.env0.in1.in1 I1 ea lf hq) (fun v s2 hv => ?_) fun _ _ z => z
  obtain ⟨it, rfl, I2, hit, fp⟩ := hv
  have he : IsEnum (s2.heap.push { cls := .type "enumerate", data := .fields #[.none, .bool false, .ref it, rawInt 0, .none, .none] }) s2.heap.objs.size it 0 .none := Heap.get?_push_size _ rfl
  refine ⟨⟨_, he, rfl⟩, ?_⟩
  refine wpAny_pyIter_enum he ?_
  have I3 : Inv X pins σ H1 { s2 with heap := s2.heap.push { cls := .type "enumerate", data := .fields #[.none, .bool false, .ref it, rawInt 0, .none, .none] } } := I2.kept (t' := s2.toks) fun b o e => Heap.get?_push_of_some _ e
  have hil : it < s2.heap.objs.size := by obtain ⟨_, q, _⟩ := hit; exact Heap.lt_size q
  refine ⟨s2.heap.objs.size, [s2.heap.objs.size, it], _, _, H1, rfl, I3, turn_enum l s2.heap.objs.size it, ⟨⟨.none, he⟩, hit.at fun o q => Heap.get?_push_of_some _ q, Nat.ne_of_gt hil⟩, fun b hb => ?_, q⟩
  have e' : b = s2.heap.objs.size ∨ b = it := by simpa using hb
  rcases e' with z | z
  · rw [z]; exact I2.fpOk (Nat.le_refl _) (I2.hok.fresh (Nat.le_refl _))
  · rw [z]; exact fp
end
end L2
namespace DL
open PySem PySem.Spec PyProof.Rows L2
/-! ### by data -/
def fldOf (M : Mu) (C : Addr) (f : Str) (x : X) : Option X := match objOf M x with
  | some (C', ns, xs) => if C' = C then (ns.zip xs).lookup f else none
  | none => none
/-- e.f, a field, the class's facts known -/
def fldK (C : Addr) (f : Str) (x : X) (M : Mu) (Q : VKd) : Prop := match fldOf M C f x with
  | some y => Q y M
  | none => False
def dfg (C : Addr) (f : Str) (d : DE) : DE := fun δ M Q => d δ M fun x M1 => fldK C f x M1 Q
/-- a property of the class C -/
structure CalP (P : Program) (w : World) (K : PySem.W.Frag) (mg : Str → Option Value) (base : Heap) (CX' : CXT) (C : Addr) (f : Str) (k : Nat) (g : PF) : Prop where
  ex : ∃ (p a : Addr) (fdt : FuncData), Cls K C ∧ PropOf K C f p a ∧ FnOk P w K mg base CX' k a fdt ["self"] (spG K (PFd g)) ∧ Binds K fdt ["self"] []
def propK (n : Nat) (C : Addr) (g : PF) (Er : ErrK) (x : X) (M : Mu) (Q : VKd) : Prop := (∃ ns xs, objOf M x = some (C, ns, xs)) ∧ g [vw m0 M n x] (fun y => Q y M) fun C ns ys => Er C ns ys M
def dprop (n : Nat) (C : Addr) (g : PF) (Er : ErrK) (d : DE) : DE := fun δ M Q => d δ M fun x M1 => propK n C g Er x M1 Q
/-- len by an own __len__ -/
structure CalL (P : Program) (w : World) (K : PySem.W.Frag) (mg : Str → Option Value) (base : Heap) (CX' : CXT) (C : Addr) (k : Nat) (g : PF) : Prop where
  ex : ∃ (f : Addr) (fdt : FuncData), PySem.W.findIn K (.ref C) "__len__" = some (some (.ref f)) ∧ PySem.W.isFn K (.ref f) = true ∧ FnOk P w K mg base CX' k f fdt ["self"] (spG K (PFd g)) ∧ Binds K fdt ["self"] []
def lenK (n : Nat) (C : Addr) (g : PF) (Er : ErrK) (x : X) (M : Mu) (Q : VKd) : Prop := (∃ ns xs, objOf M x = some (C, ns, xs)) ∧ g [vw m0 M n x] (fun y => ∃ i : Int, y = .int i ∧ 0 ≤ i ∧ i < 2 ^ 63 ∧ Q (.int i) M) fun C ns ys => Er C ns ys M
def dlenO (n : Nat) (C : Addr) (g : PF) (Er : ErrK) (d : DE) : DE := fun δ M Q => d δ M fun x M1 => lenK n C g Er x M1 Q
structure CalIt (P : Program) (w : World) (K : PySem.W.Frag) (mg : Str → Option Value) (base : Heap) (C : Addr) (fl : Str) (k : Nat) : Prop where
  ex : ∃ fi, PySem.W.findIn K (.ref C) "__iter__" = some (some (.ref fi)) ∧ PySem.W.isFn K (.ref fi) = true ∧ IterFn P w K mg base k fi C fl
def itK (C : Addr) (fl : Str) (x : X) (M : Mu) (Q : X → List X → Prop) : Prop := match fldOf M C fl x with
  | some y => (match lstOf M y with
    | some zs => Q y zs
    | none => False)
  | none => False
def diown (C : Addr) (fl : Str) (d : DE) : DI := fun δ M Q => d δ M fun x M1 => itK C fl x M1 fun y zs => Q zs (stays y zs) M1
def dienumO (C : Addr) (fl : Str) (a : DA) : DI := fun δ M Q => a δ M fun xs M1 => match xs with
  | [x] => itK C fl x M1 fun y zs => Q (enumX 0 zs) (stays y zs) M1
  | _ => False
section
variable {Y : Cx} {W : Ent → Prop} {K : PySem.W.Frag} {k : Nat} {CX' : CXT} {Er : ErrK} {E : XK} {e tg : Expr} {p pos tpos : Pos} {f fl : Str} {d : DE} {C : Addr} {g : PF} {kk : Nat} {elts : List Expr} {dr : DA}
theorem fldOf_ok {N : Ent} {O H : Hp} {M : Mu} {x y : DL.X} {v : V} (S : Stt K N O M H) (r : Rp K O N.B0 x v) (h : fldOf M C f x = some y) : ∃ a dx fs u, v = .ref a ∧ H a = some (.ins C dx fs) ∧ fs.lookup f = some u ∧ Rp K O N.B0 y u := by
  unfold fldOf at h
  split at h
  · rename_i C' ns xs eo
    split at h
    · rename_i ec
      subst ec
      obtain ⟨a, dx, vs, e1, ea, hl, r2⟩ := objOf_ok S r eo
      obtain ⟨u, lu, ru⟩ := lookup_zip r2 h
      exact ⟨a, dx, _, u, e1, ea, lu, ru⟩
    · cases h
  · cases h
theorem pd_fg (c : Cls Y.K C) (na : NoAttr Y.K C f) (he : PD Y W e d) (hb : attributeBase e f Y.env (eval e Y.env) = eval e Y.env := by rfl) : PD Y W (.Attribute e f pos) (dfg C f d) := by
  obtain ⟨t, h1, s1⟩ := he.ex
  refine ⟨_, pe_fld h1 hb, fun N O M δ σ H Q Qd w S L h kk => s1 N O M δ σ H _ _ w S L h fun O1 M1 H1 x v n1 r1 h => ?_⟩
  unfold fldK at h
  split at h
  · rename_i y eo
    obtain ⟨a, dx, fs, u, e1, ea, lu, ru⟩ := fldOf_ok n1.st r1 eo
    exact ⟨a, C, dx, fs, u, e1, ea, c, na, lu, kk _ _ _ y u n1 ru h⟩
  · exact h.elim
theorem nox0 : Passes CX0 Y.nox (fun _ _ _ => False) := fun _ _ _ _ _ _ _ z => z.elim
theorem pd_prop (n : Nat) (T : CalP Y.prog Y.w Y.K Y.mg Y.base CX0 C f k g) (hr : Room (k + 1) Y.A) (he : PD Y W e d) (hb : attributeBase e f Y.env (eval e Y.env) = eval e Y.env := by rfl) : PD Y W (.Attribute e f pos) (dprop n C g Ed0 d) := by
  obtain ⟨pa, a, fdt, c, pr, F, hbd⟩ := T.ex
  obtain ⟨t, h1, s1⟩ := he.ex
  refine ⟨_, pe_prop h1 c pr F hr hbd .nil nox0 hb, fun N O M δ σ H Q Qd w S L h kk => s1 N O M δ σ H _ _ w S L h fun O1 M1 H1 x v n1 r1 h => ?_⟩
  obtain ⟨⟨ns, xs, eo⟩, h⟩ := h
  obtain ⟨b, dx, vs, e1, ea, hl, r2⟩ := objOf_ok n1.st r1 eo
  subst e1
  exact ⟨b, dx, _, rfl, ea, sp_callP (xs := [x]) (vs := [.ref b]) (we0 N w) n1.st (RpA.cons r1 RpA.nil) h fun O' M' H' y v n2 r q => kk O' M' H' y v (n1.trans n2) r q⟩
theorem pd_lenO (n : Nat) (T : CalL Y.prog Y.w Y.K Y.mg Y.base CX0 C k g) (hr : Room (k + 1) Y.A) (hm : Y.mg "len" = none) (he : PD Y W e d) (hg : Gl Y "len" := by rfl) (hst : starEach [e] Y.env = (false, eval e Y.env) :: starEach [] Y.env := by rfl) : PD Y W (.Call (.Name "len" p) [e] [] pos) (dlenO n C g Ed0 d) := by
  obtain ⟨fa, fdt, hl, hf, F, hbd⟩ := T.ex
  obtain ⟨t, h1, s1⟩ := he.ex
  refine ⟨_, pe_callB (call_lenO hl hf F hr hbd (pass0 (X := Y))) hg hm PySem.boot_len (pa_cons h1 pa_nil hst) (by decide) (by decide) hst rfl, fun N O M δ σ H Q Qd w S L h kk => s1 N O M δ σ H _ _ w S L h fun O1 M1 H1 x v n1 r1 h => ?_⟩
  obtain ⟨⟨ns, xs, eo⟩, h⟩ := h
  obtain ⟨b, dx, vs, e1, ea, hl, r2⟩ := objOf_ok n1.st r1 eo
  subst e1
  refine ⟨b, dx, _, rfl, ea, ?_⟩
  refine sp_callP (xs := [x]) (vs := [.ref b]) (Qd := fun y M' => ∃ i : Int, y = .int i ∧ 0 ≤ i ∧ i < 2 ^ 63 ∧ Qd (.int i) M') (we0 N w) n1.st (RpA.cons r1 RpA.nil) h fun O' M' H' y v n2 r q => ?_
  obtain ⟨i, rfl, h0, h1, q⟩ := q
  have ev : v = .int i := by simpa only [Rp] using r
  exact ⟨i, ev, h0, h1, kk O' M' H' (.int i) (.int i) (n1.trans n2) (by simp only [Rp]) q⟩
theorem itK_ok {N : Ent} {O H : Hp} {M : Mu} {x : DL.X} {v : V} {Q : DL.X → List DL.X → Prop} (S : Stt K N O M H) (r : Rp K O N.B0 x v) (h : itK C fl x M Q) : ∃ a dx fs l y zs vs, v = .ref a ∧ H a = some (.ins C dx fs) ∧ fs.lookup fl = some (.ref l) ∧ Rp K O N.B0 y (.ref l) ∧ lstOf M y = some zs ∧ SqL K H l vs ∧ RpA K O N.B0 zs vs ∧ Q y zs := by
  unfold itK at h
  split at h
  · rename_i y ey
    split at h
    · rename_i zs ez
      obtain ⟨a, dx, fs, u, e1, ea, lu, ru⟩ := fldOf_ok S r ey
      obtain ⟨l, vs, e2, q, rr⟩ := lstOf_ok S ru ez
      subst e2
      exact ⟨a, dx, fs, l, y, zs, vs, e1, ea, lu, ru, ez, q, rr, h⟩
    · exact h.elim
  · exact h.elim
theorem pid_own (T : CalIt Y.prog Y.w Y.K Y.mg Y.base C fl k) (hr : Room k Y.A) (ha : PD Y W e d) : PID Y W tg e (diown C fl d) := by
  obtain ⟨fi, hs, hf, IT⟩ := T.ex
  obtain ⟨t, h1, s1⟩ := ha.ex
  refine ⟨_, pi_own hs hf IT hr h1, fun N O M δ σ H Q Qd w S L h k => s1 N O M δ σ H _ _ w S L h fun O1 M1 H1 x v n1 r1 h => ?_⟩
  obtain ⟨a, dx, fs, l, y, zs, vs, e1, ea, lu, ry, ez, q, rr, h⟩ := itK_ok n1.st r1 h
  refine ⟨a, dx, fs, l, e1, ea, lu, ⟨vs, q⟩, k O1 M1 H1 _ zs _ n1 (fun N2 O2 M2 H2 i eN S2 eo c => ?_) h⟩
  obtain ⟨p', ws, e', q', r'⟩ := stays_ok n1.st ry ez eN S2 eo c
  cases e'
  refine ⟨fun hi => ⟨ws, q', by rw [r'.len]; exact hi⟩, fun y ey => ?_⟩
  obtain ⟨w, ew, rw'⟩ := r'.get ey
  refine ⟨⟨ws, w, q', ew⟩, fun v2 H3 hy => ?_⟩
  obtain ⟨rfl, fy⟩ := hy
  have ev : v2 = w := Option.some.inj ((fy ws q').symm.trans ew)
  subst ev
  exact ⟨O2, Nxt.refl S2, rw'⟩
theorem pid_enumO (T : CalIt Y.prog Y.w Y.K Y.mg Y.base C fl k) (hr : Room (k + 1 + 1) Y.A) (hg : Gl Y "enumerate") (hm : Y.mg "enumerate" = none) (ha : PAD Y W [e] dr) (hst : starEach [e] Y.env = [(false, eval e Y.env)] := by rfl) :
    PID Y W (.Tuple elts kk tpos) (.Call (.Name "enumerate" p) [e] [] pos) (dienumO C fl dr) := by
  obtain ⟨fi, hs, hf, IT⟩ := T.ex
  obtain ⟨t, h1, s1⟩ := ha.ex
  refine ⟨_, pi_enumO hs hf IT hr hg hm h1 hst, fun N O M δ σ H Q Qd w S L h k => s1 N O M δ σ H _ _ w S L h fun O1 M1 H1 xs vs n1 r1 h => ?_⟩
  match xs, h with
  | [x], h =>
    obtain ⟨v, e0, rv⟩ := rpa1 r1
    subst e0
    obtain ⟨a, dx, fs, l, y, zs, vs, e1, ea, lu, ry, ez, q, rr, h⟩ := itK_ok n1.st rv h
    subst e1
    refine ⟨a, dx, fs, l, rfl, ea, lu, ⟨vs, q⟩, k O1 M1 H1 _ (enumX 0 zs) _ n1 (fun N2 O2 M2 H2 i eN S2 eo c => ?_) h⟩
    obtain ⟨p2, ws, e', q', r'⟩ := stays_ok n1.st ry ez eN S2 eo c
    cases e'
    refine ⟨fun hi => ⟨ws, q', by rw [r'.len]; rw [enumX_len] at hi; exact hi⟩, fun y ey => ?_⟩
    obtain ⟨z, ez, rfl⟩ := enumX_get ey
    obtain ⟨w, ew, rw'⟩ := r'.get ez
    refine ⟨⟨ws, w, q', ew⟩, fun v2 H3 hy => ?_⟩
    obtain ⟨T, x2, rfl, nT, rfl, fy⟩ := hy
    have ev : x2 = w := Option.some.inj ((fy ws q').symm.trans ew)
    subst ev
    have r0 : Rp Y.K O2 N2.B0 (.int ((0 + i : Nat) : Int)) (.int (i : Int)) := by simp [Rp]
    exact new_pair S2 nT r0 rw'
end
end DL

set_option maxRecDepth 100000
set_option maxHeartbeats 2000000
/-! GRd: dead statements, truth, dicts, stores by an operator, isinstance, len(set(..)). -/
namespace L2
open PySem PySem.Spec PyProof.Rows
theorem ps_dead {X : Cx} {s : Stmt} : PS X s (fun _ _ _ => False) := ⟨fun _ _ _ _ _ _ h => h.elim⟩
def rIxL1 : V → V → Hp → VK → Prop := fun x y H Q => ∃ p xs i v, x = .ref p ∧ y = .int i ∧ H p = some (.lst xs) ∧ atI xs i = some v ∧ Q v H
theorem get_listL {X : Cx} : PGet X rIxL1 := by
  intro pins s σ H x y v u Q I rx ry h
  obtain ⟨p, xs, i, z, rfl, rfl, hq, he, q⟩ := h
  cases rx
  obtain ⟨t, rfl⟩ := ry
  obtain ⟨its, r, pl, hz⟩ := I.list (.inl (.inl hq))
  obtain ⟨j, h1, h2, h3, h4, h5⟩ := atI_get he
  obtain ⟨w, ew, rw'⟩ := r.get h2
  have hl := r.length
  have hn := line63
  have fin : EP X pins σ Q w s := ⟨z, H, I, rw', q⟩
  by_cases h0 : 0 ≤ i
  · have hj : i.toNat = j := by
      rw [seqIndex_of h0 h5] at h1
      exact Option.some.inj h1
    exact wpAny_getItem_list pl.isList h0 (by omega) (by rw [hj]; simpa using ew) fin
  · have hj : (i + (its.toArray.size : Int)).toNat = j := by
      rw [seqIndex_neg (by omega) h4] at h1
      rw [List.size_toArray, ← hl]
      exact Option.some.inj h1
    exact wpAny_getItem_list_neg (Q := fun r s' => EP X pins σ Q r s') pl.isList (by omega) (by rw [List.size_toArray] <;> omega) (by omega) (by rw [hj]; simpa using ew) fin
end L2
namespace DL
open PySem PySem.Spec PyProof.Rows L2
def ddead : DS := fun _ _ _ => False
section
variable {Y : Cx} {W : Ent → Prop} {K : PySem.W.Frag} {s : Stmt} {a b e o i value : Expr} {pos pos' tpos : Pos} {d da db de di do' : DE} {f : DL.X → DL.X → Mu → VKd → Prop}
theorem psd_dead : PSD Y W s ddead := ⟨_, ps_dead, fun _ _ _ _ _ _ _ _ _ _ _ _ h => h.elim⟩
/-! ### truth of lists, tuples, ints -/
def truX (M : Mu) : DL.X → Option Bool
  | .non => some false
  | .bl b => some b
  | .int i => some (i != 0)
  | .lst _ xs => some (!xs.isEmpty)
  | .tup xs => some (!xs.isEmpty)
  | .ptr p => match M p with
    | some (.lst xs) => some (!xs.isEmpty)
    | _ => none
  | _ => none
def dtru (d : DE) : DT := fun δ M Q => d δ M fun x M1 => match truX M1 x with
  | some b => Q b M1
  | none => False
theorem emp_len {N : Ent} {O : Hp} {xs : List DL.X} {vs : List V} (r : RpA K O N.B0 xs vs) : (!vs.isEmpty) = !xs.isEmpty := by
  have := r.len
  cases xs <;> cases vs <;> simp_all
theorem truX_ok {N : Ent} {O H : Hp} {M : Mu} {x : DL.X} {v : V} {k : Bool} (S : Stt K N O M H) (r : Rp K O N.B0 x v) (h : truX M x = some k) : TruV K v H k := by
  have lists : ∀ xs, lstO M x = some xs → k = !xs.isEmpty → TruV K v H k := fun xs e ek => by
    obtain ⟨a, vs, rfl, q, rr⟩ := lstO_ok S r e
    exact .inl ⟨vs, .inl (.inl q), by rw [emp_len rr]; exact ek⟩
  cases x with
  | non => simp only [Rp] at r; subst r; simp only [truX, Option.some.injEq] at h; exact h.symm
  | bl b => simp only [Rp] at r; subst r; simp only [truX, Option.some.injEq] at h; exact h.symm
  | int i => simp only [Rp] at r; subst r; simp only [truX, Option.some.injEq] at h; exact h.symm
  | lst b xs => exact lists xs rfl (by simp only [truX, Option.some.injEq] at h; exact h.symm)
  | tup xs =>
    obtain ⟨a, vs, rfl, q, rr⟩ := tup_ok S r
    exact .inr (.inl ⟨vs, q, by rw [emp_len rr]; simp only [truX, Option.some.injEq] at h; exact h.symm⟩)
  | ptr p =>
    simp only [truX] at h
    split at h
    · rename_i xs e
      exact lists xs (by simp only [lstO, e]) (by simp only [Option.some.injEq] at h; exact h.symm)
    · cases h
  | _ => simp only [truX] at h; cases h
theorem ptd_truth (h : PD Y W e da) (he : ∀ whole, isTrue e Y.env whole = (do let v ← whole; standAt e.pos; holding [v] (truthy v)) := by intro _; rfl) : PTD Y W e (dtru da) := by
  obtain ⟨t, h1, s1⟩ := h.ex
  refine ⟨_, pt_truth h1 he, fun N O M δ σ H Q Qd w S L h k => s1 N O M δ σ H _ _ w S L h fun O1 M1 H1 x v n1 r1 h => ?_⟩
  split at h
  · rename_i b eb
    exact ⟨b, truX_ok n1.st r1 eb, k O1 M1 H1 b n1 h⟩
  · exact h.elim
/-! ### xs[i] op= e -/
def augL (o i : DL.X) (f : DL.X → DL.X → Mu → VKd → Prop) (e : Mu → VKd → Prop) (M : Mu) (Q : Mu → Prop) : Prop := match o, i with
  | .ptr p, .int k => (match M p with
    | some (.lst xs) => (match atI xs k with
      | some x => e M fun y M1 => f x y M1 fun z M2 => setL (.ptr p) (.int k) z M2 Q
      | none => False)
    | _ => False)
  | _, _ => False
def daugS (o i e : DE) (f : DL.X → DL.X → Mu → VKd → Prop) : DS := fun DD δ M => o δ M fun x M1 => i δ M1 fun y M2 => augL x y f (e δ) M2 fun M3 => DD.nx δ M3
theorem augL_inv {M : Mu} {x y : DL.X} {e' : Mu → VKd → Prop} {Qd : Mu → Prop} (h : augL x y f e' M Qd) : ∃ (p : Addr) (k : Int) (xs : List DL.X) (z : DL.X), x = .ptr p ∧ y = .int k ∧ M p = some (.lst xs) ∧ atI xs k = some z ∧ e' M fun y M1 => f z y M1 fun z M2 => setL (.ptr p) (.int k) z M2 Qd := by
  cases x with
  | ptr p =>
    cases y with
    | int k =>
      simp only [augL] at h
      split at h
      · rename_i xs em
        split at h
        · rename_i z ez
          exact ⟨p, k, xs, z, rfl, rfl, em, ez, h⟩
        · exact h.elim
      · exact h.elim
    | _ => simp only [augL] at h
  | _ => simp only [augL] at h
theorem atI_len {α β : Type} {xs : List α} {ys : List β} {k : Int} {z : α} (hl : ys.length = xs.length) (h : atI xs k = some z) : ∃ j : Nat, xs[j]? = some z ∧ atI ys k = ys[j]? := by
  unfold atI at h ⊢
  rw [hl]
  cases e : ixN xs.length k with
  | none => rw [e] at h; cases h
  | some j =>
    rw [e] at h
    exact ⟨j, h, rfl⟩
theorem psd_augS {op : Operator} {ti : TIp} (ho : PIp Y op ti) (hr : SndOp Y.K ti f) (hxs : PD Y W o do') (hi : PD Y W i di) (he : PD Y W e de)
    (ha : ∀ ov iv new, augStore i ov iv new = (do holding [new, ov, iv] (setItem ov iv new); release [new, ov, iv] []; pure .next) := by intros; rfl) : PSD Y W (.AugAssign (.Subscript o i tpos) op e pos) (daugS do' di de f) := by
  obtain ⟨t, h1, s1⟩ := hxs.ex
  obtain ⟨u, h2, s2⟩ := hi.ex
  obtain ⟨r, h3, s3⟩ := he.ex
  refine ⟨_, ps_augS h1 h2 get_listL h3 ho set_list ha, fun N D DD w C O M δ σ H S L h => s1 N O M δ σ H _ _ w S L h fun O1 M1 H1 x v n1 r1 h => s2 N O1 M1 δ σ H1 _ _ w n1.st (n1.sl L) h fun O2 M2 H2 y u n2 r2 h => ?_⟩
  obtain ⟨p, k, xs, z, rfl, rfl, em, ez, h⟩ := augL_inv h
  have r1' := n2.rp r1
  simp only [Rp] at r1' r2
  subst r1' r2
  obtain ⟨vs, hp, rr⟩ := n2.st.cl p _ em
  obtain ⟨j, hj, hk⟩ := atI_len (ys := vs) rr.len ez
  obtain ⟨w2, ew, rw2⟩ := rr.get hj
  refine ⟨p, vs, k, w2, rfl, rfl, hp, hk.trans ew, ?_⟩
  refine s3 N O2 M2 δ σ H2 _ _ w n2.st ((n1.trans n2).sl L) h fun O3 M3 H3 y3 v3 n3 r3 h => ?_
  refine hr N O3 M3 H3 z y3 w2 v3 _ _ n3.st (n3.rp rw2) r3 h fun O4 M4 H4 z4 v4 n4 r4 h => ?_
  refine setL_ok (x := .ptr p) (y := .int k) n4.st (by simp only [Rp]) (by simp only [Rp]) r4 h fun O5 M5 H5 n5 h => ?_
  exact C.nx O5 M5 δ σ H5 n5.st (((((n1.trans n2).trans n3).trans n4).trans n5).sl L) h
/-! ### dicts with keys ints and texts -/
def keyX : DL.X → Option Key
  | .int i => some (.inl i)
  | .str z => some (.inr z)
  | _ => none
def valX (kvs : List (Key × DL.X)) (k : Key) : Option DL.X := (kvs.find? fun kv => decide (kv.1 = k)).map (·.2)
def putX (kvs : List (Key × DL.X)) (k : Key) (v : DL.X) : List (Key × DL.X) := if (kvs.any fun kv => decide (kv.1 = k)) then kvs.map fun kv => if kv.1 = k then (kv.1, v) else kv else kvs ++ [(k, v)]
def dicX (M : Mu) : DL.X → Option (List (Key × DL.X))
  | .ptr p => match M p with
    | some (.dK kvs) => some kvs
    | _ => none
  | _ => none
theorem keyX_ok {O B : Hp} {x : DL.X} {v : V} {k : Key} (r : Rp K O B x v) (h : keyX x = some k) : v = kV k := by
  cases x with
  | int i => simp only [keyX, Option.some.injEq] at h; subst h; simp only [Rp] at r; exact r
  | str z => simp only [keyX, Option.some.injEq] at h; subst h; simp only [Rp] at r; exact r
  | _ => simp only [keyX] at h; cases h
theorem valX_ok {O B : Hp} {k : Key} : ∀ {kvs : List (Key × DL.X)} {vs : List V}, RpA K O B (kvs.map (·.2)) vs → (match valX kvs k with
    | some x => ∃ v, valV ((kvs.map (·.1)).zip vs) k = some v ∧ Rp K O B x v
    | none => valV ((kvs.map (·.1)).zip vs) k = none)
  | [], _, _ => rfl
  | (k', x) :: kvs, vs, r => by
    simp only [List.map_cons, RpA] at r
    obtain ⟨v, t, e, q, u⟩ := r
    subst e
    have ih := valX_ok (k := k) u
    simp only [List.map_cons, List.zip_cons_cons]
    by_cases hk : k' = k
    · have e1 : valX ((k', x) :: kvs) k = some x := by simp [valX, List.find?_cons, hk]
      rw [e1]
      exact ⟨v, valV_pos hk, q⟩
    · have e1 : valX ((k', x) :: kvs) k = valX kvs k := by simp [valX, List.find?_cons, hk]
      have e2 : valV ((k', v) :: (kvs.map (·.1)).zip t) k = valV ((kvs.map (·.1)).zip t) k := valV_neg hk
      rw [e1, e2]
      exact ih
theorem putK_any {kvs : List (Key × DL.X)} {vs : List V} {k : Key} (hl : kvs.length = vs.length) : (((kvs.map (·.1)).zip vs).any fun kv => decide (kv.1 = k)) = kvs.any fun kv => decide (kv.1 = k) := by
  induction kvs generalizing vs with
  | nil => rfl
  | cons p kvs ih =>
    cases vs with
    | nil => cases hl
    | cons v vs => simp only [List.map_cons, List.zip_cons_cons, List.any_cons, ih (by simpa using hl)]
theorem putX_ok {O B : Hp} {k : Key} {x : DL.X} {v : V} (hx : Rp K O B x v) {kvs : List (Key × DL.X)} {vs : List V} (hl : kvs.length = vs.length) (r : RpA K O B (kvs.map (·.2)) vs) :
    ∃ ws, putK ((kvs.map (·.1)).zip vs) k v = ((putX kvs k x).map (·.1)).zip ws ∧ (putX kvs k x).length = ws.length ∧ RpA K O B ((putX kvs k x).map (·.2)) ws := by
  have put : ∀ (kvs : List (Key × DL.X)) (vs : List V), kvs.length = vs.length → RpA K O B (kvs.map (·.2)) vs → ∃ ws, (((kvs.map (·.1)).zip vs).map fun kv => if kv.1 = k then (kv.1, v) else kv) = (((kvs.map fun kv => if kv.1 = k then (kv.1, x) else kv)).map (·.1)).zip ws ∧ (kvs.map fun kv => if kv.1 = k then (kv.1, x) else kv).length = ws.length ∧ RpA K O B ((kvs.map fun kv => if kv.1 = k then (kv.1, x) else kv).map (·.2)) ws := by
    intro kvs
    induction kvs with
    | nil => intro vs hl r; simp only [List.map_nil, RpA] at r; subst r; exact ⟨[], rfl, rfl, RpA.nil⟩
    | cons p kvs ih =>
      intro vs hl r
      simp only [List.map_cons, RpA] at r
      obtain ⟨u, t, e, q, rr⟩ := r
      subst e
      obtain ⟨ws, e1, e2, e3⟩ := ih t (by simpa using hl) rr
      by_cases hk : p.1 = k
      · refine ⟨v :: ws, ?_, by simp [e2], ?_⟩
        · simp only [List.map_cons, List.zip_cons_cons, hk, if_true, e1]
        · simp only [List.map_cons, hk, if_true]
          exact RpA.cons hx e3
      · refine ⟨u :: ws, ?_, by simp [e2], ?_⟩
        · simp only [List.map_cons, List.zip_cons_cons, hk, if_false, e1]
        · simp only [List.map_cons, hk, if_false]
          exact RpA.cons q e3
  unfold putX putK
  rw [putK_any hl]
  split
  · exact put kvs vs hl r
  · refine ⟨vs ++ [v], ?_, by simp [hl], ?_⟩
    · rw [List.map_append, List.zip_append (by simp [hl])]
      rfl
    · rw [List.map_append]
      exact r.append (RpA.cons hx RpA.nil)
/-- a new mutable thing -/
theorem Stt.mutC {N : Ent} {O H : Hp} {M : Mu} {p : Addr} {c : Cell} {o : HO} (S : Stt K N O M H) (h : H p = none) (ht : ∀ xs, o ≠ .tup xs) (hc : RpC K O N.B0 (upd H p o) p c) : Stt K N O (mset M p c) (upd H p o) := by
  have e2 : Ex H (upd H p o) := ex_upd h
  have mn := S.mnone h
  have e3 : Ex (fz H M) (fz (upd H p o) (mset M p c)) := fun a u q => by
    obtain ⟨q1, q2⟩ := of_fz q
    have hb : a ≠ p := fun z => by rw [z, h] at q1; cases q1
    rw [fz_of (by rw [mset_ne hb]; exact q2)]
    exact e2 a u q1
  refine ⟨S.oh.trans e2, fun a c q => ?_, fun a xs q => ?_, fun a c q => ?_, S.b0.trans e3, S.c0.trans e3, S.o0, S.nw, fun a q => ?_, fun a c q => ?_⟩
  · by_cases hb : a = p
    · subst hb; exact S.onone h
    · rw [mset_ne hb] at q; exact S.om a c q
  · by_cases hb : a = p
    · rw [hb, upd_same] at q; exact absurd (Option.some.inj q) (ht xs)
    · rw [upd_ne hb] at q; exact S.tp a xs q
  · by_cases hb : a = p
    · subst hb
      rw [mset_same] at q
      cases q
      exact hc
    · rw [mset_ne hb] at q
      exact (S.cl a c q).mono (Ex.refl O) (Ex.refl _) fun b u _ z => e2 b u z
  · by_cases hb : a = p
    · subst hb; rw [upd_same] at q; cases q
    · rw [upd_ne hb] at q; exact S.dm a q
  · by_cases hb : a = p
    · subst hb; exact .inl (S.dm _ h)
    · rw [mset_ne hb] at q; exact S.mf a c q
theorem dicX_ok {N : Ent} {O H : Hp} {M : Mu} {x : DL.X} {v : V} {kvs : List (Key × DL.X)} (S : Stt K N O M H) (r : Rp K O N.B0 x v) (h : dicX M x = some kvs) : ∃ p vs, x = .ptr p ∧ M p = some (.dK kvs) ∧ v = .ref p ∧ H p = some (.dK ((kvs.map (·.1)).zip vs)) ∧ kvs.length = vs.length ∧ RpA K O N.B0 (kvs.map (·.2)) vs := by
  cases x with
  | ptr p =>
    simp only [dicX] at h
    split at h
    · rename_i kvs' e
      cases h
      obtain ⟨vs, q1, q2, q3⟩ := S.cl p _ e
      exact ⟨p, vs, rfl, e, by simpa only [Rp] using r, q1, q2, q3⟩
    · cases h
  | _ => simp only [dicX] at h; cases h
def fDget (x y : DL.X) (M : Mu) (Q : VKd) : Prop := match dicX M x, keyX y with
  | some kvs, some k => (match valX kvs k with
    | some z => Q z M
    | none => False)
  | _, _ => False
theorem fDget_inv {x y : DL.X} {M : Mu} {Q : VKd} (h : fDget x y M Q) : ∃ kvs k z, dicX M x = some kvs ∧ keyX y = some k ∧ valX kvs k = some z ∧ Q z M := by
  unfold fDget at h
  split at h
  · split at h
    · exact ⟨_, _, _, by assumption, by assumption, by assumption, h⟩
    · exact h.elim
  · exact h.elim
theorem pd_dget (hu : Y.A.units + 1 < cLine) (ho : PD Y W o do') (hi : PD Y W i di) (hs : NoSl i := by exact fun _ _ => rfl) : PD Y W (.Subscript o i pos) (dop fDget do' di) := by
  obtain ⟨t, h1, s1⟩ := ho.ex
  obtain ⟨u, h2, s2⟩ := hi.ex
  refine ⟨_, pe_dget hu h1 h2 hs, fun N O M δ σ H Q Qd w S L h k => s1 N O M δ σ H _ _ w S L h fun O1 M1 H1 x v n1 r1 h => s2 N O1 M1 δ σ H1 _ _ w n1.st (n1.sl L) h fun O2 M2 H2 y u n2 r2 h => ?_⟩
  obtain ⟨kvs, ky, z, ex, ey, ez, hq⟩ := fDget_inv h
  obtain ⟨p, vs, rfl, em, rfl, hp, hl, rr⟩ := dicX_ok n2.st (n2.rp r1) ex
  have q := valX_ok (k := ky) rr
  rw [ez] at q
  obtain ⟨v, q1, q2⟩ := q
  refine ⟨p, v, rfl, ?_, k O2 M2 H2 z v (n1.trans n2) q2 hq⟩
  rw [keyX_ok r2 ey, ← q1]
  exact DGet.k hp
/-- y in d, y not in d -/
def dDin (n : Bool) (i o : DE) : DE := fun δ M Q => i δ M fun y M1 => o δ M1 fun x M2 => match dicX M2 x, keyX y with
  | some kvs, some k => Q (.bl (n != (valX kvs k).isSome)) M2
  | _, _ => False
theorem din_ok {N : Ent} {O H : Hp} {M : Mu} {x y : DL.X} {v u : V} {kvs : List (Key × DL.X)} {ky : Key} (S : Stt K N O M H) (rx : Rp K O N.B0 x v) (ry : Rp K O N.B0 y u) (ex : dicX M x = some kvs) (ey : keyX y = some ky) : ∃ a ov, v = .ref a ∧ DGet H a u ov ∧ ov.isSome = (valX kvs ky).isSome := by
  obtain ⟨p, vs, rfl, em, rfl, hp, hl, rr⟩ := dicX_ok S rx ex
  refine ⟨p, _, rfl, by rw [keyX_ok ry ey]; exact DGet.k hp, ?_⟩
  have q := valX_ok (k := ky) rr
  cases e : valX kvs ky with
  | none => rw [e] at q; have q : valV ((kvs.map (·.1)).zip vs) ky = none := q; rw [q]; rfl
  | some z => rw [e] at q; obtain ⟨v, q1, q2⟩ := q; rw [q1]; rfl
theorem pd_din (hu : Y.A.units + 1 < cLine) (hi : PD Y W i di) (ho : PD Y W o do') (hm : behindInMarks .In o = false := by rfl) : PD Y W (.Compare i [.In] [o] pos) (dDin false di do') := by
  obtain ⟨t, h1, s1⟩ := ho.ex
  obtain ⟨u, h2, s2⟩ := hi.ex
  refine ⟨_, pe_cmp (pc_din hu h2 h1) hm, fun N O M δ σ H Q Qd w S L h k => s2 N O M δ σ H _ _ w S L h fun O1 M1 H1 x v n1 r1 h => s1 N O1 M1 δ σ H1 _ _ w n1.st (n1.sl L) h fun O2 M2 H2 y u n2 r2 h => ?_⟩
  split at h
  · rename_i kvs ky ex ey
    obtain ⟨a, ov, e1, e2, e3⟩ := din_ok n2.st r2 (n2.rp r1) ex ey
    refine ⟨a, ov, e1, e2, k O2 M2 H2 _ _ (n1.trans n2) ?_ h⟩
    simp [Rp, e3]
  · exact h.elim
theorem pd_dnotin (hu : Y.A.units + 1 < cLine) (hi : PD Y W i di) (ho : PD Y W o do') (hm : behindInMarks .NotIn o = false := by rfl) : PD Y W (.Compare i [.NotIn] [o] pos) (dDin true di do') := by
  obtain ⟨t, h1, s1⟩ := ho.ex
  obtain ⟨u, h2, s2⟩ := hi.ex
  refine ⟨_, pe_cmp (pc_dnotin hu h2 h1) hm, fun N O M δ σ H Q Qd w S L h k => s2 N O M δ σ H _ _ w S L h fun O1 M1 H1 x v n1 r1 h => s1 N O1 M1 δ σ H1 _ _ w n1.st (n1.sl L) h fun O2 M2 H2 y u n2 r2 h => ?_⟩
  split at h
  · rename_i kvs ky ex ey
    obtain ⟨a, ov, e1, e2, e3⟩ := din_ok n2.st r2 (n2.rp r1) ex ey
    refine ⟨a, ov, e1, e2, k O2 M2 H2 _ _ (n1.trans n2) ?_ h⟩
    simp [Rp, e3]
  · exact h.elim
theorem snd_tB {t : TE} {dt : DE} (h : SndE K W t dt) : SndT K W (tB t) (dtest dt) := fun N O M δ σ H Q Qd w S L h0 k => by
  refine h N O M δ σ H _ _ w S L h0 fun O1 M1 H1 x v n1 r1 q => ?_
  split at q
  · rename_i b
    simp only [Rp] at r1
    exact ⟨b, r1, k O1 M1 H1 b n1 q⟩
  · exact q.elim
theorem ptd_dnotin (hu : Y.A.units + 1 < cLine) (hi : PD Y W i di) (ho : PD Y W o do') (hm : behindInMarks .NotIn o = false := by rfl) : PTD Y W (.Compare i [.NotIn] [o] pos) (dtest (dDin true di do')) := by
  obtain ⟨t, h1, s1⟩ := ho.ex
  obtain ⟨u, h2, s2⟩ := hi.ex
  refine ⟨_, pt_cmp (pc_dnotin hu h2 h1) hm, snd_tB fun N O M δ σ H Q Qd w S L h k => s2 N O M δ σ H _ _ w S L h fun O1 M1 H1 x v n1 r1 h => s1 N O1 M1 δ σ H1 _ _ w n1.st (n1.sl L) h fun O2 M2 H2 y u n2 r2 h => ?_⟩
  split at h
  · rename_i kvs ky ex ey
    obtain ⟨a, ov, e1, e2, e3⟩ := din_ok n2.st r2 (n2.rp r1) ex ey
    refine ⟨a, ov, e1, e2, k O2 M2 H2 _ _ (n1.trans n2) ?_ h⟩
    simp [Rp, e3]
  · exact h.elim
/-- d[y] = v -/
def fDput (x y z : DL.X) (M : Mu) (Q : Mu → Prop) : Prop := match x with
  | .ptr p => (match M p with
    | some (.dK kvs) => (match keyX y with
      | some k => kvs.length < sizeLine ∧ Q (mset M p (.dK (putX kvs k z)))
      | none => False)
    | _ => False)
  | _ => False
theorem fDput_inv {x y z : DL.X} {M : Mu} {Q : Mu → Prop} (h : fDput x y z M Q) : ∃ p kvs k, x = .ptr p ∧ M p = some (.dK kvs) ∧ keyX y = some k ∧ kvs.length < sizeLine ∧ Q (mset M p (.dK (putX kvs k z))) := by
  unfold fDput at h
  split at h
  · split at h
    · split at h
      · exact ⟨_, _, _, rfl, by assumption, by assumption, h.1, h.2⟩
      · exact h.elim
    · exact h.elim
  · exact h.elim
def dDput (o i e : DE) : DS := fun DD δ M => e δ M fun z M1 => o δ M1 fun x M2 => i δ M2 fun y M3 => fDput x y z M3 fun M4 => DD.nx δ M4
theorem psd_dput (hu : Y.A.units + 1 < cLine) (ho : PD Y W o do') (hi : PD Y W i di) (hv : PD Y W value de) (hs : swapsWith value (some (.Subscript o i pos')) pos.line Y.env = pure false := by rfl) : PSD Y W (.Assign [.Subscript o i pos'] value pos) (dDput do' di de) := by
  obtain ⟨t, h1, s1⟩ := ho.ex
  obtain ⟨u, h2, s2⟩ := hi.ex
  obtain ⟨r, h3, s3⟩ := hv.ex
  refine ⟨_, ps_dput hu h1 h2 h3 hs, fun N D DD w C O M δ σ H S L h => s3 N O M δ σ H _ _ w S L h fun O1 M1 H1 z vz n1 rz h => s1 N O1 M1 δ σ H1 _ _ w n1.st (n1.sl L) h fun O2 M2 H2 x v n2 r1 h => s2 N O2 M2 δ σ H2 _ _ w n2.st ((n1.trans n2).sl L) h fun O3 M3 H3 y u n3 r2 h => ?_⟩
  obtain ⟨p, kvs, ky, rfl, em, ey, hlt, h⟩ := fDput_inv h
  obtain ⟨vs, hp, hl, rr⟩ := n3.st.cl p _ em
  have rv := n3.rp r1
  simp only [Rp] at rv
  obtain ⟨ws, e1, e2, e3⟩ := putX_ok (k := ky) ((n2.trans n3).rp rz) hl rr
  have el : ((kvs.map (·.1)).zip vs).length < sizeLine := by rw [List.length_zip, List.length_map]; omega
  refine ⟨p, upd H3 p (.dK (putK ((kvs.map (·.1)).zip vs) ky vz)), rv, ?_, ?_⟩
  · rw [keyX_ok r2 ey]; exact DPut.k hp el
  · rw [e1]
    exact C.nx O3 _ δ σ _ (n3.st.writeC (c := .dK kvs) (c' := .dK (putX kvs ky z)) em (fun _ z => nomatch z) ⟨ws, upd_same, e2, e3⟩) (((n1.trans n2).trans n3).sl L) h
/-- {k: v} -/
def ddict1 (i e : DE) : DE := fun δ M Q => ∀ p, M p = none → i δ (mset M p (.dK [])) fun y M1 => e δ M1 fun z M2 => M2 p = some (.dK []) ∧ ∃ k, keyX y = some k ∧ Q (.ptr p) (mset M2 p (.dK [(k, z)]))
theorem pd_dict1 (hi : PD Y W i di) (he : PD Y W e de) : PD Y W (.Dict [some i] [e] pos) (ddict1 di de) := by
  obtain ⟨u, h2, s2⟩ := hi.ex
  obtain ⟨r, h3, s3⟩ := he.ex
  refine ⟨_, pe_disp (pps_cons h2 h3 pps_nil) rfl rfl (by simp) (by simp), fun N O M δ σ H Q Qd w S L h kk => fun p hp => ?_⟩
  have S1 : Stt Y.K N O (mset M p (.dK [])) (upd H p (.dK [])) := S.mutC hp (fun _ z => nomatch z) ⟨[], upd_same, rfl, RpA.nil⟩
  refine s2 N O _ δ σ _ _ _ w S1 L (h p (S.mnone hp)) fun O1 M1 H1 y v n1 r1 h => s3 N O1 M1 δ σ H1 _ _ w n1.st (n1.sl L) h fun O2 M2 H2 z v2 n2 r2 h => ?_
  obtain ⟨em, k, ek, h⟩ := h
  obtain ⟨vs, q1, q2, q3⟩ := n2.st.cl p _ em
  have ev : vs = [] := by simpa only [List.map_nil, RpA] using q3
  subst ev
  refine ⟨q1, [(k, v2)], by rw [keyX_ok r1 ek]; rfl, by simp, ?_⟩
  have e0 : mergeK [] [(k, v2)] = [(k, v2)] := rfl
  rw [e0]
  refine kk O2 _ _ (.ptr p) _ ((Nxt.mk S1 (Ex.refl O)).trans (n1.trans n2) |>.trans ⟨n2.st.writeC (c := .dK []) (c' := .dK [(k, z)]) em (fun _ z => nomatch z) ⟨[v2], upd_same, rfl, RpA.cons r2 RpA.nil⟩, Ex.refl _⟩) (by simp only [Rp]) h
end
end DL

set_option maxRecDepth 100000
set_option maxHeartbeats 2000000
/-! GRe: isinstance of built-in types, len(set(..)), keywords, try .. except X as e. -/
namespace L2
open PySem PySem.Spec PyProof.Rows
/-- isinstance(e, c), e the exception that the suite holds, its fields in the dict at dd -/
def rIsE2 (K : PySem.W.Frag) (D a dd : Addr) : List V → Hp → VK → Prop := fun xs H Q => ∃ (c : V) (cv : Value) (b : Bool) (fs : List (Str × V)), xs = [.ref a, c] ∧ (∀ u, RelV c u → u = cv) ∧ H dd = some (.xd fs) ∧ PySem.W.kitOne K (.ref D) cv = some b ∧ Q (.bl b) H
theorem call_isE2 {X : Cx} {a D dd : Addr} {oe : Obj} {pn : List (Addr × Obj)} (C : XiC X.K D) (hz : Zc (.ref D) (some dd) oe) (hf : ∃ vs, oe.data = .fields vs) : CallR (X.suite a ((a, oe) :: pn)) (.builtin "isinstance") (rIsE2 X.K D a dd) := by
  intro pins s σ H xs us Q I r h
  obtain ⟨c, cv, b, fs, rfl, hcv, ed, e, q⟩ := h
  cases r with
  | cons rx rr =>
    cases rr with
    | cons rt rr =>
      cases rr
      cases rx
      have ec := hcv _ rt
      subst ec
      obtain ⟨hget, _⟩ := I.pin (a, oe) (List.mem_append.mpr (.inl List.mem_cons_self))
      obtain ⟨vs, hv⟩ := hf
      have hx : ObjOk X.prog X.w H s.heap dd (.xd fs) := I.hok dd _ ed
      obtain ⟨mA, hns, hr⟩ := hx
      obtain ⟨od, ho, hl⟩ := lookIn_ns hns
      have J : PySem.W.InstAt s.heap a oe D (some od) := ⟨hget, hz.1, by unfold PySem.W.notCls; rw [hv] <;> rfl, by rw [hz.2]; exact ho⟩
      exact PySem.W.kia_one (PySem.W.kitx_exc C.cl C.xf.ga C.xf.gg C.xf.exC C.ha C.hn C.ht C.hm) I.kIn J e (fun z => nomatch z) fun tk => ⟨.bl b, H, I.kept (t' := tk) fun _ _ z => z, rfl, q⟩
end L2
namespace DL
open PySem PySem.Spec PyProof.Rows L2
/-! ### isinstance(e, T) of data, T a built-in type -/
def tyX (M : Mu) : DL.X → Option String
  | .non => some "NoneType"
  | .bl _ => some "bool"
  | .int _ => some "int"
  | .str _ => some "str"
  | .lst _ _ => some "list"
  | .tup _ => some "tuple"
  | .ptr p => match M p with
    | some (.lst _) => some "list"
    | _ => none
  | _ => none
def isTy (t T : String) : Bool := t == T || (t == "bool" && T == "int")
def tys : List String := ["NoneType", "bool", "int", "str", "list", "tuple"]
theorem kitB_tys : ∀ t ∈ tys, ∀ T ∈ ["list", "int", "bool", "tuple"], kitB t T = some (isTy t T) := by decide +kernel
def disB (T : String) (d : DE) : DE := fun δ M Q => d δ M fun x M1 => match tyX M1 x with
  | some t => Q (.bl (isTy t T)) M1
  | none => False
section
variable {Y : Cx} {W : Ent → Prop} {K : PySem.W.Frag} {e a : Expr} {es : List Expr} {x : Str} {p p2 q pos : Pos} {d de : DE} {dr dk : DA} {k : Nat}
theorem tyX_ok {N : Ent} {O H : Hp} {M : Mu} {x : DL.X} {v : V} {t : String} (S : Stt K N O M H) (r : Rp K O N.B0 x v) (h : tyX M x = some t) : TyX K H v (.type t) ∧ t ∈ tys := by
  cases x with
  | non => simp only [Rp] at r; subst r; simp only [tyX, Option.some.injEq] at h; subst h; exact ⟨.base .non, by decide⟩
  | bl b => simp only [Rp] at r; subst r; simp only [tyX, Option.some.injEq] at h; subst h; exact ⟨.base (.bl b), by decide⟩
  | int i => simp only [Rp] at r; subst r; simp only [tyX, Option.some.injEq] at h; subst h; exact ⟨.base (.int i), by decide⟩
  | str z => simp only [Rp] at r; subst r; simp only [tyX, Option.some.injEq] at h; subst h; exact ⟨.base (.str z), by decide⟩
  | lst b xs =>
    obtain ⟨a, vs, rfl, q, rr⟩ := lstO_ok S r (xs := xs) rfl
    simp only [tyX, Option.some.injEq] at h; subst h; exact ⟨.base (.lst q), by decide⟩
  | tup xs =>
    obtain ⟨a, vs, rfl, q, rr⟩ := tup_ok S r
    simp only [tyX, Option.some.injEq] at h
    subst h
    refine ⟨?_, by decide⟩
    rcases q with (q | ⟨o, q⟩) | ⟨o, its, n, q1, q2, _⟩
    · exact .base (.tup q)
    · exact .fTuple q
    · exact .kTuple q1 q2
  | ptr p =>
    simp only [tyX] at h
    split at h
    · rename_i xs em
      obtain ⟨a, vs, rfl, q, rr⟩ := lstO_ok S r (xs := xs) (by simp only [lstO, em])
      simp only [Option.some.injEq] at h; subst h; exact ⟨.base (.lst q), by decide⟩
    · cases h
  | _ => simp only [tyX] at h; cases h
theorem pd_isB {T : String} {p1 : Pos} (hT : T ∈ ["list", "int", "bool", "tuple"]) (he : PD Y W e d) (hm : Y.mg "isinstance" = none) (hx : Y.mg x = none) (hv : bootBuiltins x = some (.type T)) (hg : Gl Y "isinstance" := by rfl) (hgx : Gl Y x := by rfl) (hn : x ≠ "__name__" := by decide) (hdb : (x == ("__debug__" : Str)) = false := by decide)
    (hs : starEach [e, .Name x p1] Y.env = (false, eval e Y.env) :: starEach [.Name x p1] Y.env := by rfl) (hpl : (backTo pos (starEach [.Name x p1] Y.env)).any (·.1) = false := by rfl) (hs2 : starEach [.Name x p1] Y.env = (false, eval (.Name x p1) Y.env) :: starEach [] Y.env := by rfl) :
    PD Y W (.Call (.Name "isinstance" p2) [e, .Name x p1] [] pos) (disB T d) := by
  obtain ⟨t, h1, s1⟩ := he.ex
  refine ⟨_, pe_callB call_isi hg hm (by first | rfl | kernel_rfl) (pa_cons h1 (pa_cons (pe_bltn (v := .ty T) hgx hx hv rfl hn hdb) pa_nil hs2) hs) (by decide) (by decide) hs hpl, fun N O M δ σ H Q Qd w S L h kk => s1 N O M δ σ H _ _ w S L h fun O1 M1 H1 x v n1 r1 h => ?_⟩
  split at h
  · rename_i ty et
    obtain ⟨h2, h3⟩ := tyX_ok n1.st r1 et
    exact ⟨v, .ty T, .type ty, .type T, isTy ty T, rfl, .ty T, h2, kit_ty (kitB_tys ty h3 T hT), kk O1 M1 H1 _ _ n1 (by simp only [Rp]) h⟩
  · exact h.elim
/-! ### len(set(xs)), the ints of xs all different -/
def dlenSet (d : DE) : DE := fun δ M Q => d δ M fun x M1 => match lstOf M1 x with
  | some xs => ∃ ns : List Int, xs = ns.map X.int ∧ ns.Nodup ∧ ns.length ≤ 4000 ∧ Q (.int ns.length) M1
  | none => False
theorem pd_lenSet (hm : Y.mg "len" = none) (hm2 : Y.mg "set" = none) (ha : PD Y W a d) (hc : Y.calm = true := by rfl) (hg : Gl Y "len" := by rfl) (hg2 : Gl Y "set" := by rfl)
    (na : starEach [a] Y.env = (false, eval a Y.env) :: starEach [] Y.env := by rfl) : PD Y W (.Call (.Name "len" p) [.Call (.Name "set" p2) [a] [] q] [] pos) (dlenSet d) := by
  obtain ⟨t, h1, s1⟩ := ha.ex
  refine ⟨_, RZ.pe_lenSetI hg hm hg2 hm2 h1 hc na, fun N O M δ σ H Q Qd w S L h kk => s1 N O M δ σ H _ _ w S L h fun O1 M1 H1 x v n1 r1 h => ?_⟩
  split at h
  · rename_i xs ex
    obtain ⟨ns, rfl, hnd, hl, h⟩ := h
    obtain ⟨l, vs, e2, q2, r2⟩ := lstOf_ok n1.st r1 ex
    rw [r2.ints] at q2
    exact ⟨l, ns, e2, q2, hnd, hl, kk O1 M1 H1 (.int ns.length) _ n1 (by simp only [Rp]) h⟩
  · exact h.elim
/-! ### keywords -/
structure PKD (Y : Cx) (W : Ent → Prop) (kws : List Keyword) (d : DA) : Prop where
  ex : ∃ t, PK Y kws t ∧ SndA Y.K W t d
theorem pkd_nil : PKD Y W [] dnil := ⟨_, pk_nil, snd_nil⟩
theorem pkd_cons {nm : Option Str} {kpos : Pos} {kws : List Keyword} (h1 : PD Y W e de) (h2 : PKD Y W kws dr) : PKD Y W (⟨nm, e, kpos⟩ :: kws) (dcons de dr) := by
  obtain ⟨t, h1, s1⟩ := h1.ex
  obtain ⟨u, h2, s2⟩ := h2.ex
  exact ⟨_, pk_cons h1 h2, snd_cons s1 s2⟩
def gK {α : Type} (n m : Nat) (us ws : List α) : List α := if us.length = n ∧ ws.length = m then us ++ ws else []
structure CalK (P : Program) (w : World) (K : PySem.W.Frag) (mg : Str → Option Value) (base : Heap) (CX' : CXT) (x : Str) (k : Nat) (ps ks : List Str) (n m : Nat) (fd : FD) : Prop where
  ex : ∃ f fdt, FnOk P w K mg base CX' k f fdt ps (spG K fd) ∧ mg x = some (.ref f) ∧ PySem.W.keepIn K (.ref f) = true ∧ KBinds K fdt ps ks (gK n m) (gK n m)
theorem kbinds_of {K : PySem.W.Frag} {fdt : FuncData} {ps ks : List Str} {n m : Nat} (hp : 0 < ps.length) (h : ∀ us ws : List Value, us.length = n → ws.length = m → bindArgs fdt ⟨us, ks.zip ws⟩ = pure (ps.zip (us ++ ws))) : KBinds K fdt ps ks (gK n m) (gK n m) := by
  refine ⟨fun s us ws _ hl => ?_, fun {vs us zs ws} r1 r2 => ?_⟩
  · unfold gK at hl ⊢
    split
    · rename_i hc
      exact .of_eq (h us ws hc.1 hc.2)
    · rename_i hc
      rw [if_neg hc] at hl
      simp at hl
      omega
  · unfold gK
    rw [r1.length, r2.length]
    split
    · exact r1.append r2
    · exact .nil
def dcallKN (n : Nat) (m : Bool) (f : NF) (Er : ErrK) (a b : DA) : DE := fun δ M Q => a δ M fun xs M1 => b δ M1 fun ys M2 => f ((xs ++ ys).map (vw m0 M2 n)) (fun zs => newl m zs M2 Q) fun C ns ys => Er C ns ys M2
theorem pd_cKN (n : Nat) (m : Bool) {g : NF} {CX' : CXT} {Er : ErrK} {E : XK} {ps ks : List Str} {i j : Nat} {kws : List Keyword} (hmono : MonoN g) (C : CalK Y.prog Y.w Y.K Y.mg Y.base CX' x k ps ks i j (NFd g)) (hr : Room k Y.A) (hx : Passes CX' Y E) (hW : ∀ N, W N → WE Y.K E Er N)
    (ha : PAD Y W (e :: es) dr) (hkw : PKD Y W kws dk) (hn1 : ∀ δ M Q, dr δ M Q → dr δ M fun xs M1 => xs.length = i ∧ Q xs M1) (hn2 : ∀ δ M Q, dk δ M Q → dk δ M fun xs M1 => xs.length = j ∧ Q xs M1) (hg : Gl Y x := by rfl) (hall : (backToKw pos (keywordEach kws Y.env)).all (·.1.isSome) = true := by rfl) (hks : (backToKw pos (keywordEach kws Y.env)).filterMap (·.1) = ks := by rfl)
    (hdb : (x == ("__debug__" : Str)) = false := by decide) (he : starEach (e :: es) Y.env = (false, eval e Y.env) :: starEach es Y.env := by rfl)
    (hpl : ((backTo pos (starEach (e :: es) Y.env)).any (·.1) || (backToKw pos (keywordEach kws Y.env)).any (·.1.isNone)) = false := by rfl) :
    PD Y W (.Call (.Name x p) (e :: es) kws pos) (dcallKN n m g Er dr dk) := by
  obtain ⟨f, fdt, F, hm, hk, hb⟩ := C.ex
  obtain ⟨t, h1, s1⟩ := ha.ex
  obtain ⟨u, h2, s2⟩ := hkw.ex
  refine ⟨_, pe_callK F hr hg hm hk hb hx h1 h2 hall hks hdb he hpl, fun N O M δ σ H Q Qd w S L h kk => ?_⟩
  refine s1 N O M δ σ H _ _ w S L (hn1 _ _ _ h) fun O1 M1 H1 xs vs n1 r1 h => s2 N O1 M1 δ σ H1 _ _ w n1.st (n1.sl L) (hn2 _ _ _ h.2) fun O2 M2 H2 ys us n2 r2 h2 => ?_
  have l1 := r1.len
  have l2 := r2.len
  have e1 : gK i j vs us = vs ++ us := by
    unfold gK
    rw [if_pos ⟨by rw [l1]; exact h.1, by rw [l2]; exact h2.1⟩]
  show spG Y.K (NFd g) (gK i j vs us) H2 Q E
  rw [e1]
  exact sp_callN (xs := xs ++ ys) hmono (hW N w) n2.st ((n2.rpa r1).append r2) h2.2 fun O' M' H' y v n3 r q => kk O' M' H' y v ((n1.trans n2).trans n3) r q
end
/-! ### try: f(..) except C as e: .. -/
/-- what a suite knows of the exception that it holds -/
def WXs (K : PySem.W.Frag) (d : Option Addr) (ns : List Str) (ys : List X) (N : Ent) : Prop := match ns with
  | [] => ys = []
  | _ => ∃ dd vs, d = some dd ∧ N.C0 dd = some (.xd (ns.zip vs)) ∧ ns.length = vs.length ∧ RpA K N.O0 N.B0 ys vs
/-- e.f, e the exception at a, its class C -/
def dxfE (K : PySem.W.Frag) (a C : Addr) (ns : List Str) (ys : List X) (f : Str) (d : DE) : DE := fun δ M Q => d δ M fun x M1 => x = .ref a ∧ XfC K C ∧ PySem.W.findIn K (.ref C) f = some none ∧ ns.length = ys.length ∧ ∃ y, (ns.zip ys).lookup f = some y ∧ Q y M1
/-- isinstance(e, cv) -/
def disE (K : PySem.W.Frag) (a C : Addr) (ns : List Str) (cv : Value) (d : DE) : DE := fun δ M Q => d δ M fun x M1 => x = .ref a ∧ ns ≠ [] ∧ XiC K C ∧ ∃ b, PySem.W.kitOne K (.ref C) cv = some b ∧ Q (.bl b) M1
def dtry (K : PySem.W.Frag) (c : Value) (G : Addr → List Str → List X → Prop) (i n : Nat) (g : PF) (a : DA) (ds : Addr → Addr → List Str → List X → DS) : DS := fun DD δ M => a δ M fun xs M1 => g (xs.map (vw m0 M1 n)) (fun _ => DD.nx δ M1)
  fun C ns ys => PySem.W.exmOne K (.ref C) c = some true ∧ G C ns ys ∧ ∀ a, ds a C ns ys { nx := fun δ' M' => DD.nx (δ'.set i none) M', rt := DD.rt, bk := fun δ' M' => DD.bk (δ'.set i none) M', ct := fun δ' M' => DD.ct (δ'.set i none) M' } (δ.set i (some (.ref a))) M1
section
variable {Y : Cx} {W : Ent → Prop} {K : PySem.W.Frag} {e : Expr} {es : List Expr} {x n f : Str} {p pos pos' pos2 : Pos} {d de : DE} {dr : DA} {k : Nat} {a C : Addr} {ns : List Str} {ys : List X} {od : Option Addr}
theorem wxs_xd {N : Ent} {O H : Hp} {M : Mu} (w : WXs K od ns ys N) (hn : ns ≠ []) (S : Stt K N O M H) : ∃ dd vs, od = some dd ∧ H dd = some (.xd (ns.zip vs)) ∧ ns.length = vs.length ∧ RpA K O N.B0 ys vs := by
  cases ns with
  | nil => exact absurd rfl hn
  | cons m ms =>
    obtain ⟨dd, vs, e1, e2, e3, r⟩ := w
    exact ⟨dd, vs, e1, fz_sub _ _ (S.c0 _ _ e2), e3, r.mono S.o0 (Ex.refl _)⟩
theorem pd_xfE {oe : Obj} {pn : List (Addr × Obj)} (hz : Zc (.ref C) od oe) (hf : ∃ vs, oe.data = .fields vs) (he : PD (Y.suite a ((a, oe) :: pn)) (WXs Y.K od ns ys) e d)
    (T : ∀ Q : Prop, (XfC Y.K C → PySem.W.findIn Y.K (.ref C) f = some none → Q) → Q) (hb : attributeBase e f Y.env (eval e Y.env) = eval e Y.env := by rfl) :
    PD (Y.suite a ((a, oe) :: pn)) (WXs Y.K od ns ys) (.Attribute e f pos) (dxfE Y.K a C ns ys f d) := by
  refine T _ fun T1 T2 => ?_
  obtain ⟨t, h1, s1⟩ := he.ex
  refine ⟨_, pe_xf (d := od) T1 T2 hz hf h1 hb, fun N O M δ σ H Q Qd w S L h kk => s1 N O M δ σ H _ _ w S L h fun O1 M1 H1 x v n1 r1 h => ?_⟩
  obtain ⟨rfl, _, _, hl, y, ly, h⟩ := h
  have hn : ns ≠ [] := fun z => by subst z; cases ly
  obtain ⟨dd, vs, e1, e2, e3, rr⟩ := wxs_xd w hn n1.st
  obtain ⟨u, lu, ru⟩ := lookup_zip rr ly
  refine ⟨by simpa only [Rp] using r1, rfl, dd, _, u, e1, e2, lu, kk _ _ _ y u n1 ru h⟩
theorem pd_isE {oe : Obj} {pn : List (Addr × Obj)} {D : Addr} {p1 p2 : Pos} (hz : Zc (.ref C) od oe) (hf : ∃ vs, oe.data = .fields vs) (hod : od.isSome) (T : XiC Y.K C) (he : PD (Y.suite a ((a, oe) :: pn)) (WXs Y.K od ns ys) e d) (hm : Y.mg "isinstance" = none) (hD : Y.mg x = some (.ref D))
    (hg : Gl Y "isinstance" := by rfl) (hgx : Gl Y x := by rfl) (hdb : (x == ("__debug__" : Str)) = false := by decide)
    (hs : starEach [e, .Name x p1] Y.env = (false, eval e Y.env) :: starEach [.Name x p1] Y.env := by rfl) (hpl : (backTo pos (starEach [.Name x p1] Y.env)).any (·.1) = false := by rfl) (hs2 : starEach [.Name x p1] Y.env = (false, eval (.Name x p1) Y.env) :: starEach [] Y.env := by rfl) :
    PD (Y.suite a ((a, oe) :: pn)) (WXs Y.K od ns ys) (.Call (.Name "isinstance" p2) [e, .Name x p1] [] pos) (disE Y.K a C ns (.ref D) d) := by
  obtain ⟨t, h1, s1⟩ := he.ex
  obtain ⟨dd, rfl⟩ := Option.isSome_iff_exists.mp hod
  refine ⟨_, pe_callB (X := Y.suite a ((a, oe) :: pn)) (call_isE2 (X := Y) T hz hf) hg hm (by first | rfl | kernel_rfl) (pa_cons h1 (pa_cons (pe_glob (X := Y.suite a ((a, oe) :: pn)) (v := .ref D) hgx hD rfl hdb) pa_nil hs2) hs) (by decide) (by decide) hs hpl, fun N O M δ σ H Q Qd w S L h kk => s1 N O M δ σ H _ _ w S L h fun O1 M1 H1 x v n1 r1 h => ?_⟩
  obtain ⟨rfl, hn, _, b, eb, h⟩ := h
  obtain ⟨dd', vs, e1, e2, e3, rr⟩ := wxs_xd w hn n1.st
  cases e1
  have rv : v = .ref a := by simpa only [Rp] using r1
  exact ⟨.ref D, .ref D, b, _, by rw [rv], fun u r => r, e2, eb, kk O1 M1 H1 _ _ n1 (by simp only [Rp]) h⟩
theorem psd_try {gm : Bool} {pos3 : Pos} {i m : Nat} {G : Addr → List Str → List X → Prop} {c : Value} {cn : Str} {np : Pos} {b₀ : Stmt} {rest : List Stmt} {ps : List Str} {g : PF} {ds : Addr → Addr → List Str → List X → DS} {Wout : WX} (hs : Y.stack = Y.env :: Y.outer) (hf : Y.env.frame = some Y.env.locals) (hN : Y.N.Nodup) (hi : Y.N[i]? = some n) (hln : Y.env.kindOf n = some .local) (hc : Names Y cn c) (tk : Takes Y Wout)
    (T : Cal gm Y.prog Y.w Y.K Y.mg Y.base (L2.CX Y.prog Y.w) x k ps (PFd g)) (hr : RoomG gm k Y.A) (hg : Gl Y x) (hdb : (x == ("__debug__" : Str)) = false)
    (ha : ∀ (pn : List (Addr × Obj)) (xe : Value → Shared → Prop), PAD (Y.tr pn xe) W0 (e :: es) dr) (he : starEach (e :: es) Y.env = (false, eval e Y.env) :: starEach es Y.env) (hpl : (backTo pos (starEach es Y.env)).any (·.1) = false)
    (hsw : swapsWith (.Call (.Name x p) (e :: es) [] pos) none pos2.line Y.env = pure false)
    (hsu : ∀ (a C : Addr) (ns : List Str) (ys : List X) (oe : Obj) (od : Option Addr) (pn : List (Addr × Obj)), G C ns ys → (ns ≠ [] → od.isSome) → Zc (.ref C) od oe → (∃ vs, oe.data = .fields vs) → PSsD (Y.suite a ((a, oe) :: pn)) (WXs Y.K od ns ys) (b₀ :: rest) (ds a C ns ys)) :
    PSD Y W0 (.Try [.Expr (.Call (.Name x p) (e :: es) [] pos) pos2] [.ExceptHandler (some (.Name cn np)) (some n) (b₀ :: rest) pos'] [] [] pos3) (dtry Y.K c G i m g dr ds) := by
  obtain ⟨fa, fdt, F, hm, hk, hb⟩ := T.ex
  let tA : TA := fun σ H Q => ∀ (pn : List (Addr × Obj)) (xe : Value → Shared → Prop), ∃ t, PA (Y.tr pn xe) (e :: es) t ∧ t σ H Q
  have hA : ∀ pn xe, PA (Y.tr pn xe) (e :: es) tA := fun pn xe => ⟨fun pos pins s σ H Q I h => by
    obtain ⟨t, h1, h2⟩ := h pn xe
    exact h1.run pos pins s σ H Q I h2⟩
  have sA : SndA Y.K W0 tA dr := fun N O M δ σ H Q Qd w S L h k => fun pn xe => by
    obtain ⟨t, h1, s1⟩ := (ha pn xe).ex
    exact ⟨t, h1, s1 N O M δ σ H Q Qd w S L h k⟩
  let ts : Addr → Value → Option Addr → TS := fun a cls od D σ H => ∀ (C : Addr) (oe : Obj) (pn : List (Addr × Obj)), cls = .ref C → Zc cls od oe → (∃ vs, oe.data = .fields vs) → ∃ t, PSs (Y.suite a ((a, oe) :: pn)) (b₀ :: rest) t ∧ t D σ H
  have isRef : ∀ (cls : Value), (∃ C, cls = Value.ref C) ∨ ¬ ∃ C, cls = Value.ref C := fun cls => Classical.em _
  let tb : WX → TS := fun W D σ H => tCallSD (spG Y.K (PFd g)) [] (L2.WE W) tA σ H fun _ H' => D.nx σ H'
  let ts2 : Addr → Value → Option Addr → TS := fun a cls od D σ H => (∃ C, cls = Value.ref C) ∧ ts a cls od D σ H
  refine ⟨_, ps_try_as (tb := tb) (ts := ts2) (Wout := Wout) hs hf hN hi hln hc tk (fun W pn xe tk2 _ => pss_one (ps_expr (te := tCallSD (spG Y.K (PFd g)) [] (L2.WE W) tA) ?_ hsw)) (fun a oe cls d pn hz hf2 => ⟨fun pins s σ H D I h => ?_⟩), fun N D DD w CC O M δ σ H S L h => ?_⟩
  · refine ⟨fun pins s σ H Q I h => ?_⟩
    refine wpAny_Call_Name_kw (ld_glob (X := Y.tr pn xe) I hg hm ?_ hdb)
    refine PySem.W.callWith_K (h₀ := Y.base) I.ok.mod.kin hk (thn ((hA pn xe).run pos pins s σ H _ I h) fun us s1 ⟨vs, H1, I1, r, q⟩ => ⟨I1.kIn, ?_⟩) he hpl
    have q : spG Y.K (PFd g) (vs ++ []) H1 Q (L2.WE W σ) := q
    rw [List.append_nil] at q
    have hl : us.length = ps.length := by rw [← r.length]; exact F.len _ _ _ _ q
    have hbb := hb s1 us I1.kIn (by simpa using hl)
    rw [List.append_nil] at hbb
    refine wpAny_call (codeAny_mono (F.run Y.A Y.stack s1 H1 ⟨us, []⟩ us vs Q _ hr I1.env0 hbb r q) fun r s' hq => ?_)
    cases r with
    | error e => exact passAt tk2 σ pins H1 s1 e s' I1 hq
    | ok fl =>
      cases fl with
      | ret u => exact I1.after hq
      | next => exact False.elim hq
      | brk => exact False.elim hq
      | cont => exact False.elim hq
  · obtain ⟨⟨C, rfl⟩, h⟩ := h
    obtain ⟨t, h1, h2⟩ := h C oe pn rfl hz hf2
    exact h1.run pins s σ H D I h2
  · refine sA N O M δ σ H _ _ w S L h fun O1 M1 H1 xs vs n1 r1 h => ?_
    show spG Y.K (PFd g) (vs ++ []) H1 _ _
    rw [List.append_nil]
    have S1 : Stt Y.K (N.at O1) O1 M1 H1 := n1.st.to (Ex.refl _) n1.st
    have L1 := n1.sl L
    refine sp_callP (N := N.at O1) (Er := fun C ns ys M2 => PySem.W.exmOne Y.K (.ref C) c = some true ∧ G C ns ys ∧ ∀ a, ds a C ns ys { nx := fun δ' M' => DD.nx (δ'.set i none) M', rt := DD.rt, bk := fun δ' M' => DD.bk (δ'.set i none) M', ct := fun δ' M' => DD.ct (δ'.set i none) M' } (δ.set i (some (.ref a))) M2)
      (Qd := fun _ M2 => DD.nx δ M2) ?_ S1 r1 h fun O' M' H' y v n2 r q => CC.nx O' M' δ σ H' (n2.st.un n1.st) (L1.mono n2.eo (Ex.refl _)) q
    intro O2 M2 H2 C od ns ys S2 r2 hE
    refine ⟨true, hE.1, fun _ a ha => ⟨⟨C, rfl⟩, fun C' oe pn eC hz hf2 => ?_⟩, fun z => nomatch z⟩
    cases eC
    have hod : ns ≠ [] → od.isSome := fun hn => by
      cases ns with
      | nil => exact absurd rfl hn
      | cons m ms => obtain ⟨dd, vs, rfl, _⟩ := r2; rfl
    obtain ⟨t, h1, s1⟩ := (hsu a C ns ys oe od pn hE.2.1 hod hz hf2).ex
    refine ⟨t, h1, s1 ((N.at O1).inn O2 M2 H2) _ _ ?_ ?_ O2 M2 _ _ H2 S2.inn ((L1.mono S2.o0 (Ex.refl _)).set (x := .ref a) (by simp only [Rp]) i) (hE.2.2 a)⟩
    · cases ns with
      | nil => exact r2
      | cons m ms =>
        obtain ⟨dd, vs, e1, e2, e3, rr⟩ := r2
        refine ⟨dd, vs, e1, ?_, e3, rr⟩
        show fz H2 M2 dd = _
        rw [fz_of, e2]
        cases em : M2 dd with
        | none => rfl
        | some cc =>
          obtain ⟨o, q, mu⟩ := (S2.cl dd cc em).there
          rw [e2] at q; cases q; exact mu.elim
    · refine ⟨fun O3 M3 δ3 σ3 H3 S3 L3 q => ?_, fun O3 M3 H3 x v S3 r3 q => ?_, fun O3 M3 δ3 σ3 H3 S3 L3 q => ?_, fun O3 M3 δ3 σ3 H3 S3 L3 q => ?_⟩
      · exact CC.nx O3 M3 _ _ H3 ((S3.out S2).un n1.st) (Sl.wipe1 i L3) q
      · exact CC.rt O3 M3 H3 x v ((S3.out S2).un n1.st) r3 q
      · exact CC.bk O3 M3 _ _ H3 ((S3.out S2).un n1.st) (Sl.wipe1 i L3) q
      · exact CC.ct O3 M3 _ _ H3 ((S3.out S2).un n1.st) (Sl.wipe1 i L3) q
end
end DL

/-! MFa: graphs, walks, imbalances: plain Lean. -/
namespace Fl
abbrev E2 := Nat × Nat
abbrev St := Nat × Bool
def tl (ps : List E2) (e : Nat) : Nat := (ps.getD e (0, 0)).1
def hd (ps : List E2) (e : Nat) : Nat := (ps.getD e (0, 0)).2
def bg (ps : List E2) (s : St) : Nat := if s.2 then tl ps s.1 else hd ps s.1
def en (ps : List E2) (s : St) : Nat := if s.2 then hd ps s.1 else tl ps s.1
def sg (b : Bool) : Int := if b then 1 else -1
def WF (n : Nat) (ps : List E2) : Prop := ∀ p ∈ ps, p.1 < n ∧ p.2 < n
theorem WF.tl {n : Nat} {ps : List E2} (h : WF n ps) {e : Nat} (he : e < ps.length) : tl ps e < n := by
  unfold Fl.tl
  rw [List.getD_eq_getElem?_getD, List.getElem?_eq_getElem he]
  exact (h _ (List.getElem_mem he)).1
theorem WF.hd {n : Nat} {ps : List E2} (h : WF n ps) {e : Nat} (he : e < ps.length) : hd ps e < n := by
  unfold Fl.hd
  rw [List.getD_eq_getElem?_getD, List.getElem?_eq_getElem he]
  exact (h _ (List.getElem_mem he)).2
theorem WF.bg {n : Nat} {ps : List E2} (h : WF n ps) {s : St} (he : s.1 < ps.length) : bg ps s < n := by
  unfold Fl.bg; split
  · exact h.tl he
  · exact h.hd he
theorem WF.en {n : Nat} {ps : List E2} (h : WF n ps) {s : St} (he : s.1 < ps.length) : en ps s < n := by
  unfold Fl.en; split
  · exact h.hd he
  · exact h.tl he
/-! ### sums -/
def sumN (f : Nat → Int) : Nat → Int
  | 0 => 0
  | k + 1 => sumN f k + f k
theorem sumN_congr {f g : Nat → Int} : ∀ {n : Nat}, (∀ i, i < n → f i = g i) → sumN f n = sumN g n
  | 0, _ => rfl
  | n + 1, h => by
    unfold sumN
    rw [sumN_congr (n := n) fun i hi => h i (Nat.lt_succ_of_lt hi), h n (Nat.lt_succ_self n)]
theorem sumN_add (f g : Nat → Int) : ∀ n : Nat, sumN (fun i => f i + g i) n = sumN f n + sumN g n
  | 0 => rfl
  | n + 1 => by
    unfold sumN
    rw [sumN_add f g n]
    omega
theorem sumN_mul (c : Int) (f : Nat → Int) : ∀ n : Nat, sumN (fun i => c * f i) n = c * sumN f n
  | 0 => by simp [sumN]
  | n + 1 => by
    unfold sumN
    rw [sumN_mul c f n, Int.mul_add]
theorem sumN_zero : ∀ n : Nat, sumN (fun _ => 0) n = 0
  | 0 => rfl
  | n + 1 => by unfold sumN; rw [sumN_zero n]; rfl
theorem sumN_swap (f : Nat → Nat → Int) (n : Nat) : ∀ m : Nat, sumN (fun v => sumN (fun e => f v e) m) n = sumN (fun e => sumN (fun v => f v e) n) m
  | 0 => by simp only [sumN]; exact sumN_zero n
  | m + 1 => by
    simp only [sumN]
    rw [sumN_add, sumN_swap f n m]
theorem sumN_le {f : Nat → Int} : ∀ {n : Nat}, (∀ i, i < n → f i ≤ 0) → sumN f n ≤ 0
  | 0, _ => Int.le_refl _
  | n + 1, h => by
    have h1 := sumN_le (n := n) fun i hi => h i (Nat.lt_succ_of_lt hi)
    have h2 := h n (Nat.lt_succ_self n)
    unfold sumN
    omega
theorem sumN_nonneg {f : Nat → Int} : ∀ {n : Nat}, (∀ i, i < n → 0 ≤ f i) → 0 ≤ sumN f n
  | 0, _ => Int.le_refl _
  | n + 1, h => by
    have h1 := sumN_nonneg (n := n) fun i hi => h i (Nat.lt_succ_of_lt hi)
    have h2 := h n (Nat.lt_succ_self n)
    unfold sumN
    omega
theorem sumN_pos {f : Nat → Int} : ∀ {n : Nat} {j : Nat}, j < n → (∀ i, i < n → 0 ≤ f i) → 0 < f j → 0 < sumN f n
  | 0, _, h, _, _ => absurd h (Nat.not_lt_zero _)
  | n + 1, j, h, h0, hj => by
    unfold sumN
    by_cases e : j = n
    · have h1 := sumN_nonneg (n := n) fun i hi => h0 i (Nat.lt_succ_of_lt hi)
      rw [e] at hj
      omega
    · have h1 := sumN_pos (n := n) (j := j) (by omega) (fun i hi => h0 i (Nat.lt_succ_of_lt hi)) hj
      have h2 := h0 n (Nat.lt_succ_self n)
      omega
theorem sumN_all0 {f : Nat → Int} {n : Nat} (h0 : ∀ i, i < n → f i ≤ 0) (hs : sumN f n = 0) : ∀ j, j < n → f j = 0 := fun j hj => by
  have h1 := h0 j hj
  by_cases e : f j = 0
  · exact e
  · have h2 := sumN_pos (f := fun i => -1 * f i) hj (fun i hi => by have := h0 i hi; omega) (by omega)
    rw [sumN_mul, hs] at h2
    omega
/-- one place of a sum changed -/
theorem sumN_upd {f g : Nat → Int} {j : Nat} {d : Int} (hj : ∀ i, i ≠ j → g i = f i) (hd : g j = f j + d) : ∀ n : Nat, sumN g n = sumN f n + (if j < n then d else 0)
  | 0 => by simp [sumN]
  | n + 1 => by
    unfold sumN
    rw [sumN_upd hj hd n]
    by_cases e : n = j
    · subst e
      rw [hd, if_neg (Nat.lt_irrefl _), if_pos (Nat.lt_succ_self _)]
      omega
    · rw [hj n e]
      by_cases h : j < n
      · rw [if_pos h, if_pos (by omega)]; omega
      · rw [if_neg h, if_neg (by omega)]; omega
def dl (a b : Nat) : Int := if a = b then 1 else 0
def iv (b : Bool) : Int := if b then 1 else 0
theorem sum_dl (S : Nat → Bool) (h : Nat) : ∀ n : Nat, sumN (fun v => iv (S v) * dl h v) n = if h < n then iv (S h) else 0
  | 0 => by simp [sumN]
  | n + 1 => by
    unfold sumN
    rw [sum_dl S h n]
    unfold dl
    by_cases e : h = n
    · subst e
      rw [if_neg (Nat.lt_irrefl _), if_pos rfl, if_pos (Nat.lt_succ_self _)]
      omega
    · rw [if_neg e]
      by_cases h1 : h < n
      · rw [if_pos h1, if_pos (by omega)]; omega
      · rw [if_neg h1, if_neg (by omega)]; omega
/-! ### imbalances -/
def imb (ps : List E2) (a : Nat → Int) (v : Nat) : Int := sumN (fun e => a e * (dl (hd ps e) v - dl (tl ps e) v)) ps.length
/-- what comes into a set of vertices -/
theorem cut {n : Nat} {ps : List E2} (h : WF n ps) (a : Nat → Int) (S : Nat → Bool) : sumN (fun v => iv (S v) * imb ps a v) n = sumN (fun e => a e * (iv (S (hd ps e)) - iv (S (tl ps e)))) ps.length := by
  have e1 : sumN (fun v => iv (S v) * imb ps a v) n = sumN (fun v => sumN (fun e => a e * (iv (S v) * dl (hd ps e) v + -1 * (iv (S v) * dl (tl ps e) v))) ps.length) n := by
    refine sumN_congr fun v _ => ?_
    unfold imb
    rw [← sumN_mul]
    refine sumN_congr fun e _ => ?_
    rw [Int.mul_left_comm]
    congr 1
    rw [Int.mul_sub]
    omega
  rw [e1, sumN_swap]
  refine sumN_congr fun e he => ?_
  rw [sumN_mul, sumN_add, sumN_mul, sum_dl, sum_dl, if_pos (h.hd he), if_pos (h.tl he)]
  congr 1
  omega
theorem sum_imb {n : Nat} {ps : List E2} (h : WF n ps) (a : Nat → Int) : sumN (imb ps a) n = 0 := by
  have e := cut h a fun _ => true
  have e1 : sumN (fun v => iv true * imb ps a v) n = sumN (imb ps a) n := sumN_congr fun v _ => by simp [iv]
  have e2 : sumN (fun e => a e * (iv true - iv true)) ps.length = 0 := by
    rw [← sumN_zero ps.length]
    exact sumN_congr fun v _ => by simp [iv]
  rw [e1, e2] at e
  exact e
/-! ### steps that change amounts -/
def mayC (a : Nat → Int) (s : St) : Prop := if s.2 then a s.1 < 0 else 0 < a s.1
/-- from a vertex with too much there is a way to one with too little -/
theorem way {n : Nat} {ps : List E2} (h : WF n ps) {a : Nat → Int} {S : Nat → Bool} {u : Nat} (hu : u < n) (Su : S u = true) (pos : 0 < imb ps a u) (cl : ∀ s : St, s.1 < ps.length → mayC a s → S (bg ps s) = true → S (en ps s) = true) :
    ∃ v, v < n ∧ S v = true ∧ imb ps a v < 0 := by
  refine Classical.byContradiction fun no => ?_
  have nn : ∀ v, v < n → 0 ≤ iv (S v) * imb ps a v := fun v hv => by
    unfold iv
    cases e : S v with
    | false => simp
    | true =>
      simp only [if_true, Int.one_mul]
      refine Int.not_lt.mp fun hlt => no ⟨v, hv, e, hlt⟩
  have p1 : 0 < sumN (fun v => iv (S v) * imb ps a v) n := sumN_pos hu nn (by simp [iv, Su, pos])
  rw [cut h] at p1
  have p2 : sumN (fun e => a e * (iv (S (hd ps e)) - iv (S (tl ps e)))) ps.length ≤ 0 := by
    refine sumN_le fun e he => ?_
    have c1 := cl (e, true) he
    have c2 := cl (e, false) he
    simp only [mayC, bg, en, if_true, if_false, Bool.false_eq_true] at c1 c2
    unfold iv
    cases e1 : S (hd ps e) <;> cases e2 : S (tl ps e) <;> simp
    · have : ¬ a e < 0 := fun z => by rw [c1 z e2] at e1; cases e1
      omega
    · have : ¬ 0 < a e := fun z => by rw [c2 z e1] at e2; cases e2
      omega
  omega
def app (k : Int) (a : Nat → Int) (s : St) : Nat → Int := fun e => if e = s.1 then a e + sg s.2 * k else a e
theorem imb_app {ps : List E2} {a : Nat → Int} {k : Int} {s : St} (hs : s.1 < ps.length) (v : Nat) : imb ps (app k a s) v = imb ps a v + k * (dl (en ps s) v - dl (bg ps s) v) := by
  unfold imb
  rw [sumN_upd (f := fun e => a e * (dl (hd ps e) v - dl (tl ps e) v)) (j := s.1) (d := sg s.2 * k * (dl (hd ps s.1) v - dl (tl ps s.1) v)) (fun i hi => by unfold app; rw [if_neg hi]) (by unfold app; rw [if_pos rfl, Int.add_mul]), if_pos hs]
  congr 1
  unfold sg en bg
  cases s.2 with
  | true => simp
  | false =>
    simp only [Bool.false_eq_true, if_false]
    rw [Int.neg_mul, Int.one_mul, Int.neg_mul, ← Int.mul_neg]
    congr 1
    omega
/-! ### walks -/
def Wk (ps : List E2) : Nat → List St → Nat → Prop
  | u, [], w => u = w
  | u, s :: r, w => bg ps s = u ∧ s.1 < ps.length ∧ Wk ps (en ps s) r w
theorem Wk.append {ps : List E2} : ∀ {p q : List St} {u v w : Nat}, Wk ps u p v → Wk ps v q w → Wk ps u (p ++ q) w
  | [], _, _, _, _, h, k => by cases h; exact k
  | s :: p, q, _, _, _, h, k => ⟨h.1, h.2.1, Wk.append h.2.2 k⟩
theorem Wk.of_append {ps : List E2} : ∀ {p q : List St} {u w : Nat}, Wk ps u (p ++ q) w → ∃ v, Wk ps u p v ∧ Wk ps v q w
  | [], _, u, _, h => ⟨u, rfl, h⟩
  | s :: p, q, _, _, h => by
    obtain ⟨v, a, b⟩ := Wk.of_append (p := p) h.2.2
    exact ⟨v, ⟨h.1, h.2.1, a⟩, b⟩
theorem imb_walk {ps : List E2} {k : Int} : ∀ {p : List St} {a : Nat → Int} {u w : Nat}, Wk ps u p w → ∀ v, imb ps (p.foldl (app k) a) v = imb ps a v + k * (dl w v - dl u v)
  | [], a, u, w, h, v => by
    cases h
    simp
  | s :: p, a, u, w, h, v => by
    obtain ⟨rfl, hs, h⟩ := h
    rw [List.foldl_cons, imb_walk h v, imb_app hs v, Int.add_assoc, ← Int.mul_add]
    congr 2
    omega
/-- amounts stay in their residues -/
def inR (m : Nat) (r : Nat → Int) (a : Nat → Int) : Prop := ∀ e, e < m → (r e = 1 ∨ r e = 2) ∧ (a e = r e ∨ a e = r e - 3)
theorem inR_app {m : Nat} {r : Nat → Int} : ∀ {p : List St} {a : Nat → Int}, inR m r a → (p.map (·.1)).Nodup → (∀ s ∈ p, mayC a s) → inR m r (p.foldl (app 3) a)
  | [], _, h, _, _ => h
  | s :: p, a, h, nd, al => by
    rw [List.map_cons, List.nodup_cons] at nd
    rw [List.foldl_cons]
    refine inR_app (fun e he => ?_) nd.2 fun t ht => ?_
    · have hs := al s List.mem_cons_self
      unfold app
      refine ⟨(h e he).1, ?_⟩
      split
      · rename_i e1
        have h1 := h e he
        unfold mayC at hs
        rw [← e1] at hs
        unfold sg
        split at hs
        · rename_i b; rw [b]; simp only [if_true]; omega
        · rename_i b; rw [if_neg b]; omega
      · exact (h e he).2
    · have ht' := al t (List.mem_cons_of_mem _ ht)
      have hne : t.1 ≠ s.1 := fun z => nd.1 (by rw [← z]; exact List.mem_map.mpr ⟨t, ht, rfl⟩)
      unfold mayC app at *
      rw [if_neg hne]
      exact ht'
theorem Wk.det {ps : List E2} : ∀ {p : List St} {u v w : Nat}, Wk ps u p v → Wk ps u p w → v = w
  | [], _, _, _, h, k => h.symm.trans k
  | _ :: _, _, _, _, h, k => Wk.det h.2.2 k.2.2
end Fl

set_option maxRecDepth 100000
set_option maxHeartbeats 2000000
/-! GRf: list(range(n)), xs[::-1], methods by their defs, the data of a Graph. -/
namespace DL
open PySem PySem.Spec PyProof.Rows L2
section
variable {Y : Cx} {W : Ent → Prop} {K : PySem.W.Frag} {e a : Expr} {es : List Expr} {x : Str} {p p2 q pos : Pos} {d de : DE} {dr dk : DA} {k : Nat}
def dlistRg (m : Bool) (d : DE) : DE := fun δ M Q => d δ M fun x M1 => match x with
  | .int i => 0 ≤ i ∧ i ≤ 1000000 ∧ newl m ((List.range i.toNat).map fun j => .int (j : Nat)) M1 Q
  | _ => False
theorem rpa_rng {O B : Hp} : ∀ (n : Nat), RpA K O B ((List.range n).map fun j => DL.X.int (j : Nat)) ((List.range n).map fun j => V.int (j : Nat)) := fun n => by
  have h : ∀ l : List Nat, RpA K O B (l.map fun j => DL.X.int (j : Nat)) (l.map fun j => V.int (j : Nat)) := fun l => by
    induction l with
    | nil => exact RpA.nil
    | cons a l ih => exact RpA.cons (by simp only [Rp]) ih
  exact h _
theorem rgV0 {n : Int} (h : 0 ≤ n) : rgV 0 n = (List.range n.toNat).map fun j => V.int (j : Nat) := by
  unfold rgV
  rw [Int.sub_zero]
  refine List.map_congr_left fun j _ => ?_
  simp
theorem pd_listrange (m : Bool) (hc : Y.calm = true) (hm : Y.mg "list" = none) (hm2 : Y.mg "range" = none) (ha : PD Y W a d) (hg : Gl Y "list" := by rfl) (hg2 : Gl Y "range" := by rfl)
    (na : starEach [.Call (.Name "range" p2) [a] [] q] Y.env = (false, eval (.Call (.Name "range" p2) [a] [] q) Y.env) :: starEach [] Y.env := by rfl) (na2 : starEach [a] Y.env = (false, eval a Y.env) :: starEach [] Y.env := by rfl) :
    PD Y W (.Call (.Name "list" p) [.Call (.Name "range" p2) [a] [] q] [] pos) (dlistRg m d) := by
  obtain ⟨t, h1, s1⟩ := ha.ex
  refine ⟨_, pe_listRg hc hg hm (prg_1 hg2 hm2 h1 na2) na, fun N O M δ σ H Q Qd w S L h kk => s1 N O M δ σ H _ _ w S L h fun O1 M1 H1 x v n1 r1 h => ?_⟩
  split at h
  · rename_i i
    obtain ⟨h0, h1, h⟩ := h
    have rv : v = .int i := by simpa only [Rp] using r1
    refine ⟨i, rv, ?_⟩
    refine ⟨RgOk.of_le (by decide) (by omega) (by decide) (by omega), fun p hp => ?_⟩
    rw [rgV0 h0]
    exact newl_ok n1.st (rpa_rng i.toNat) h (fun O' M' H' x v n r q => kk O' M' H' x v (n1.trans n) r q) p hp
  · exact h.elim
def drev (m : Bool) (d : DE) : DE := fun δ M Q => d δ M fun x M1 => match lstOf M1 x with
  | some xs => newl m xs.reverse M1 Q
  | none => False
theorem pd_rev (m : Bool) {k : Nat} {p1 p2 p3 : Pos} (ha : PD Y W e d) : PD Y W (.Subscript e (.Slice none none (some (.UnaryOp .USub (.Constant (.int 1) k p1) p2)) p3) pos) (drev m d) := by
  obtain ⟨t, h1, s1⟩ := ha.ex
  refine ⟨_, pe_revL h1, fun N O M δ σ H Q Qd w S L h kk => s1 N O M δ σ H _ _ w S L h fun O1 M1 H1 x v n1 r1 h => ?_⟩
  split at h
  · rename_i xs ex
    obtain ⟨l, vs, e2, q2, r2⟩ := lstOf_ok n1.st r1 ex
    refine ⟨l, vs, e2, q2, fun p hp => ?_⟩
    exact newl_ok n1.st r2.reverse h (fun O' M' H' x v n r q => kk O' M' H' x v (n1.trans n) r q) p hp
  · exact h.elim
end
/-! ### methods by their defs -/
structure DefM (K : PySem.W.Frag) (C : Addr) (m q : Str) (st : Stmt) : Prop where
  ex : ∃ f fdt, Fun K m q st f fdt ∧ Meth K C m f
structure DefP (K : PySem.W.Frag) (C : Addr) (m q : Str) (st : Stmt) : Prop where
  ex : ∃ p f fdt, Fun K m q st f fdt ∧ PropOf K C m p f
structure DefI (K : PySem.W.Frag) (mg : Str → Option Value) (x : Str) (C : Addr) (q : Str) (st : Stmt) : Prop where
  ex : ∃ f fdt, Fun K "__init__" q st f fdt ∧ Mk K C f ∧ mg x = some (.ref C)
section
variable {P : Program} {w : World} {K : PySem.W.Frag} {mg : Str → Option Value} {base : Heap} {CX' : CXT} {C : Addr} {m q x : Str} {st : Stmt} {k : Nat} {ps : List Str} {fd : FD} {g : PF}
theorem CalM.mk' (D : DefM K C m q st) (c : Cls K C) (hb : ∀ (kV doc pm : Value) (an : Option Addr) (cdv ct : Value) (us : List Value), us.length = ps.length → bindArgs (PySem.W.fnOf m q (defArgs st) (defBody st) (defScope st) .none kV doc pm an cdv ct) ⟨us, []⟩ = pure (ps.zip us))
    (h : ∀ f fdt, Fun K m q st f fdt → FnOkG false P w K mg base CX' k f fdt ps (spG K fd)) : CalM P w K mg base CX' C m k ps fd := by
  obtain ⟨f, fdt, F, me⟩ := D.ex
  exact ⟨f, fdt, c, me, (h f fdt F).plain, F.binds hb⟩
theorem CalP.mk' (D : DefP K C m q st) (c : Cls K C) (hb : ∀ (kV doc pm : Value) (an : Option Addr) (cdv ct : Value) (us : List Value), us.length = 1 → bindArgs (PySem.W.fnOf m q (defArgs st) (defBody st) (defScope st) .none kV doc pm an cdv ct) ⟨us, []⟩ = pure ((["self"] : List Str).zip us))
    (h : ∀ f fdt, Fun K m q st f fdt → FnOkG false P w K mg base CX' k f fdt ["self"] (spG K (PFd g))) : CalP P w K mg base CX' C m k g := by
  obtain ⟨p, f, fdt, F, me⟩ := D.ex
  exact ⟨p, f, fdt, c, me, (h f fdt F).plain, F.binds hb⟩
theorem CalL.mk' (D : DefM K C "__len__" q st) (hb : ∀ (kV doc pm : Value) (an : Option Addr) (cdv ct : Value) (us : List Value), us.length = 1 → bindArgs (PySem.W.fnOf "__len__" q (defArgs st) (defBody st) (defScope st) .none kV doc pm an cdv ct) ⟨us, []⟩ = pure ((["self"] : List Str).zip us))
    (h : ∀ f fdt, Fun K "__len__" q st f fdt → FnOkG false P w K mg base CX' k f fdt ["self"] (spG K (PFd g))) : CalL P w K mg base CX' C k g := by
  obtain ⟨f, fdt, F, me⟩ := D.ex
  exact ⟨f, fdt, me.at_, me.fn, (h f fdt F).plain, F.binds hb⟩
theorem CalI.mk' (D : DefI K mg x C q st) (hmono : ∀ xs P P' E, (∀ y, P y → P' y) → g xs P E → g xs P' E) (hb : ∀ (kV doc pm : Value) (an : Option Addr) (cdv ct : Value) (us : List Value), us.length = (("self" : Str) :: ps).length → bindArgs (PySem.W.fnOf "__init__" q (defArgs st) (defBody st) (defScope st) .none kV doc pm an cdv ct) ⟨us, []⟩ = pure ((("self" : Str) :: ps).zip us))
    (h : ∀ f fdt, Fun K "__init__" q st f fdt → FnOkG false P w K mg base CX' k f fdt ("self" :: ps) (spG K (IFd C g))) : CalI P w K mg base CX' x k C ps g := by
  obtain ⟨f, fdt, F, me, hm⟩ := D.ex
  exact ⟨⟨f, fdt, me, (h f fdt F).plain, hm, F.binds hb⟩, hmono⟩
theorem CalIt.mk' {fl : Str} {p1 p2 p3 p4 p5 : Pos} (D : DefM K C "__iter__" q st) (c : Cls K C) (na : NoAttr K C fl) (hi : mg "iter" = none) {N : List Str} (S : FnScope N ["self"] (defScope st)) (hN : N[0]? = some ("self" : Str)) (gi : (defScope st).names.lookup ("iter" : Str) = some .globalImplicit)
    (hbody : defBody st = [.Return (some (.Call (.Name "iter" p1) [.Attribute (.Name "self" p2) fl p3] [] p4)) p5])
    (hb : ∀ (kV doc pm : Value) (an : Option Addr) (cdv ct : Value) (u : Value), bindArgs (PySem.W.fnOf "__iter__" q (defArgs st) (defBody st) (defScope st) .none kV doc pm an cdv ct) ⟨[u], []⟩ = pure [(("self" : Str), u)]) : CalIt P w K mg base C fl (k + 1) := by
  obtain ⟨f, fdt, F, me⟩ := D.ex
  obtain ⟨oc, od, kV, doc, pm, an, cdv, ct, osl, rfl, lk, hcd⟩ := F.ex
  exact ⟨f, me.at_, me.fn, fn_iter lk hcd S hN hbody (fun u => hb kV doc pm an cdv ct u) hi gi c na⟩
theorem CalK.mk' {ks : List Str} {n j : Nat} (D : Def K mg x st) (hp : 0 < ps.length) (hb : ∀ (kV doc pm : Value) (an : Option Addr) (cdv ct : Value) (us ws : List Value), us.length = n → ws.length = j → bindArgs (PySem.W.fnOf x x (defArgs st) (defBody st) (defScope st) .none kV doc pm an cdv ct) ⟨us, ks.zip ws⟩ = pure (ps.zip (us ++ ws)))
    (h : ∀ f fdt, Fun K x x st f fdt → FnOkG false P w K mg base CX' k f fdt ps (spG K fd)) : CalK P w K mg base CX' x k ps ks n j fd := by
  obtain ⟨f, fdt, F, hm⟩ := D.ex
  refine ⟨f, fdt, (h f fdt F).plain, hm, F.kp, ?_⟩
  obtain ⟨oc, od, kV, doc, pm, an, cdv, ct, osl, rfl, lk, hcd⟩ := F.ex
  exact kbinds_of hp fun us ws h1 h2 => hb kV doc pm an cdv ct us ws h1 h2
end
/-! ### a Graph as data -/
open Fl
abbrev nX (k : Nat) : X := .int (k : Int)
def pX (q : E2) : X := .tup [nX q.1, nX q.2]
def sX (s : Fl.St) : X := .tup [nX s.1, .int (sg s.2)]
def inc (ps : List E2) (v : Nat) : List Nat := (List.range ps.length).filter fun e => decide (tl ps e = v) || decide (hd ps e = v)
def gFs : List Str := ["_many", "_pairs", "_at"]
def gX (C : Addr) (n : Nat) (ps : List E2) : X := .obj true C gFs [nX n, .lst true (ps.map pX), .lst true ((List.range n).map fun v => .lst true ((inc ps v).map nX))]
theorem own_nX (l : List Nat) : ownA (l.map nX) = true := ownA_map _ (fun _ => rfl) _
theorem own_pX (l : List E2) : ownA (l.map pX) = true := ownA_map _ (fun _ => rfl) _
theorem own_sX (l : List Fl.St) : ownA (l.map sX) = true := ownA_map _ (fun _ => rfl) _
theorem own_gX (C : Addr) (n : Nat) (ps : List E2) : own (gX C n ps) = true := by
  simp only [gX, own, ownA, own_pX, Bool.and_true, Bool.true_and, nX]
  exact ownA_map _ (fun v => by simp only [own, own_nX, Bool.and_self]) _
@[simp] theorem vw_gX {Mc M : Mu} {k : Nat} {C : Addr} {n : Nat} {ps : List E2} : vw Mc M k (gX C n ps) = gX C n ps := by cases k <;> rfl
@[simp] theorem vw_int {Mc M : Mu} {k : Nat} {i : Int} : vw Mc M k (.int i) = .int i := by cases k <;> rfl
@[simp] theorem objOf_gX {M : Mu} {C : Addr} {n : Nat} {ps : List E2} : objOf M (gX C n ps) = some (C, gFs, [nX n, .lst true (ps.map pX), .lst true ((List.range n).map fun v => .lst true ((inc ps v).map nX))]) := rfl
theorem fld_many {M : Mu} {C : Addr} {n : Nat} {ps : List E2} : fldOf M C "_many" (gX C n ps) = some (nX n) := by
  unfold fldOf
  rw [objOf_gX]
  simp only [if_true]
  rfl
theorem fld_pairs {M : Mu} {C : Addr} {n : Nat} {ps : List E2} : fldOf M C "_pairs" (gX C n ps) = some (.lst true (ps.map pX)) := by
  unfold fldOf
  rw [objOf_gX]
  simp only [if_true]
  rfl
theorem fld_at {M : Mu} {C : Addr} {n : Nat} {ps : List E2} : fldOf M C "_at" (gX C n ps) = some (.lst true ((List.range n).map fun v => .lst true ((inc ps v).map nX))) := by
  unfold fldOf
  rw [objOf_gX]
  simp only [if_true]
  rfl
end DL

set_option maxRecDepth 100000
/-! GRg: loops over enumerate, comprehensions with a test. -/
namespace DL
open PySem PySem.Spec PyProof.Rows L2 Fl
/-- over enumerate(f a0, f a1, ..) -/
theorem dfor_enum {α : Type} {g : DG} {b : DS} {c : Mu → Prop} {DD : EndsD} {as : List α} {f : α → X} {δ : Dl} {M : Mu} (I : Nat → Dl → Mu → Prop) (h0 : I 0 δ M) (hnil : ∀ δ M, I as.length δ M → c M ∧ DD.nx δ M)
    (hstep : ∀ (i : Nat) (a : α) (δ : Dl) (M : Mu) (R : Dl → Mu → Prop), as[i]? = some a → I i δ M → (∀ δ' M', I (i + 1) δ' M' → R δ' M') → c M ∧ g (.tup [.int (i : Nat), f a]) δ M fun δ1 M1 => b { DD with nx := R, ct := R, bk := DD.nx } δ1 M1) : dfor g b c (enumX 0 (as.map f)) DD δ M := by
  refine dfor_ix I h0 (fun δ M h => hnil δ M (by rw [enumX_len, List.length_map] at h; exact h)) fun i x δ M R e h k => ?_
  obtain ⟨z, ez, rfl⟩ := enumX_get e
  rw [List.getElem?_map] at ez
  cases ea : as[i]? with
  | none => rw [ea] at ez; cases ez
  | some a =>
    rw [ea] at ez
    have ex : f a = z := Option.some.inj ez
    rw [← ex, Nat.zero_add]
    exact hstep i a δ M R ea h k
/-- [e for x in .. if t] where nothing mutable turns -/
theorem dlc_filter {α : Type} {g : DG} {t : DT} {e : DE} {c : Mu → Prop} {δ0 : Dl} {as : List α} {f v : α → X} {pr : α → Bool} {M : Mu} {Q : List X → Mu → Prop} (hl : as.length ≤ 1000000) (hc : c M) (hq : Q ((as.filter pr).map v) M)
    (hstep : ∀ (a : α) (R : X → Mu → Prop) (S : Mu → Prop), a ∈ as → (pr a = true → R (v a) M) → (pr a = false → S M) → g (f a) δ0 M fun δ1 M1 => t δ1 M1 fun b M2 => match b with
      | true => e δ1 M2 R
      | false => S M2) : dlcGo g t e c δ0 (as.map f) [] M Q := by
  refine dlc_ix (fun i acc M' => M' = M ∧ acc = ((as.take i).filter pr).map v) ⟨rfl, rfl⟩ (fun acc M' h => ?_) fun i x acc M' R ex h k => ?_
  · obtain ⟨rfl, rfl⟩ := h
    refine ⟨hc, ?_⟩
    rw [List.length_map, List.take_length]
    exact hq
  · obtain ⟨rfl, rfl⟩ := h
    rw [List.getElem?_map] at ex
    cases ea : as[i]? with
    | none => rw [ea] at ex; cases ex
    | some a =>
      rw [ea] at ex
      have ex' : f a = x := Option.some.inj ex
      subst ex'
      refine ⟨hc, ?_⟩
      have hm : a ∈ as := List.mem_of_getElem? ea
      have hi := (List.getElem?_eq_some_iff.mp ea).1
      refine hstep a _ _ hm (fun hp => ⟨?_, k _ _ ⟨rfl, ?_⟩⟩) fun hp => k _ _ ⟨rfl, ?_⟩
      · have h1 := List.length_filter_le pr (as.take i)
        rw [List.length_take] at h1
        rw [List.length_map, sizeLine_eq]
        omega
      · rw [List.take_add_one, ea, List.filter_append, List.map_append]
        show _ = _ ++ List.map v (List.filter pr [a])
        rw [List.filter_cons_of_pos hp]
        rfl
      · rw [List.take_add_one, ea, List.filter_append]
        show _ = List.map v (_ ++ List.filter pr [a])
        rw [List.filter_cons_of_neg (by rw [hp]; exact Bool.false_ne_true), List.filter_nil, List.append_nil]
theorem lookM {α : Type} (f : α → X) {as : List α} {i : Nat} {a : α} (h : as[i]? = some a) : (as.map f)[i]? = some (f a) := by rw [List.getElem?_map, h]; rfl
theorem atM {α : Type} (f : α → X) {as : List α} {i : Nat} (hi : i < as.length) (d : α) : atI (as.map f) (i : Int) = some (f (as.getD i d)) := by
  refine atI_nat (lookM f ?_)
  rw [List.getD_eq_getElem?_getD, List.getElem?_eq_getElem hi]
  rfl
theorem atR (f : Nat → X) {n i : Nat} (hi : i < n) : atI ((List.range n).map f) (i : Int) = some (f i) := atI_nat (lookM f (List.getElem?_range hi))
theorem inc_mem {ps : List E2} {v e : Nat} (h : e ∈ inc ps v) : e < ps.length ∧ (tl ps e = v ∨ hd ps e = v) := by
  unfold inc at h
  rw [List.mem_filter, List.mem_range] at h
  exact ⟨h.1, by simpa using h.2⟩
theorem inc_len {ps : List E2} {v : Nat} : (inc ps v).length ≤ ps.length := by
  have := List.length_filter_le (fun e => decide (tl ps e = v) || decide (hd ps e = v)) (List.range ps.length)
  rw [List.length_range] at this
  exact this
/-- o.f = e, a new field, the class's facts known -/
def putI (C : Addr) (f : Str) (x y : X) (M : Mu) (Q : Mu → Prop) : Prop := match x with
  | .ptr p => (match M p with
    | some (.ins C' ns xs) => C' = C ∧ f ∉ ns ∧ ns.length < 1000 ∧ Q (mset M p (.ins C' (ns ++ [f]) (xs ++ [y])))
    | _ => False)
  | _ => False
def dsfg (C : Addr) (f : Str) (o e : DE) : DS := fun DD δ M => e δ M fun y M1 => o δ M1 fun x M2 => putI C f x y M2 fun M3 => DD.nx δ M3
theorem putI_i {C : Addr} {f : Str} {p : Addr} {y : X} {M : Mu} {ns : List Str} {xs : List X} {Q : Mu → Prop} (h : M p = some (.ins C ns xs)) (hf : f ∉ ns) (hl : ns.length < 1000) (q : Q (mset M p (.ins C (ns ++ [f]) (xs ++ [y])))) : putI C f (.ptr p) y M Q := by
  unfold putI
  simp only [h]
  exact ⟨trivial, hf, hl, q⟩
section
variable {Y : Cx} {W : Ent → Prop} {o value : Expr} {f : Str} {pos pos' : Pos} {d dv : DE} {C : Addr}
theorem psd_fg (c : Cls Y.K C) (na : NoAttr Y.K C f) (ho : PD Y W o d) (hv : PD Y W value dv) (hs : swapsWith value (some (.Attribute o f pos')) pos.line Y.env = pure false := by rfl) : PSD Y W (.Assign [.Attribute o f pos'] value pos) (dsfg C f d dv) := by
  obtain ⟨t, h1, s1⟩ := ho.ex
  obtain ⟨u, h2, s2⟩ := hv.ex
  refine ⟨_, ps_fld h1 h2 hs, fun N D DD w C0 O M δ σ H S L h => s2 N O M δ σ H _ _ w S L h fun O1 M1 H1 y v n1 r1 h => s1 N O1 M1 δ σ H1 _ _ w n1.st (n1.sl L) h fun O2 M2 H2 x u n2 r2 h => ?_⟩
  unfold putI at h
  split at h
  · rename_i p
    split at h
    · rename_i C' ns xs e
      obtain ⟨rfl, hf, hl, q⟩ := h
      simp only [Rp] at r2
      obtain ⟨dx, vs, hp, hd, hlen, r⟩ := n2.st.cl p _ e
      have el : (ns.zip vs).length < 1000 := by rw [List.length_zip]; omega
      refine ⟨p, C', dx, _, r2, hp, c, na, el, ?_⟩
      rw [putF_new hf hlen]
      have hne : dx ≠ p := fun z => by rw [z, hp] at hd; cases hd
      refine C0.nx O2 _ δ σ _ (n2.st.writeC (c := .ins C' ns xs) (c' := .ins C' (ns ++ [f]) (xs ++ [y])) e (fun _ z => nomatch z) ⟨dx, vs ++ [v], upd_same, by rw [upd_ne hne]; exact hd, by simp [hlen], r.append (RpA.cons (n2.rp r1) RpA.nil)⟩) (n2.sl (n1.sl L)) q
    · exact h.elim
  · exact h.elim
end
theorem fldOf_ptr {M : Mu} {C : Addr} {f : Str} {p : Addr} {ns : List Str} {xs : List X} (h : M p = some (.ins C ns xs)) : fldOf M C f (.ptr p) = (ns.zip xs).lookup f := by
  unfold fldOf objOf
  simp only [h, if_true]
theorem dfg_ptr {M : Mu} {δ : Dl} {C : Addr} {f : Str} {i : Nat} {p : Addr} {ns : List Str} {xs : List X} {y : X} {Q : VKd} (hd : δ[i]? = some (some (.ptr p))) (h : M p = some (.ins C ns xs)) (hy : (ns.zip xs).lookup f = some y) (q : Q y M) : dfg C f (dvar i) δ M Q := by
  unfold dfg dvar fldK
  rw [hd]
  simp only [fldOf_ptr h, hy]
  exact q
end DL

set_option maxRecDepth 100000
/-! GRh: defs that get a dict. -/
namespace DL
open PySem PySem.Spec PyProof.Rows L2 Fl
abbrev DF := List (Key × X) → List X → (X → Prop) → Prop
/-- a def whose first argument is a dict, which it leaves as it is -/
def DFd (f : DF) : FD := fun xs M Q _ => ∃ p kvs r, xs = .ptr p :: r ∧ (∀ a, a ≠ p → M a = none) ∧ M p = some (.dK kvs) ∧ f kvs r fun y => Q y M
def fDc (n : Nat) (g : DF) (xs : List X) (M : Mu) (Q : VKd) : Prop := match xs with
  | .ptr st :: r => ∃ kvs, M st = some (.dK kvs) ∧ g kvs (r.map (vw (one M st) M n)) fun y => Q y M
  | _ => False
section
variable {gm : Bool} {Y : Cx} {W : Ent → Prop} {K : PySem.W.Frag} {k : Nat} {f : Addr} {fdt : FuncData} {ps : List Str} {CX' : CXT} {E : XK} {x : Str} {p pos : Pos} {e : Expr} {es : List Expr} {dr : DA}
theorem mun_one_self {M : Mu} {p : Addr} : mun M (one M p) (one M p) = M := by
  funext a
  unfold mun one
  by_cases h : a = p
  · subst h
    simp only [if_true]
    cases M a <;> rfl
  · simp [h]
theorem rt_dic {Qd : VKd} {y : X} {M0 M : Mu} {st : Addr} {kvs : List (Key × X)} (h0 : ∀ a, a ≠ st → M0 a = none) (e0 : M0 st = some (.dK kvs)) (e : M st = some (.dK kvs)) (o : own y = true) (ok : ownA (kvs.map (·.2)) = true) (h : Qd y M0) : rtK Qd y M := by
  have h1 : Sub M0 M := fun a c q => by
    by_cases z : a = st
    · rw [z] at q ⊢; rw [e0] at q; rw [e]; exact q
    · rw [h0 a z] at q; cases q
  have h2 : ownM M0 := fun a c q => by
    by_cases z : a = st
    · rw [z, e0] at q; cases q; exact ok
    · rw [h0 a z] at q; cases q
  exact ⟨_, h1, o, h2, h⟩
theorem pd_cD (n : Nat) {g : DF} (C : Cal gm Y.prog Y.w Y.K Y.mg Y.base CX' x k ps (DFd g)) (hr : RoomG gm k Y.A) (hx : Passes CX' Y E0)
    (ha : PAD Y W (e :: es) dr) (hg : Gl Y x := by rfl) (hdb : (x == ("__debug__" : Str)) = false := by decide) (he : starEach (e :: es) Y.env = (false, eval e Y.env) :: starEach es Y.env := by rfl) (hpl : (backTo pos (starEach es Y.env)).any (·.1) = false := by rfl) :
    PD Y W (.Call (.Name x p) (e :: es) [] pos) (dcb (fDc n g) dr) := by
  obtain ⟨f, fdt, F, a, b, c⟩ := C.ex
  obtain ⟨t, h1, s1⟩ := ha.ex
  refine ⟨_, pe_callG F hr hg a b c hx h1 hdb he hpl, fun N O M δ σ H Q Qd w S L h kk => s1 N O M δ σ H _ _ w S L h fun O1 M1 H1 xs vs n1 r1 h => ?_⟩
  unfold fDc at h
  split at h
  · rename_i st r
    obtain ⟨kvs, em, h⟩ := h
    have S1 := n1.st
    refine ⟨O1, one M1 st, (.ptr st :: r).map (vw (one M1 st) M1 n), fun y M' => M' = one M1 st ∧ Qd y M1, fun _ _ _ _ => False, S1.enter one_sub, by rw [List.append_nil]; exact vwA_ok S1 one_sub n r1, ⟨st, kvs, r.map (vw (one M1 st) M1 n), ?_, fun a ha => by unfold one; rw [if_neg ha], by rw [one_same]; exact em, ?_⟩, ?_, fun _ _ _ _ _ _ _ _ _ _ _ z => z.elim⟩
    · rw [List.map_cons, vw_one em]
    · have e1 : (fun (y : DL.X) => (one M1 st = one M1 st) ∧ Qd y M1) = fun y => Qd y M1 := by
        funext y
        exact propext ⟨fun h => h.2, fun h => ⟨rfl, h⟩⟩
      show g kvs _ (fun (y : DL.X) => (one M1 st = one M1 st) ∧ Qd y M1)
      rw [e1]
      exact h
    · intro O' M' H' y v S' r' oy om q
      obtain ⟨rfl, q⟩ := q
      have n2 := S1.back one_sub S' om
      rw [mun_one_self] at n2
      exact kk _ _ _ y v (n1.trans n2) (r'.own y oy) q
  · exact h.elim
end
end DL

/-! MFb: a forest of shades; the odd cycle. Plain Lean. -/
namespace Fl
structure ShOk (n : Nat) (ps : List E2) (sh : Nat → Nat) (cm : Nat → List St) (rt : Nat → Nat) : Prop where
  wk : ∀ v, v < n → Wk ps (rt v) (cm v) v
  par : ∀ v, v < n → sh v = (cm v).length % 2
  up : ∀ v, v < n → cm v = [] ∨ ∃ u s, u < n ∧ s.1 < ps.length ∧ bg ps s = u ∧ en ps s = v ∧ cm v = cm u ++ [s]
  rt : ∀ e, e < ps.length → rt (tl ps e) = rt (hd ps e)
  len : ∀ v, v < n → (cm v).length ≤ n
def flip (s : St) : St := (s.1, !s.2)
theorem bg_flip {ps : List E2} (s : St) : bg ps (flip s) = en ps s := by
  unfold flip bg en
  cases s.2 <;> rfl
theorem en_flip {ps : List E2} (s : St) : en ps (flip s) = bg ps s := by
  unfold flip bg en
  cases s.2 <;> rfl
theorem Wk.rev {ps : List E2} : ∀ {p : List St} {u v : Nat}, Wk ps u p v → Wk ps v (p.reverse.map flip) u
  | [], _, _, h => by cases h; rfl
  | s :: p, u, v, h => by
    rw [List.reverse_cons, List.map_append]
    refine (Wk.rev h.2.2).append ⟨bg_flip s, h.2.1, ?_⟩
    rw [en_flip]
    exact h.1
/-- a cycle with an odd number of steps -/
structure CycOk (ps : List E2) (c : List St) : Prop where
  ne : c ≠ []
  wk : ∃ u, Wk ps u c u
  vs : (c.map (en ps)).Nodup
  es : (c.map (·.1)).Nodup
  odd : c.length % 2 = 1
  may : ∀ s ∈ c, s.1 < ps.length
theorem Wk.mem {ps : List E2} : ∀ {p : List St} {u v : Nat}, Wk ps u p v → ∀ s ∈ p, s.1 < ps.length
  | [], _, _, _, _, h => nomatch h
  | t :: p, _, _, w, s, h => by
    rcases List.mem_cons.mp h with h | h
    · rw [h]; exact w.2.1
    · exact Wk.mem w.2.2 s h
theorem nodup_of_map {α β : Type} {f : α → β} {l : List α} (h : (l.map f).Nodup) : l.Nodup := by
  have h2 : l.Pairwise fun a b => f a ≠ f b := List.pairwise_map.mp h
  exact List.Pairwise.imp (fun {a b} hab e => hab (by rw [e])) h2
section
variable {n : Nat} {ps : List E2} {sh : Nat → Nat} {cm : Nat → List St} {rt : Nat → Nat}
theorem ShOk.rts (S : ShOk n ps sh cm rt) {s : St} (h : s.1 < ps.length) : rt (bg ps s) = rt (en ps s) := by
  unfold bg en
  have := S.rt s.1 h
  cases s.2
  · exact this.symm
  · exact this
theorem ShOk.pre (S : ShOk n ps sh cm rt) : ∀ (k v : Nat) (P R : List St), R.length = k → v < n → cm v = P ++ R → ∃ u, u < n ∧ cm u = P ∧ rt u = rt v
  | 0, v, P, R, hk, hv, h => by
    cases R with
    | nil => exact ⟨v, hv, by rw [h, List.append_nil], rfl⟩
    | cons a R => cases hk
  | k + 1, v, P, R, hk, hv, h => by
    rcases S.up v hv with h0 | ⟨u, s, hu, hs, hb, he, h1⟩
    · rw [h0] at h
      have h2 := congrArg List.length h
      rw [List.length_append] at h2
      simp only [List.length_nil] at h2
      omega
    · rcases List.eq_nil_or_concat R with rfl | ⟨R', t, rfl⟩
      · cases hk
      · rw [List.concat_eq_append] at h hk
        rw [h1, ← List.append_assoc] at h
        have h3 := List.append_inj' h rfl
        rw [List.length_append, List.length_singleton] at hk
        obtain ⟨w, hw, hc, hr⟩ := S.pre k u P R' (by omega) hu h3.1
        refine ⟨w, hw, hc, hr.trans ?_⟩
        have := S.rts hs
        rw [hb, he] at this
        exact this
/-- a step of the way to a vertex -/
theorem ShOk.tree (S : ShOk n ps sh cm rt) {v : Nat} (hv : v < n) {P R : List St} {s : St} (h : cm v = P ++ s :: R) : cm (en ps s) = P ++ [s] ∧ cm (bg ps s) = P ∧ en ps s < n ∧ bg ps s < n ∧ s.1 < ps.length := by
  have h' : cm v = (P ++ [s]) ++ R := by rw [h, List.append_assoc]; rfl
  obtain ⟨u, hu, hc, _⟩ := S.pre R.length v (P ++ [s]) R rfl hv h'
  rcases S.up u hu with h0 | ⟨w, t, hw, ht, hb, he, h1⟩
  · rw [h0] at hc
    have := congrArg List.length hc
    simp at this
  · rw [hc] at h1
    have h3 := List.append_inj' h1 rfl
    have hst : s = t := by
      have := h3.2
      simpa using this
    subst hst
    exact ⟨by rw [he]; exact hc, by rw [hb]; exact h3.1.symm, by rw [he]; exact hu, by rw [hb]; exact hw, ht⟩
theorem pre_nodup {A B D : List St} (hd : ∀ a b r q, B = a :: r → D = b :: q → a ≠ b) : (A :: ((List.range B.length).map fun i => A ++ B.take (i + 1)) ++ ((List.range D.length).map fun i => A ++ D.take (i + 1))).Nodup := by
  have len : ∀ (X : List St) (i : Nat), i < X.length → (A ++ X.take (i + 1)).length = A.length + (i + 1) := fun X i hi => by
    rw [List.length_append, List.length_take]; omega
  have one : ∀ X : List St, ((List.range X.length).map fun i => A ++ X.take (i + 1)).Nodup := fun X => by
    refine List.pairwise_map.mpr ?_
    refine List.Pairwise.imp_of_mem ?_ (List.nodup_range (n := X.length))
    intro i j hi hj hij e
    have h1 := congrArg List.length e
    rw [len X i (List.mem_range.mp hi), len X j (List.mem_range.mp hj)] at h1
    exact hij (by omega)
  have noA : ∀ X : List St, A ∉ ((List.range X.length).map fun i => A ++ X.take (i + 1)) := fun X h => by
    obtain ⟨i, hi, e⟩ := List.mem_map.mp h
    have h1 := congrArg List.length e
    rw [len X i (List.mem_range.mp hi)] at h1
    omega
  rw [List.cons_append, List.nodup_cons, List.mem_append, List.nodup_append]
  refine ⟨fun h => h.elim (noA B) (noA D), one B, one D, fun a ha b hb e => ?_⟩
  obtain ⟨i, hi, rfl⟩ := List.mem_map.mp ha
  obtain ⟨j, hj, rfl⟩ := List.mem_map.mp hb
  have hi' := List.mem_range.mp hi
  have hj' := List.mem_range.mp hj
  have h2 := List.append_cancel_left e
  cases B with
  | nil => simp at hi'
  | cons a r =>
    cases D with
    | nil => simp at hj'
    | cons b q =>
      rw [List.take_succ_cons, List.take_succ_cons] at h2
      exact hd a b r q rfl rfl (List.cons.inj h2).1
theorem Wk.bgs {ps : List E2} : ∀ {p : List St} {u v : Nat}, Wk ps u p v → p.map (bg ps) ++ [v] = u :: p.map (en ps)
  | [], u, v, h => by cases h; rfl
  | s :: p, u, v, h => by
    rw [List.map_cons, List.cons_append, Wk.bgs h.2.2, h.1, List.map_cons]
theorem cm_ens (S : ShOk n ps sh cm rt) {v : Nat} (hv : v < n) {A : List St} : ∀ {B : List St}, cm v = A ++ B → (B.map (en ps)).map cm = (List.range B.length).map fun i => A ++ B.take (i + 1) := fun {B} h => by
  refine List.ext_getElem? fun i => ?_
  by_cases hi : i < B.length
  · have e1 : B = B.take i ++ B[i] :: B.drop (i + 1) := by rw [← List.drop_eq_getElem_cons hi, List.take_append_drop]
    have h1 : cm v = (A ++ B.take i) ++ B[i] :: B.drop (i + 1) := by rw [List.append_assoc, ← e1]; exact h
    have h2 := (S.tree hv h1).1
    rw [List.getElem?_map, List.getElem?_map, List.getElem?_eq_getElem hi, List.getElem?_map, List.getElem?_range hi]
    show some (cm (en ps B[i])) = some (A ++ B.take (i + 1))
    rw [h2, List.take_succ_eq_append_getElem hi, List.append_assoc]
  · rw [List.getElem?_eq_none (by rw [List.length_map, List.length_map]; omega), List.getElem?_eq_none (by rw [List.length_map, List.length_range]; omega)]
theorem odd_cycle (wf : WF n ps) (S : ShOk n ps sh cm rt) {e k : Nat} (he : e < ps.length) (hs : sh (tl ps e) = sh (hd ps e)) (hk1 : k ≤ (cm (tl ps e)).length) (hk2 : k ≤ (cm (hd ps e)).length)
    (heq : ∀ i, i < k → (cm (tl ps e))[i]? = (cm (hd ps e))[i]?) (hne : k < (cm (tl ps e)).length → k < (cm (hd ps e)).length → (cm (tl ps e))[k]? ≠ (cm (hd ps e))[k]?) :
    CycOk ps ((e, true) :: ((((cm (hd ps e)).drop k).reverse.map flip) ++ (cm (tl ps e)).drop k)) := by
  have ht := wf.tl he
  have hh := wf.hd he
  generalize hT : tl ps e = t at *
  generalize hH : hd ps e = h at *
  have pe : (cm t).take k = (cm h).take k := by
    refine List.ext_getElem? fun i => ?_
    rw [List.getElem?_take, List.getElem?_take]
    by_cases hi : i < k
    · rw [if_pos hi, if_pos hi]; exact heq i hi
    · rw [if_neg hi, if_neg hi]
  generalize hA : (cm t).take k = A at pe
  generalize hB : (cm h).drop k = B
  generalize hD : (cm t).drop k = D
  have cT : cm t = A ++ D := by rw [← hA, ← hD, List.take_append_drop]
  have cH : cm h = A ++ B := by rw [pe, ← hB, List.take_append_drop]
  have lA : A.length = k := by rw [← hA, List.length_take]; omega
  have heads : ∀ a b r q, B = a :: r → D = b :: q → a ≠ b := fun a b r q e1 e2 e3 => by
    have h1 : (cm t)[k]? = some b := by rw [cT, List.getElem?_append_right (by omega), lA, Nat.sub_self, e2]; rfl
    have h2 : (cm h)[k]? = some a := by rw [cH, List.getElem?_append_right (by omega), lA, Nat.sub_self, e1]; rfl
    have l1 := (List.getElem?_eq_some_iff.mp h1).1
    have l2 := (List.getElem?_eq_some_iff.mp h2).1
    exact hne l1 l2 (by rw [h1, h2, e3])
  have hrt : rt t = rt h := by rw [← hT, ← hH]; exact S.rt e he
  obtain ⟨x, hx, hcx, hrx⟩ := S.pre D.length t A D rfl ht cT
  have wT := S.wk t ht
  have wH := S.wk h hh
  have wX := S.wk x hx
  rw [cT] at wT
  rw [cH] at wH
  rw [hcx, hrx] at wX
  obtain ⟨x1, a1, a2⟩ := Wk.of_append wT
  have ex1 := Wk.det a1 wX
  rw [ex1] at a1 a2
  obtain ⟨x2, b1, b2⟩ := Wk.of_append wH
  rw [← hrt] at b1
  have ex2 := Wk.det b1 wX
  rw [ex2] at b1 b2
  have ends1 : ∀ s : St, s.1 = e → (bg ps s = t ∧ en ps s = h) ∨ (bg ps s = h ∧ en ps s = t) := fun s hs1 => by
    unfold bg en
    rw [hs1, hT, hH]
    cases s.2
    · exact .inr ⟨rfl, rfl⟩
    · exact .inl ⟨rfl, rfl⟩
  have tB : ∀ s ∈ B, (cm (en ps s) = cm (bg ps s) ++ [s]) ∧ en ps s < n ∧ bg ps s < n := fun s hs1 => by
    obtain ⟨B1, B2, e1⟩ := List.append_of_mem hs1
    obtain ⟨c1, c2, c3, c4, _⟩ := S.tree hh (P := A ++ B1) (R := B2) (s := s) (by rw [cH, e1, List.append_assoc])
    exact ⟨by rw [c1, c2], c3, c4⟩
  have tD : ∀ s ∈ D, (cm (en ps s) = cm (bg ps s) ++ [s]) ∧ en ps s < n ∧ bg ps s < n := fun s hs1 => by
    obtain ⟨B1, B2, e1⟩ := List.append_of_mem hs1
    obtain ⟨c1, c2, c3, c4, _⟩ := S.tree ht (P := A ++ B1) (R := B2) (s := s) (by rw [cT, e1, List.append_assoc])
    exact ⟨by rw [c1, c2], c3, c4⟩
  have tBD : ∀ s ∈ B ++ D, (cm (en ps s) = cm (bg ps s) ++ [s]) ∧ en ps s < n ∧ bg ps s < n := fun s hs1 => (List.mem_append.mp hs1).elim (tB s) (tD s)
  -- the vertices
  have vn : (x :: B.map (en ps) ++ D.map (en ps)).Nodup := by
    refine nodup_of_map (f := cm) ?_
    rw [List.cons_append, List.map_cons, List.map_append, cm_ens S hh cH, cm_ens S ht cT, hcx]
    exact pre_nodup heads
  have vs : (((e, true) :: (B.reverse.map flip ++ D)).map (en ps)).Nodup := by
    have e1 : (B.reverse.map flip).map (en ps) = (B.map (bg ps)).reverse := by
      rw [List.map_map, ← List.map_reverse]
      exact List.map_congr_left fun s _ => en_flip s
    have e2 : en ps (e, true) = h := hH
    rw [List.map_cons, List.map_append, e1, e2]
    have e3 : h :: ((B.map (bg ps)).reverse ++ D.map (en ps)) = (x :: B.map (en ps)).reverse ++ D.map (en ps) := by
      rw [← Wk.bgs b2, List.reverse_append]; rfl
    rw [e3]
    rw [List.nodup_append] at vn ⊢
    exact ⟨List.pairwise_reverse.mpr (List.Pairwise.imp (fun {a b} h => Ne.symm h) vn.1), vn.2.1, fun a ha b hb => vn.2.2 a (List.mem_reverse.mp ha) b hb⟩
  have en_nd : ((B ++ D).map (en ps)).Nodup := by
    rw [List.map_append]
    rw [List.cons_append, List.nodup_cons] at vn
    exact vn.2
  have es0 : ((B ++ D).map (·.1)).Nodup := by
    refine List.pairwise_map.mpr ?_
    have h1 : (B ++ D).Pairwise fun a b => en ps a ≠ en ps b := List.pairwise_map.mp en_nd
    refine List.Pairwise.imp_of_mem ?_ h1
    intro s s' hs1 hs2 hne2 e1
    by_cases h2 : s.2 = s'.2
    · exact hne2 (by rw [Prod.ext e1 h2])
    · have f1 : s' = flip s := by
        refine Prod.ext e1.symm ?_
        show s'.2 = !s.2
        revert h2
        generalize s.2 = b1
        generalize s'.2 = b2
        revert b1 b2
        decide
      have c1 := (tBD s hs1).1
      have c2 := (tBD s' hs2).1
      rw [f1, en_flip, bg_flip, c1] at c2
      have c3 := congrArg List.length c2
      simp only [List.length_append, List.length_singleton] at c3
      omega
  have es : (((e, true) :: (B.reverse.map flip ++ D)).map (·.1)).Nodup := by
    have e1 : (B.reverse.map flip).map (·.1) = (B.map (·.1)).reverse := by
      rw [List.map_map, ← List.map_reverse]
      exact List.map_congr_left fun s _ => rfl
    rw [List.map_cons, List.map_append, e1, List.nodup_cons]
    rw [List.map_append, List.nodup_append] at es0
    refine ⟨fun hm => ?_, ?_⟩
    · have hm2 : e ∈ (B ++ D).map (·.1) := by
        rw [List.map_append]
        rcases List.mem_append.mp hm with h | h
        · exact List.mem_append_left _ (List.mem_reverse.mp h)
        · exact List.mem_append_right _ h
      obtain ⟨s, hs1, hse⟩ := List.mem_map.mp hm2
      obtain ⟨c1, c2, c3⟩ := tBD s hs1
      have p1 := S.par _ c2
      have p2 := S.par _ c3
      rw [c1, List.length_append, List.length_singleton] at p1
      rcases ends1 s hse with ⟨q1, q2⟩ | ⟨q1, q2⟩
      · rw [q2, q1] at p1
        rw [q1] at p2
        omega
      · rw [q2, q1] at p1
        rw [q1] at p2
        omega
    · rw [List.nodup_append]
      exact ⟨List.pairwise_reverse.mpr (List.Pairwise.imp (fun {a b} h => Ne.symm h) es0.1), es0.2.1, fun a ha b hb => es0.2.2 a (List.mem_reverse.mp ha) b hb⟩
  have wc : Wk ps t ((e, true) :: (B.reverse.map flip ++ D)) t := by
    refine ⟨hT, he, ?_⟩
    show Wk ps (hd ps e) _ t
    rw [hH]
    exact (Wk.rev b2).append a2
  refine ⟨fun z => (nomatch z), ⟨t, wc⟩, vs, es, ?_, Wk.mem wc⟩
  have p1 := S.par t ht
  have p2 := S.par h hh
  rw [cT, List.length_append] at p1
  rw [cH, List.length_append] at p2
  simp only [List.length_cons, List.length_append, List.length_map, List.length_reverse]
  omega
/-- two halves -/
theorem Wk.col {ps : List E2} {col : Nat → Bool} (hc : ∀ e, e < ps.length → col (tl ps e) ≠ col (hd ps e)) : ∀ {p : List St} {u v : Nat}, Wk ps u p v → (col u = col v ↔ p.length % 2 = 0)
  | [], u, v, h => by cases h; simp
  | s :: p, u, v, h => by
    have ih := Wk.col hc h.2.2
    have h1 := hc s.1 h.2.1
    have h2 : col u ≠ col (en ps s) := by
      rw [← h.1]
      unfold bg en
      cases s.2
      · exact Ne.symm h1
      · exact h1
    rw [List.length_cons]
    by_cases h3 : col (en ps s) = col v
    · have h4 := ih.mp h3
      rw [h3] at h2
      exact ⟨fun e => absurd e h2, fun e => by omega⟩
    · have h4 : ¬ p.length % 2 = 0 := fun e => h3 (ih.mpr e)
      refine ⟨fun e => by omega, fun _ => ?_⟩
      cases h5 : col u <;> cases h6 : col v <;> cases h7 : col (en ps s) <;> simp_all
theorem no_halves (wf : WF n ps) (S : ShOk n ps sh cm rt) {e : Nat} (he : e < ps.length) (hs : sh (tl ps e) = sh (hd ps e)) (col : Nat → Bool) : ∃ e, e < ps.length ∧ col (tl ps e) = col (hd ps e) := by
  refine Classical.byContradiction fun no => ?_
  have hc : ∀ e, e < ps.length → col (tl ps e) ≠ col (hd ps e) := fun e he h => no ⟨e, he, h⟩
  have ht := wf.tl he
  have hh := wf.hd he
  have w1 := Wk.col hc (S.wk _ ht)
  have w2 := Wk.col hc (S.wk _ hh)
  have p1 := S.par _ ht
  have p2 := S.par _ hh
  rw [S.rt e he] at w1
  have h1 := hc e he
  by_cases h2 : col (rt (hd ps e)) = col (tl ps e)
  · have h3 := w1.mp h2
    have h4 := w2.mpr (by omega)
    exact h1 (h2.symm.trans h4)
  · have h3 : ¬ (cm (tl ps e)).length % 2 = 0 := fun z => h2 (w1.mpr z)
    have h4 : ¬ col (rt (hd ps e)) = col (hd ps e) := fun z => by
      have := w2.mp z
      omega
    cases h5 : col (rt (hd ps e)) <;> cases h6 : col (tl ps e) <;> cases h7 : col (hd ps e) <;> simp_all
end
/-! ### the flow of the shades -/
theorem shade_flow {ps : List E2} {sh : Nat → Nat} (h01 : ∀ e, e < ps.length → sh (tl ps e) ≠ sh (hd ps e) ∧ sh (tl ps e) < 2 ∧ sh (hd ps e) < 2) {a : Nat → Int} (ha : ∀ e, e < ps.length → a e = if sh (tl ps e) = 0 then 1 else 2) (v : Nat)
    (hd3 : sumN (fun e => dl (hd ps e) v + dl (tl ps e) v) ps.length = 3) : imb ps a v % 3 = 0 := by
  unfold imb
  by_cases h : sh v = 0
  · have e1 : sumN (fun e => a e * (dl (hd ps e) v - dl (tl ps e) v)) ps.length = sumN (fun e => 3 * dl (hd ps e) v + -1 * (dl (hd ps e) v + dl (tl ps e) v)) ps.length := by
      refine sumN_congr fun e he => ?_
      obtain ⟨h1, h2, h3⟩ := h01 e he
      rw [ha e he]
      unfold dl
      by_cases q1 : hd ps e = v
      · by_cases q2 : tl ps e = v
        · rw [q1, q2] at h1; exact absurd rfl h1
        · rw [if_pos q1, if_neg q2, if_neg (by rw [q1, h] at h1; exact h1)]; omega
      · by_cases q2 : tl ps e = v
        · rw [if_neg q1, if_pos q2, q2, if_pos h]; omega
        · rw [if_neg q1, if_neg q2]; simp
    rw [e1, sumN_add, sumN_mul, sumN_mul, hd3]
    omega
  · have e1 : sumN (fun e => a e * (dl (hd ps e) v - dl (tl ps e) v)) ps.length = sumN (fun e => (dl (hd ps e) v + dl (tl ps e) v) + -3 * dl (tl ps e) v) ps.length := by
      refine sumN_congr fun e he => ?_
      obtain ⟨h1, h2, h3⟩ := h01 e he
      rw [ha e he]
      unfold dl
      by_cases q1 : hd ps e = v
      · by_cases q2 : tl ps e = v
        · rw [q1, q2] at h1; exact absurd rfl h1
        · rw [if_pos q1, if_neg q2, if_pos (by rw [q1] at h1 h3; omega)]; omega
      · by_cases q2 : tl ps e = v
        · rw [if_neg q1, if_pos q2, q2, if_neg h]; omega
        · rw [if_neg q1, if_neg q2]; simp
    rw [e1, sumN_add, sumN_mul, hd3]
    omega
end Fl

/-! MFc: drawn cubic graphs. Plain Lean. -/
namespace Fl
theorem swap_perm {l : List Nat} {i j : Nat} (hi : i < l.length) (hj : j < l.length) : ((l.set i l[j]).set j l[i]).Perm l := by
  rw [List.perm_iff_count]
  intro b
  have hj' : j < (l.set i l[j]).length := by rw [List.length_set]; exact hj
  have e1 : (l.set i l[j])[j] = l[j] := by
    rw [List.getElem_set]
    split
    · rfl
    · rfl
  rw [List.count_set hj', List.count_set hi, e1]
  by_cases h1 : (l[i] == b) = true
  · have h2 : l[i] = b := eq_of_beq h1
    have h3 : 0 < l.count b := List.count_pos_iff.mpr (by rw [← h2]; exact List.getElem_mem hi)
    rw [if_pos h1]
    omega
  · rw [if_neg h1]
    omega
def endsF (ps : List E2) : List Nat := ps.flatMap fun p => [p.1, p.2]
theorem sumN_front (f : Nat → Int) : ∀ k : Nat, sumN f (k + 1) = f 0 + sumN (fun i => f (i + 1)) k
  | 0 => by simp [sumN]
  | k + 1 => by
    show sumN f (k + 1) + f (k + 1) = _
    rw [sumN_front f k]
    show _ = f 0 + (sumN (fun i => f (i + 1)) k + f (k + 1))
    omega
theorem ends_count {v : Nat} : ∀ {ps : List E2}, (((endsF ps).count v : Nat) : Int) = sumN (fun e => dl (hd ps e) v + dl (tl ps e) v) ps.length
  | [] => rfl
  | p :: ps => by
    rw [List.length_cons, sumN_front]
    have ih := ends_count (v := v) (ps := ps)
    have e1 : endsF (p :: ps) = p.1 :: p.2 :: endsF ps := rfl
    rw [e1, List.count_cons, List.count_cons]
    have e2 : sumN (fun i => dl (hd (p :: ps) (i + 1)) v + dl (tl (p :: ps) (i + 1)) v) ps.length = sumN (fun e => dl (hd ps e) v + dl (tl ps e) v) ps.length := sumN_congr fun i _ => rfl
    rw [e2, ← ih]
    show _ = dl p.2 v + dl p.1 v + _
    unfold dl
    by_cases h1 : p.1 = v <;> by_cases h2 : p.2 = v <;> simp [h1, h2] <;> omega
structure CubicOk (halves : Bool) (n : Nat) (ps : List E2) : Prop where
  n100 : n ≤ 100
  len : ps.length ≤ 150
  wf : WF n ps
  c3 : ∀ v, v < n → (endsF ps).count v = 3
  half : halves = true → ∃ col : Nat → Bool, ∀ p ∈ ps, col p.1 ≠ col p.2
theorem count_range {v : Nat} : ∀ n : Nat, (List.range n).count v = if v < n then 1 else 0
  | 0 => rfl
  | n + 1 => by
    rw [List.range_succ, List.count_append, count_range n, List.count_singleton]
    by_cases h : n = v
    · subst h; simp
    · have : (n == v) = false := beq_false_of_ne h
      simp only [this, Bool.false_eq_true, if_false, Nat.add_zero]
      by_cases h2 : v < n
      · rw [if_pos h2, if_pos (show v < n + 1 by omega)]
      · rw [if_neg h2, if_neg (show ¬ v < n + 1 by omega)]
theorem endsF_append (a b : List E2) : endsF (a ++ b) = endsF a ++ endsF b := List.flatMap_append
theorem count_two {α : Type} (f g : α → Nat) (v : Nat) : ∀ l : List α, (endsF (l.map fun i => (f i, g i))).count v = (l.map f).count v + (l.map g).count v
  | [] => rfl
  | a :: l => by
    have e1 : endsF ((a :: l).map fun i => (f i, g i)) = f a :: g a :: endsF (l.map fun i => (f i, g i)) := rfl
    rw [e1, List.count_cons, List.count_cons, count_two f g v l, List.map_cons, List.map_cons, List.count_cons, List.count_cons]
    omega
theorem map_getD (row : List Nat) : (List.range row.length).map (fun i => row.getD i 0) = row := by
  refine List.ext_getElem? fun i => ?_
  by_cases h : i < row.length
  · rw [List.getElem?_map, List.getElem?_range h, List.getElem?_eq_getElem h]
    show some (row.getD i 0) = _
    rw [List.getD_eq_getElem?_getD, List.getElem?_eq_getElem h]
    rfl
  · rw [List.getElem?_eq_none (by rw [List.length_map, List.length_range]; omega), List.getElem?_eq_none (by omega)]
theorem count_shift (h v : Nat) : ∀ row : List Nat, (row.map fun x => h + x).count v = if h ≤ v then row.count (v - h) else 0
  | [] => by simp
  | a :: row => by
    rw [List.map_cons, List.count_cons, count_shift h v row, List.count_cons]
    by_cases h1 : h ≤ v
    · rw [if_pos h1, if_pos h1]
      by_cases h2 : a = v - h
      · have e1 : (h + a == v) = true := by rw [beq_iff_eq]; omega
        have e2 : (a == v - h) = true := by rw [beq_iff_eq]; exact h2
        rw [e1, e2]
      · have e1 : (h + a == v) = false := beq_false_of_ne (by omega)
        have e2 : (a == v - h) = false := beq_false_of_ne h2
        rw [e1, e2]
    · have e1 : (h + a == v) = false := beq_false_of_ne (by omega)
      rw [if_neg h1, if_neg h1, e1]
      rfl
/-- one matching between two halves -/
def blk (h : Nat) (row : List Nat) : List E2 := (List.range h).map fun i => (i, h + row.getD i 0)
theorem blk_count {h v : Nat} {row : List Nat} (hp : row.Perm (List.range h)) (hv : v < 2 * h) : (endsF (blk h row)).count v = 1 := by
  have hl : row.length = h := by rw [hp.length_eq, List.length_range]
  unfold blk
  rw [count_two (fun i => i) (fun i => h + row.getD i 0)]
  have e1 : (List.range h).map (fun i => h + row.getD i 0) = (row.map fun x => h + x) := by
    have := congrArg (List.map fun x => h + x) (map_getD row)
    rw [List.map_map, hl] at this
    exact this
  rw [e1, count_shift, List.map_id', count_range, hp.count_eq, count_range]
  by_cases h1 : v < h
  · rw [if_pos h1, if_neg (by omega)]
  · rw [if_neg h1, if_pos (by omega), if_pos (by omega)]
theorem blk_mem {h : Nat} {row : List Nat} (hp : row.Perm (List.range h)) {p : E2} (hm : p ∈ blk h row) : p.1 < h ∧ h ≤ p.2 ∧ p.2 < 2 * h := by
  have hl : row.length = h := by rw [hp.length_eq, List.length_range]
  obtain ⟨i, hi, rfl⟩ := List.mem_map.mp hm
  have hi' := List.mem_range.mp hi
  have h2 : row.getD i 0 ∈ row := by
    rw [List.getD_eq_getElem?_getD, List.getElem?_eq_getElem (by omega)]
    exact List.getElem_mem _
  have h3 := List.mem_range.mp (hp.mem_iff.mp h2)
  exact ⟨hi', by show h ≤ h + _; omega, by show h + _ < _; omega⟩
theorem base_half {h : Nat} {r1 r2 r3 : List Nat} (p1 : r1.Perm (List.range h)) (p2 : r2.Perm (List.range h)) (p3 : r3.Perm (List.range h)) :
    WF (2 * h) (blk h r1 ++ blk h r2 ++ blk h r3) ∧ (∀ v, v < 2 * h → (endsF (blk h r1 ++ blk h r2 ++ blk h r3)).count v = 3) ∧ ∀ p ∈ blk h r1 ++ blk h r2 ++ blk h r3, decide (p.1 < h) ≠ decide (p.2 < h) := by
  have mem : ∀ p ∈ blk h r1 ++ blk h r2 ++ blk h r3, p.1 < h ∧ h ≤ p.2 ∧ p.2 < 2 * h := fun p hp => by
    rcases List.mem_append.mp hp with hp | hp
    · rcases List.mem_append.mp hp with hp | hp
      · exact blk_mem p1 hp
      · exact blk_mem p2 hp
    · exact blk_mem p3 hp
  refine ⟨fun p hp => ?_, fun v hv => ?_, fun p hp => ?_⟩
  · have := mem p hp; omega
  · rw [endsF_append, endsF_append, List.count_append, List.count_append, blk_count p1 hv, blk_count p2 hv, blk_count p3 hv]
  · obtain ⟨a1, a2, _⟩ := mem p hp
    rw [decide_eq_true a1, decide_eq_false (by omega)]
    exact fun z => nomatch z
/-- three ends at each vertex, paired -/
def prs (k : Nat) (row : List Nat) : List E2 := (List.range k).map fun p => (row.getD (2 * p) 0 / 3, row.getD (2 * p + 1) 0 / 3)
theorem prs_ends (f : Nat → Nat) : ∀ k : Nat, endsF ((List.range k).map fun p => (f (2 * p), f (2 * p + 1))) = (List.range (2 * k)).map f
  | 0 => rfl
  | k + 1 => by
    rw [List.range_succ, List.map_append, endsF_append, prs_ends f k, show 2 * (k + 1) = 2 * k + 1 + 1 by omega, List.range_succ, List.range_succ, List.map_append, List.map_append, List.append_assoc]
    rfl
theorem count_third {v : Nat} : ∀ n : Nat, ((List.range (3 * n)).map fun i => i / 3).count v = if v < n then 3 else 0
  | 0 => rfl
  | n + 1 => by
    rw [show 3 * (n + 1) = 3 * n + 1 + 1 + 1 by omega, List.range_succ, List.range_succ, List.range_succ, List.map_append, List.map_append, List.map_append, List.count_append, List.count_append, List.count_append, count_third n]
    simp only [List.map_cons, List.map_nil, List.count_singleton]
    have e1 : 3 * n / 3 = n := by omega
    have e2 : (3 * n + 1) / 3 = n := by omega
    have e3 : (3 * n + 1 + 1) / 3 = n := by omega
    rw [e1, e2, e3]
    by_cases h : n = v
    · subst h; simp
    · have : (n == v) = false := beq_false_of_ne h
      simp only [this, Bool.false_eq_true, if_false, Nat.add_zero]
      by_cases h2 : v < n
      · rw [if_pos h2, if_pos (show v < n + 1 by omega)]
      · rw [if_neg h2, if_neg (show ¬ v < n + 1 by omega)]
theorem base_ends {n k : Nat} {row : List Nat} (hk : 3 * n = 2 * k) (hp : row.Perm (List.range (3 * n))) : WF n (prs k row) ∧ ∀ v, v < n → (endsF (prs k row)).count v = 3 := by
  have hl : row.length = 3 * n := by rw [hp.length_eq, List.length_range]
  have e1 : endsF (prs k row) = row.map fun i => i / 3 := by
    unfold prs
    rw [prs_ends (fun i => row.getD i 0 / 3), ← hk]
    have := congrArg (List.map fun x => x / 3) (map_getD row)
    rw [List.map_map, hl] at this
    exact this
  refine ⟨fun p hm => ?_, fun v hv => ?_⟩
  · obtain ⟨i, hi, rfl⟩ := List.mem_map.mp hm
    have hi' := List.mem_range.mp hi
    have get : ∀ j, j < 3 * n → row.getD j 0 / 3 < n := fun j hj => by
      have h2 : row.getD j 0 ∈ row := by
        rw [List.getD_eq_getElem?_getD, List.getElem?_eq_getElem (by omega)]
        exact List.getElem_mem _
      have h3 := List.mem_range.mp (hp.mem_iff.mp h2)
      omega
    exact ⟨get _ (by omega), get _ (by omega)⟩
  · rw [e1, (hp.map fun i => i / 3).count_eq, count_third, if_pos hv]
/-! ### renamed -/
theorem count_nm {nm : Nat → Nat} {n u : Nat} (inj : ∀ x y, x < n → y < n → nm x = nm y → x = y) (hu : u < n) : ∀ {l : List Nat}, (∀ x ∈ l, x < n) → (l.map nm).count (nm u) = l.count u
  | [], _ => rfl
  | a :: l, h => by
    rw [List.map_cons, List.count_cons, List.count_cons, count_nm inj hu fun x hx => h x (List.mem_cons_of_mem _ hx)]
    congr 1
    by_cases e : a = u
    · subst e; simp
    · rw [if_neg (by rw [beq_iff_eq]; exact fun z => e (inj a u (h a List.mem_cons_self) hu z)), if_neg (by rw [beq_iff_eq]; exact e)]
theorem pick_perm {ps : List E2} {order : List Nat} (hp : order.Perm (List.range ps.length)) : (order.map fun j => ps.getD j (0, 0)).Perm ps := by
  have h1 := hp.map fun j => ps.getD j (0, 0)
  have h2 : (List.range ps.length).map (fun j => ps.getD j (0, 0)) = ps := by
    refine List.ext_getElem? fun i => ?_
    by_cases h : i < ps.length
    · rw [List.getElem?_map, List.getElem?_range h, List.getElem?_eq_getElem h]
      show some (ps.getD i (0, 0)) = _
      rw [List.getD_eq_getElem?_getD, List.getElem?_eq_getElem h]
      rfl
    · rw [List.getElem?_eq_none (by rw [List.length_map, List.length_range]; omega), List.getElem?_eq_none (by omega)]
  rw [h2] at h1
  exact h1
theorem endsF_perm {a b : List E2} (h : a.Perm b) : (endsF a).Perm (endsF b) := h.flatMap_right _
theorem mem_ends {n : Nat} {ps : List E2} (h : WF n ps) : ∀ x ∈ endsF ps, x < n := fun x hx => by
  obtain ⟨p, hp, hm⟩ := List.mem_flatMap.mp hx
  have := h p hp
  rcases List.mem_cons.mp hm with rfl | hm
  · exact this.1
  · rw [List.mem_singleton.mp hm]; exact this.2
theorem renamed {halves : Bool} {n : Nat} {ps found : List E2} {names order : List Nat} (n100 : n ≤ 100) (l150 : ps.length ≤ 150) (wf : WF n ps) (c3 : ∀ v, v < n → (endsF ps).count v = 3) (half : halves = true → ∃ col : Nat → Bool, ∀ p ∈ ps, col p.1 ≠ col p.2)
    (pn : names.Perm (List.range n)) (po : order.Perm (List.range ps.length)) (hl : found.length = order.length)
    (hc : ∀ v, (endsF found).count v = ((endsF (order.map fun j => ps.getD j (0, 0))).map fun x => names.getD x 0).count v)
    (hm : ∀ p ∈ found, ∃ q ∈ ps, p = (names.getD q.1 0, names.getD q.2 0) ∨ p = (names.getD q.2 0, names.getD q.1 0)) : CubicOk halves n found := by
  have ln : names.length = n := by rw [pn.length_eq, List.length_range]
  have nd : names.Nodup := pn.nodup_iff.mpr List.nodup_range
  have get : ∀ x (hx : x < n), names.getD x 0 = names[x]'(by omega) := fun x hx => by
    rw [List.getD_eq_getElem?_getD, List.getElem?_eq_getElem (by omega)]
    rfl
  have lt : ∀ x, x < n → names.getD x 0 < n := fun x hx => by
    rw [get x hx]
    exact List.mem_range.mp (pn.mem_iff.mp (List.getElem_mem _))
  have inj : ∀ x y, x < n → y < n → names.getD x 0 = names.getD y 0 → x = y := fun x y hx hy e => by
    rw [get x hx, get y hy] at e
    have h1 := nd.idxOf_getElem x (by omega)
    have h2 := nd.idxOf_getElem y (by omega)
    rw [e] at h1
    exact h1.symm.trans h2
  refine ⟨n100, by rw [hl, po.length_eq, List.length_range]; exact l150, fun p hp => ?_, fun v hv => ?_, fun hh => ?_⟩
  · obtain ⟨q, hq, e⟩ := hm p hp
    have hq' := wf q hq
    rcases e with rfl | rfl
    · exact ⟨lt _ hq'.1, lt _ hq'.2⟩
    · exact ⟨lt _ hq'.2, lt _ hq'.1⟩
  · obtain ⟨u, hu, e⟩ : ∃ u, u < n ∧ names.getD u 0 = v := by
      have hm : v ∈ names := pn.mem_iff.mpr (List.mem_range.mpr hv)
      obtain ⟨u, hu, e⟩ := List.mem_iff_getElem.mp hm
      exact ⟨u, by omega, by rw [get u (by omega)]; exact e⟩
    have hp := endsF_perm (pick_perm po)
    rw [hc, ← e, count_nm inj hu fun x hx => mem_ends wf x (hp.mem_iff.mp hx), hp.count_eq, c3 u hu]
  · obtain ⟨col, hcol⟩ := half hh
    have back : ∀ x, x < n → names.idxOf (names.getD x 0) = x := fun x hx => by rw [get x hx]; exact nd.idxOf_getElem x (by omega)
    refine ⟨fun v => col (names.idxOf v), fun p hp => ?_⟩
    obtain ⟨q, hq, e⟩ := hm p hp
    have hq' := wf q hq
    have h1 := hcol q hq
    rcases e with rfl | rfl
    · show col (names.idxOf (names.getD q.1 0)) ≠ col (names.idxOf (names.getD q.2 0))
      rw [back _ hq'.1, back _ hq'.2]; exact h1
    · show col (names.idxOf (names.getD q.2 0)) ≠ col (names.idxOf (names.getD q.1 0))
      rw [back _ hq'.1, back _ hq'.2]; exact Ne.symm h1
end Fl

set_option maxRecDepth 100000
set_option maxHeartbeats 2000000
/-! HXb: the head's facts with methods and properties: defs at addresses of one's own. -/
namespace HX
open PySem PySem.Spec PyProof.Rows L2 DL He
/-- one def: where it lies, its name, its qualified name, the statement -/
structure FY where
  adr : PySem.W.Frag → Addr
  name : Str
  qual : Str
  st : Stmt
abbrev FnY : Type := Option (Str × Str × Arguments × FuncBody × Scope × Addr × List (Str × Addr) × Value × Addr)
def yObs (K : PySem.W.Frag) (a : Addr) : FnY := match K.lookup a with
  | some ⟨_, _, .func fd, _⟩ => some (fd.name, fd.qualname, fd.params, fd.body, fd.scope, fd.globals, fd.closure, fd.defaults, fd.builtins)
  | _ => none
def FY.val (d : FY) : FnY := some (d.name, d.qual, defArgs d.st, .stmts (defBody d.st), defScope d.st, mainGlobals, [], .none, builtinsNs)
def yCode (K : PySem.W.Frag) (a : Addr) (q : Str) : Bool := match K.lookup a with
  | some ⟨_, _, .func fd, _⟩ => PySem.W.codeIn K fd.code q
  | _ => false
theorem fy_ok {K : PySem.W.Frag} {d : FY} (e : yObs K (d.adr K) = d.val) (c : yCode K (d.adr K) d.qual = true) : ∃ fdt, Fun K d.name d.qual d.st (d.adr K) fdt := by
  unfold yCode at c
  unfold yObs at e
  split at c
  · rename_i oc od fd osl lk
    rw [lk] at e
    obtain ⟨n1, n2, n3, n4, n5, n6, n7, n8, n9, n10, n11, n12, n13, n14, n15⟩ := fd
    have e2 : (some (n1, n2, n3, n4, n5, n6, n7, n8, n15) : FnY) = some (d.name, d.qual, defArgs d.st, FuncBody.stmts (defBody d.st), defScope d.st, mainGlobals, [], Value.none, builtinsNs) := e
    simp only [Option.some.injEq, Prod.mk.injEq] at e2
    obtain ⟨rfl, rfl, rfl, rfl, rfl, rfl, rfl, rfl, rfl⟩ := e2
    refine ⟨_, ⟨oc, od, _, _, _, _, _, _, osl, rfl, lk, c⟩, ?_⟩
    unfold PySem.W.keepIn
    simp only [lk]
  · cases c
abbrev AlY : Type := Bool × List FnY × List FnX
def obsY (bf : PySem.W.Frag → Bool) (P : Program) (fn : List FY) (xn : List XnD) (K : PySem.W.Frag) : AlY :=
  (bf K && ((fn.all fun d => yCode K (d.adr K) d.qual) && (xn.all fun d => iniB P K d.x d.qual)), fn.map fun d => yObs K (d.adr K), xn.map fun d => xObs K d.x)
def valY (fn : List FY) (xn : List XnD) : AlY := (true, fn.map FY.val, xn.map XnD.val)
def SaysY (bf : PySem.W.Frag → Bool) (P : Program) (fn : List FY) (xn : List XnD) (K : PySem.W.Frag) : Prop := obsY bf P fn xn K = valY fn xn
def obsYG (n : Nat) (bf : PySem.W.Frag → Bool) (P : Program) (fn : List FY) (xn : List XnD) (g : Addr → Option Obj) : AlY := obsY bf P fn xn (frG g (asX g n))
def hookY (n : Nat) (bf : PySem.W.Frag → Bool) (P : Program) (fn : List FY) (xn : List XnD) : PySem.W.Hook where
  α := AlY
  obs := fun s => obsYG n bf P fn xn s.heap.get?
  val := fun _ => valY fn xn
  says := fun _ h => ∃ K : PySem.W.Frag, K.In h ∧ SaysY bf P fn xn K
  of := fun _ _ e => ⟨_, frG_in, e⟩
  keeps := fun _ _ _ ⟨K, hK, c⟩ k => ⟨K, PySem.W.Frag.In.keeps hK k, c⟩
theorem obsYG_eq {n : Nat} {bf : PySem.W.Frag → Bool} {P : Program} {fn : List FY} {xn : List XnD} {g : Addr → Option Obj} {s : Shared} (h : ∀ a, g a = s.heap.get? a) : obsYG n bf P fn xn g = (hookY n bf P fn xn).obs s := by
  have e : g = s.heap.get? := funext h
  rw [e] <;> rfl
section
variable {bf : PySem.W.Frag → Bool} {P : Program} {fn : List FY} {xn : List XnD} {K : PySem.W.Frag}
theorem SaysY.bools (c : SaysY bf P fn xn K) : bf K = true ∧ (fn.all fun d => yCode K (d.adr K) d.qual) = true ∧ (xn.all fun d => iniB P K d.x d.qual) = true := by
  have c1 := congrArg (fun z : AlY => z.1) c
  simp only [obsY, valY, Bool.and_eq_true] at c1
  exact c1
theorem SaysY.def_ (c : SaysY bf P fn xn K) (i : Nat) {d : FY} (h : fn[i]? = some d) : ∃ fdt, Fun K d.name d.qual d.st (d.adr K) fdt := by
  have c2 := List.all_eq_true.mp c.bools.2.1 _ (List.mem_of_getElem? h)
  have e : fn.map (fun d => yObs K (d.adr K)) = fn.map FY.val := congrArg (fun z : AlY => z.2.1) c
  have e2 : (fn.map fun d => yObs K (d.adr K))[i]? = (fn.map FY.val)[i]? := by rw [e]
  rw [List.getElem?_map, List.getElem?_map, h] at e2
  exact fy_ok (Option.some.inj e2) c2
theorem SaysY.ini (c : SaysY bf P fn xn K) (i : Nat) {d : XnD} (h : xn[i]? = some d) : Ini P K d.x d.qual d.st := by
  have c2 := List.all_eq_true.mp c.bools.2.2 _ (List.mem_of_getElem? h)
  have e : xn.map (fun d => xObs K d.x) = xn.map XnD.val := congrArg (fun z : AlY => z.2.2) c
  have e2 : (xn.map fun d => xObs K d.x)[i]? = (xn.map XnD.val)[i]? := by rw [e]
  rw [List.getElem?_map, List.getElem?_map, h] at e2
  exact ini_ok (Option.some.inj e2) c2
end
/-! ### a class that makes instances -/
def insB (K : PySem.W.Frag) (C : Addr) : Bool := PySem.W.plainGet K C Str.empty && (PySem.W.hasDictIn K C && (PySem.W.plainOver K C && o1 K (.ref C) "__setattr__" (some (.builtin "object.__setattr__"))))
theorem insB_ok {K : PySem.W.Frag} {C : Addr} (h : insB K C = true) : Cls K C := by
  simp only [insB, o1, eqO, Bool.and_eq_true, decide_eq_true_eq] at h
  exact ⟨h.1, h.2.1, h.2.2.1, h.2.2.2⟩
def methB (K : PySem.W.Frag) (C : Addr) (m : Str) : Bool := o1 K (.ref C) m (some (.ref (ma K C m))) && (PySem.W.isFn K (.ref (ma K C m)) && PySem.W.keepIn K (.ref (ma K C m)))
theorem methB_ok {K : PySem.W.Frag} {C : Addr} {m : Str} (h : methB K C m = true) : Meth K C m (ma K C m) := by
  simp only [methB, o1, eqO, Bool.and_eq_true, decide_eq_true_eq] at h
  exact ⟨h.1, h.2.1, h.2.2⟩
def mkB (K : PySem.W.Frag) (C : Addr) : Bool := PySem.W.makesIn K C && (o1 K (.ref C) "__init__" (some (.ref (ma K C "__init__"))) && (PySem.W.isFn K (.ref (ma K C "__init__")) && PySem.W.keepIn K (.ref C)))
theorem mkB_ok {K : PySem.W.Frag} {C : Addr} (h : mkB K C = true) : Mk K C (ma K C "__init__") := by
  simp only [mkB, o1, eqO, Bool.and_eq_true, decide_eq_true_eq] at h
  exact ⟨h.1, h.2.1, h.2.2.1, h.2.2.2⟩
/-- a property's getter -/
def pgA (K : PySem.W.Frag) (C : Addr) (m : Str) : Addr := match PySem.W.recIn K (ma K C m) "property" with
  | some (.ref g :: _) => g
  | _ => 0
def propB (K : PySem.W.Frag) (C : Addr) (m : Str) : Bool := o1 K (.ref C) m (some (.ref (ma K C m))) && (eqO (PySem.W.specialIn K (.ref (ma K C m)) "__get__") (some (some (.builtin "property.__get__"))) && (b1 (PySem.W.takesIn K (.ref (ma K C m))) true &&
  (match PySem.W.recIn K (ma K C m) "property" with
  | some (.ref _ :: _) => true
  | _ => false)))
theorem propB_ok {K : PySem.W.Frag} {C : Addr} {m : Str} (h : propB K C m = true) : PropOf K C m (ma K C m) (pgA K C m) := by
  simp only [propB, o1, b1, eqO, Bool.and_eq_true, decide_eq_true_eq] at h
  obtain ⟨h1, h2, h3, h4⟩ := h
  refine ⟨h1, h2, h3, ?_⟩
  unfold pgA
  split at h4
  · rename_i g rest e
    rw [e]
    exact ⟨rest, rfl⟩
  · cases h4
/-- a name of the module -/
def gloB (K : PySem.W.Frag) (x : Str) : Bool := eqO (PySem.W.nsIn K mainGlobals x) (some (some (.ref (ga K x))))
def freeB (K : PySem.W.Frag) (x : Str) : Bool := eqO (PySem.W.nsIn K mainGlobals x) (some none)
section
variable {K : PySem.W.Frag} {h : Heap} {mg : Str → Option Value} {x : Str}
theorem gloB_ok (X : K.In h) (G : h.Ns mainGlobals mg) (c : gloB K x = true) : mg x = some (.ref (ga K x)) := PySem.W.mg_of X G (eqO_ok c)
theorem freeB_ok (X : K.In h) (G : h.Ns mainGlobals mg) (c : freeB K x = true) : mg x = none := PySem.W.mg_none_of X G (eqO_ok c)
end
end HX

set_option maxRecDepth 100000
set_option maxHeartbeats 0
namespace K53
open PySem PySem.Spec PyProof.Rows L2 DL Fl
def topS (i : Nat) : Stmt := PySem.Challenge.pw_nowherezero_k53_three_flows.main.body.getD i (.Pass ⟨0, 0, 0, 0⟩)
def methS (i j : Nat) : Stmt := match topS i with
  | .ClassDef _ _ _ b _ _ _ _ _ _ _ => b.getD j (.Pass ⟨0, 0, 0, 0⟩)
  | s => s
structure Blt2 (mg : Str → Option Value) : Prop extends Blt mg where
  enumerate : mg "enumerate" = none
  min : mg "min" = none
  tuple : mg "tuple" = none
  iter : mg "iter" = none
  bool : mg "bool" = none
structure GrK (K : PySem.W.Frag) (C : Addr) : Prop where
  cls : Cls K C
  na : ∀ f ∈ gFs, NoAttr K C f
section
variable {P : Program} {w : World} {K : PySem.W.Frag} {mg : Str → Option Value} {base : Heap} {C : Addr}
def g_vertices (C : Addr) : PF := fun xs P _ => ∃ n ps, xs = [gX C n ps] ∧ P (nX n)
abbrev s_vertices : Stmt := methS 13 1
theorem sc_vertices : FnScope ["self"] ["self"] (defScope s_vertices) := ⟨rfl, rfl, rfl, by decide +kernel, rfl, by decide +kernel, by decide +kernel⟩
theorem calM_vertices (B : Blt2 mg) (D : DefP K C "vertices" "Graph.vertices" s_vertices) (GK : GrK K C) : CalP P w K mg base CX0 C "vertices" 1 (g_vertices C) := by
  refine CalP.mk' D GK.cls (fun _ _ _ _ _ _ us hl => match us, hl with | [_], _ => rfl) fun f fdt F => fnD F sc_vertices (fun xs M Q E h => ?len) fun cdv A outer s H E hr => ⟨_,
    ((pssd_one (psd_ret (pd_fg GK.cls (GK.na "_many" (by decide)) (pd_var 0))))), fun xs M Qd Ed h => ?rd⟩
  case len =>
    obtain ⟨_, n, ps, rfl, _⟩ := h
    rfl
  case rd =>
    obtain ⟨rfl, n, ps, rfl, q⟩ := h
    simp only [dseq, dasg, dasgG, dgsub, setL, dop, dun, dcb, dcons, dnil, dret, dretN, dnext, ddrop, diff, dif, dtest, dand, dor, dnot, dandV, dorV, dnotV, dchain, daug, dpar, dforS, dlc, dyes, dlst, dtup, dbm, fAppend, fPop, dvar, dc, fIx, fSl, dsl, dpart, dno, fI, fI0, fU, fAdd, fMul, fInt, fAbs, fLen, fMin2, fList, fEq, fIsN, gI, gB, lstOf, lstO, newl, dgname, dgtup, dgcons, dgnil, dirng1, dirng2, dilst, ditup, dienum, dizip, stays, startD, endD, dcallP, dcallN, fS, dfz, fzK, dbreak, dcont, wipeD, List.map_cons, List.map_nil, List.length_cons, List.length_nil, List.replicate, List.cons_append, List.nil_append, List.getElem?_cons_zero, List.getElem?_cons_succ, List.set_cons_zero, List.set_cons_succ, atI_zero, atI_one, atI_two, atI_three, ixN_zero, ixN_one, mset_same, mset_mset, mdel_mset, List.length_map, vw_one, Option.isSome_some, true_and, and_true, dmk, dmk0, dxf, disx, mkS, okX, dfg, fldK, fld_many]
    exact rt_pure rfl q
def g_len (C : Addr) : PF := fun xs P _ => ∃ n ps, xs = [gX C n ps] ∧ P (nX ps.length)
abbrev s_len__ : Stmt := methS 13 3
theorem sc_len__ : FnScope ["self"] ["self"] (defScope s_len__) := ⟨rfl, rfl, rfl, by decide +kernel, rfl, by decide +kernel, by decide +kernel⟩
theorem calM_len__ (B : Blt2 mg) (D : DefM K C "__len__" "Graph.__len__" s_len__) (GK : GrK K C) : CalL P w K mg base CX0 C 1 (g_len C) := by
  refine CalL.mk' D (fun _ _ _ _ _ _ us hl => match us, hl with | [_], _ => rfl) fun f fdt F => fnD F sc_len__ (fun xs M Q E h => ?len) fun cdv A outer s H E hr => ⟨_,
    ((pssd_one (psd_ret (pd_callB call_len_seq snd_len (by rfl) B.len PySem.boot_len (pad_cons (pd_fg GK.cls (GK.na "_pairs" (by decide)) (pd_var 0)) pad_nil))))), fun xs M Qd Ed h => ?rd⟩
  case len =>
    obtain ⟨_, n, ps, rfl, _⟩ := h
    rfl
  case rd =>
    obtain ⟨rfl, n, ps, rfl, q⟩ := h
    simp only [dseq, dasg, dasgG, dgsub, setL, dop, dun, dcb, dcons, dnil, dret, dretN, dnext, ddrop, diff, dif, dtest, dand, dor, dnot, dandV, dorV, dnotV, dchain, daug, dpar, dforS, dlc, dyes, dlst, dtup, dbm, fAppend, fPop, dvar, dc, fIx, fSl, dsl, dpart, dno, fI, fI0, fU, fAdd, fMul, fInt, fAbs, fLen, fMin2, fList, fEq, fIsN, gI, gB, lstOf, lstO, newl, dgname, dgtup, dgcons, dgnil, dirng1, dirng2, dilst, ditup, dienum, dizip, stays, startD, endD, dcallP, dcallN, fS, dfz, fzK, dbreak, dcont, wipeD, List.map_cons, List.map_nil, List.length_cons, List.length_nil, List.replicate, List.cons_append, List.nil_append, List.getElem?_cons_zero, List.getElem?_cons_succ, List.set_cons_zero, List.set_cons_succ, atI_zero, atI_one, atI_two, atI_three, ixN_zero, ixN_one, mset_same, mset_mset, mdel_mset, List.length_map, vw_one, Option.isSome_some, true_and, and_true, dmk, dmk0, dxf, disx, mkS, okX, dfg, fldK, fld_pairs]
    exact rt_pure rfl q
theorem propV {k n : Nat} {ps : List E2} {Er : ErrK} {M : Mu} {Q : VKd} : propK k C (g_vertices C) Er (gX C n ps) M Q = Q (nX n) M := by
  refine propext ⟨fun ⟨_, n', ps', e, h⟩ => ?_, fun h => ⟨⟨_, _, objOf_gX⟩, n, ps, by rw [vw_gX], h⟩⟩
  rw [vw_gX] at e
  simp only [gX, List.cons.injEq, X.obj.injEq, X.int.injEq, true_and, and_true] at e
  have e1 : n = n' := by omega
  rw [e1]; exact h
theorem lenV {k n : Nat} {ps : List E2} {Er : ErrK} {M : Mu} {Q : VKd} (hl : ps.length ≤ 1000000) : lenK k C (g_len C) Er (gX C n ps) M Q = Q (nX ps.length) M := by
  refine propext ⟨fun ⟨_, n', ps', e, i, ei, _, _, h⟩ => ?_, fun h => ⟨⟨_, _, objOf_gX⟩, n, ps, by rw [vw_gX], _, rfl, by omega, by omega, h⟩⟩
  rw [vw_gX] at e
  simp only [gX, List.cons.injEq, X.obj.injEq, X.lst.injEq, true_and, and_true] at e
  have e1 := congrArg List.length e.2.1
  rw [List.length_map, List.length_map] at e1
  cases ei
  rw [e1]; exact h
theorem line_ge {n : Nat} (h : n ≤ 1000000) : n ≤ sizeLine := by rw [sizeLine_eq]; omega
theorem line_gt {n : Nat} (h : n ≤ 1000000) : n < sizeLine := by rw [sizeLine_eq]; omega
theorem tt {p : Prop} [Decidable p] (h : p) : decide p = true := decide_eq_true h
theorem ff {p : Prop} [Decidable p] (h : ¬ p) : decide p = false := decide_eq_false h
def g_ends (C : Addr) : PF := fun xs P _ => ∃ n ps e, xs = [gX C n ps, nX e] ∧ e < ps.length ∧ P (pX (ps.getD e (0, 0)))
abbrev s_ends : Stmt := methS 13 6
theorem sc_ends : FnScope ["self", "edge"] ["self", "edge"] (defScope s_ends) := ⟨rfl, rfl, rfl, by decide +kernel, rfl, by decide +kernel, by decide +kernel⟩
theorem calM_ends (B : Blt2 mg) (D : DefM K C "ends" "Graph.ends" s_ends) (GK : GrK K C) : CalM P w K mg base CX0 C "ends" 1 ["self", "edge"] (PFd (g_ends C)) := by
  refine CalM.mk' D GK.cls (fun _ _ _ _ _ _ us hl => match us, hl with | [_, _], _ => rfl) fun f fdt F => fnD F sc_ends (fun xs M Q E h => ?len) fun cdv A outer s H E hr => ⟨_,
    ((pssd_cons (psd_if (ptd_not (ptd_chain op_le snd_B op_lt snd_B pd_int (pd_var 1) (pd_callB call_len_seq snd_len (by rfl) B.len PySem.boot_len (pad_cons (pd_fg GK.cls (GK.na "_pairs" (by decide)) (pd_var 0)) pad_nil))))
(pssd_one psd_dead)
pssd_nil)
(pssd_one (psd_ret (pd_ix (pd_fg GK.cls (GK.na "_pairs" (by decide)) (pd_var 0)) (pd_var 1)))))), fun xs M Qd Ed h => ?rd⟩
  case len =>
    obtain ⟨_, n, ps, e, rfl, _⟩ := h
    rfl
  case rd =>
    obtain ⟨rfl, n, ps, e, rfl, he, q⟩ := h
    simp only [dseq, dasg, dasgG, dgsub, setL, dop, dun, dcb, dcons, dnil, dret, dretN, dnext, ddrop, diff, dif, dtest, dand, dor, dnot, dandV, dorV, dnotV, dchain, daug, dpar, dforS, dlc, dyes, dlst, dtup, dbm, fAppend, fPop, dvar, dc, fIx, fSl, dsl, dpart, dno, fI, fI0, fU, fAdd, fMul, fInt, fAbs, fLen, fMin2, fList, fEq, fIsN, gI, gB, lstOf, lstO, newl, dgname, dgtup, dgcons, dgnil, dirng1, dirng2, dilst, ditup, dienum, dizip, stays, startD, endD, dcallP, dcallN, fS, dfz, fzK, dbreak, dcont, wipeD, List.map_cons, List.map_nil, List.length_cons, List.length_nil, List.replicate, List.cons_append, List.nil_append, List.getElem?_cons_zero, List.getElem?_cons_succ, List.set_cons_zero, List.set_cons_succ, atI_zero, atI_one, atI_two, atI_three, ixN_zero, ixN_one, mset_same, mset_mset, mdel_mset, List.length_map, vw_one, Option.isSome_some, true_and, and_true, dmk, dmk0, dxf, disx, mkS, okX, dfg, fldK, fld_pairs]
    rw [tt (show (0 : Int) ≤ (e : Int) by omega), tt (show (e : Int) < (ps.length : Int) by omega)]
    simp only [dseq, dasg, dasgG, dgsub, setL, dop, dun, dcb, dcons, dnil, dret, dretN, dnext, ddrop, diff, dif, dtest, dand, dor, dnot, dandV, dorV, dnotV, dchain, daug, dpar, dforS, dlc, dyes, dlst, dtup, dbm, fAppend, fPop, dvar, dc, fIx, fSl, dsl, dpart, dno, fI, fI0, fU, fAdd, fMul, fInt, fAbs, fLen, fMin2, fList, fEq, fIsN, gI, gB, lstOf, lstO, newl, dgname, dgtup, dgcons, dgnil, dirng1, dirng2, dilst, ditup, dienum, dizip, stays, startD, endD, dcallP, dcallN, fS, dfz, fzK, dbreak, dcont, wipeD, List.map_cons, List.map_nil, List.length_cons, List.length_nil, List.replicate, List.cons_append, List.nil_append, List.getElem?_cons_zero, List.getElem?_cons_succ, List.set_cons_zero, List.set_cons_succ, atI_zero, atI_one, atI_two, atI_three, ixN_zero, ixN_one, mset_same, mset_mset, mdel_mset, List.length_map, vw_one, Option.isSome_some, true_and, and_true, dmk, dmk0, dxf, disx, mkS, okX, Bool.not_true, atM pX he (0, 0)]
    exact rt_pure rfl q
def g_edges_at (C : Addr) : NF := fun xs Q _ => ∃ n ps v, xs = [gX C n ps, nX v] ∧ v < n ∧ Q ((inc ps v).map nX)
theorem mono_edges_at : MonoN (g_edges_at C) := fun _ _ _ _ h ⟨n, ps, v, e, hv, q⟩ => ⟨n, ps, v, e, hv, h _ q⟩
abbrev s_edges_at : Stmt := methS 13 7
theorem sc_edges_at : FnScope ["self", "vertex"] ["self", "vertex"] (defScope s_edges_at) := ⟨rfl, rfl, rfl, by decide +kernel, rfl, by decide +kernel, by decide +kernel⟩
theorem calM_edges_at (B : Blt2 mg) (D : DefM K C "edges_at" "Graph.edges_at" s_edges_at) (GK : GrK K C) : CalM P w K mg base CX0 C "edges_at" 1 ["self", "vertex"] (NFd (g_edges_at C)) := by
  refine CalM.mk' D GK.cls (fun _ _ _ _ _ _ us hl => match us, hl with | [_, _], _ => rfl) fun f fdt F => fnD F sc_edges_at (fun xs M Q E h => ?len) fun cdv A outer s H E hr => ⟨_,
    ((pssd_cons (psd_if (ptd_not (ptd_chain op_le snd_B op_lt snd_B pd_int (pd_var 1) (pd_fg GK.cls (GK.na "_many" (by decide)) (pd_var 0))))
(pssd_one psd_dead)
pssd_nil)
(pssd_one (psd_ret (pd_callTy call_list_of (snd_list true) (by rfl) B.list (by decide +kernel) (pad_cons (pd_ix (pd_fg GK.cls (GK.na "_at" (by decide)) (pd_var 0)) (pd_var 1)) pad_nil)))))), fun xs M Qd Ed h => ?rd⟩
  case len =>
    obtain ⟨_, n, ps, v, rfl, _⟩ := h
    rfl
  case rd =>
    obtain ⟨rfl, n, ps, v, rfl, hv, q⟩ := h
    simp only [dseq, dasg, dasgG, dgsub, setL, dop, dun, dcb, dcons, dnil, dret, dretN, dnext, ddrop, diff, dif, dtest, dand, dor, dnot, dandV, dorV, dnotV, dchain, daug, dpar, dforS, dlc, dyes, dlst, dtup, dbm, fAppend, fPop, dvar, dc, fIx, fSl, dsl, dpart, dno, fI, fI0, fU, fAdd, fMul, fInt, fAbs, fLen, fMin2, fList, fEq, fIsN, gI, gB, lstOf, lstO, newl, dgname, dgtup, dgcons, dgnil, dirng1, dirng2, dilst, ditup, dienum, dizip, stays, startD, endD, dcallP, dcallN, fS, dfz, fzK, dbreak, dcont, wipeD, List.map_cons, List.map_nil, List.length_cons, List.length_nil, List.replicate, List.cons_append, List.nil_append, List.getElem?_cons_zero, List.getElem?_cons_succ, List.set_cons_zero, List.set_cons_succ, atI_zero, atI_one, atI_two, atI_three, ixN_zero, ixN_one, mset_same, mset_mset, mdel_mset, List.length_map, vw_one, Option.isSome_some, true_and, and_true, dmk, dmk0, dxf, disx, mkS, okX, dfg, fldK, fld_many, fld_at]
    rw [tt (show (0 : Int) ≤ (v : Int) by omega), tt (show (v : Int) < (n : Int) by omega)]
    simp only [dseq, dasg, dasgG, dgsub, setL, dop, dun, dcb, dcons, dnil, dret, dretN, dnext, ddrop, diff, dif, dtest, dand, dor, dnot, dandV, dorV, dnotV, dchain, daug, dpar, dforS, dlc, dyes, dlst, dtup, dbm, fAppend, fPop, dvar, dc, fIx, fSl, dsl, dpart, dno, fI, fI0, fU, fAdd, fMul, fInt, fAbs, fLen, fMin2, fList, fEq, fIsN, gI, gB, lstOf, lstO, newl, dgname, dgtup, dgcons, dgnil, dirng1, dirng2, dilst, ditup, dienum, dizip, stays, startD, endD, dcallP, dcallN, fS, dfz, fzK, dbreak, dcont, wipeD, List.map_cons, List.map_nil, List.length_cons, List.length_nil, List.replicate, List.cons_append, List.nil_append, List.getElem?_cons_zero, List.getElem?_cons_succ, List.set_cons_zero, List.set_cons_succ, atI_zero, atI_one, atI_two, atI_three, ixN_zero, ixN_one, mset_same, mset_mset, mdel_mset, List.length_map, vw_one, Option.isSome_some, true_and, and_true, dmk, dmk0, dxf, disx, mkS, okX, Bool.not_true, atR (fun v => X.lst true ((inc ps v).map nX)) hv]
    intro p hp
    exact rt_new mset_same (own_nX _) (q p hp)
theorem ev_ends {o : DE} {a : DA} {δ : Dl} {M M1 M2 : Mu} {n e k : Nat} {ps : List E2} {Er : ErrK} (h : Ev o δ M (gX C n ps) M1) (ha : EvA a δ M1 [nX e] M2) (he : e < ps.length) : Ev (dmethP k C "ends" (g_ends C) Er o a) δ M (pX (ps.getD e (0, 0))) M2 := fun Q q =>
  h _ ⟨rfl, by decide, ha _ ⟨n, ps, e, by simp, he, q⟩⟩
def deg (ps : List E2) (v : Nat) : Nat := (inc ps v).length + ((inc ps v).filter fun e => decide (tl ps e = hd ps e)).length
def g_degree (C : Addr) : PF := fun xs P _ => ∃ n ps v, xs = [gX C n ps, nX v] ∧ v < n ∧ ps.length ≤ 1000000 ∧ P (nX (deg ps v))
theorem get_pX {ps : List E2} {e : Nat} (h : e < ps.length) : ps.getD e (0, 0) = (tl ps e, hd ps e) := rfl
abbrev s_degree : Stmt := methS 13 8
theorem sc_degree : FnScope ["self", "vertex", "edges", "edge"] ["self", "vertex"] (defScope s_degree) := ⟨rfl, rfl, rfl, by decide +kernel, rfl, by decide +kernel, by decide +kernel⟩
theorem calM_degree (B : Blt2 mg) (D : DefM K C "degree" "Graph.degree" s_degree) (m_edges_at : CalM P w K mg base CX0 C "edges_at" 1 ["self", "vertex"] (NFd (g_edges_at C))) (GK : GrK K C) : CalM P w K mg base CX0 C "degree" 2 ["self", "vertex"] (PFd (g_degree C)) := by
  refine CalM.mk' D GK.cls (fun _ _ _ _ _ _ us hl => match us, hl with | [_, _], _ => rfl) fun f fdt F => fnD F sc_degree (fun xs M Q E h => ?len) fun cdv A outer s H E hr => ⟨_,
    ((pssd_cons (psd_set 2 sc_degree.nd (pd_methN 3 false mono_edges_at m_edges_at (hr.mono (by decide)).toRoom pass0 we0 (pd_var 0) (pad_cons (pd_var 1) pad_nil)))
(pssd_one (psd_ret (pd_add false (pd_callB call_len_seq snd_len (by rfl) B.len PySem.boot_len (pad_cons (pd_var 2) pad_nil)) (pd_callB call_len_seq snd_len (by rfl) B.len PySem.boot_len (pad_cons (pd_lc false [("edge", 3)] anti0 sc_degree.nd (pid_list (pd_var 2)) (blkOk_by (own := [("edge", 3)]) (N := ["self", "vertex", "edges", "edge"]) (sc := defScope s_degree) (by decide +kernel)) (fun _ _ _ _ _ => (pgl_name 3 sc_degree.nd)) (fun _ _ _ _ _ => (ptsd_one (ptd_cmp op_eq snd_eq (pd_ix (pd_ix (pd_fg GK.cls (GK.na "_pairs" (by decide)) (pd_var 0)) (pd_var 3)) pd_int) (pd_ix (pd_ix (pd_fg GK.cls (GK.na "_pairs" (by decide)) (pd_var 0)) (pd_var 3)) pd_int) (nomark _)))) (fun _ _ _ _ _ => (pd_var 3))) pad_nil))))))), fun xs M Qd Ed h => ?rd⟩
  case len =>
    obtain ⟨_, n, ps, v, rfl, _⟩ := h
    rfl
  case rd =>
    obtain ⟨rfl, n, ps, v, rfl, hv, hl, q⟩ := h
    simp only [dseq, dasg, dasgG, dgsub, setL, dop, dun, dcb, dcons, dnil, dret, dretN, dnext, ddrop, diff, dif, dtest, dand, dor, dnot, dandV, dorV, dnotV, dchain, daug, dpar, dforS, dlc, dyes, dlst, dtup, dbm, fAppend, fPop, dvar, dc, fIx, fSl, dsl, dpart, dno, fI, fI0, fU, fAdd, fMul, fInt, fAbs, fLen, fMin2, fList, fEq, fIsN, gI, gB, lstOf, lstO, newl, dgname, dgtup, dgcons, dgnil, dirng1, dirng2, dilst, ditup, dienum, dizip, stays, startD, endD, dcallP, dcallN, fS, dfz, fzK, dbreak, dcont, wipeD, List.map_cons, List.map_nil, List.length_cons, List.length_nil, List.replicate, List.cons_append, List.nil_append, List.getElem?_cons_zero, List.getElem?_cons_succ, List.set_cons_zero, List.set_cons_succ, atI_zero, atI_one, atI_two, atI_three, ixN_zero, ixN_one, mset_same, mset_mset, mdel_mset, List.length_map, vw_one, Option.isSome_some, true_and, and_true, dmk, dmk0, dxf, disx, mkS, okX, dmethN, objOf_gX, vw_gX, vw_int]
    refine ⟨by decide, n, ps, v, rfl, hv, ?_⟩
    refine dlc_filter (as := inc ps v) (pr := fun e => decide (tl ps e = hd ps e)) (v := nX) (by have := @inc_len ps v; omega) trivial ?_ fun e R S he h1 h2 => ?_
    · rw [List.length_map, List.length_map]
      exact rt_pure rfl q
    · obtain ⟨hlt, _⟩ := inc_mem he
      simp only [dseq, dasg, dasgG, dgsub, setL, dop, dun, dcb, dcons, dnil, dret, dretN, dnext, ddrop, diff, dif, dtest, dand, dor, dnot, dandV, dorV, dnotV, dchain, daug, dpar, dforS, dlc, dyes, dlst, dtup, dbm, fAppend, fPop, dvar, dc, fIx, fSl, dsl, dpart, dno, fI, fI0, fU, fAdd, fMul, fInt, fAbs, fLen, fMin2, fList, fEq, fIsN, gI, gB, lstOf, lstO, newl, dgname, dgtup, dgcons, dgnil, dirng1, dirng2, dilst, ditup, dienum, dizip, stays, startD, endD, dcallP, dcallN, fS, dfz, fzK, dbreak, dcont, wipeD, List.map_cons, List.map_nil, List.length_cons, List.length_nil, List.replicate, List.cons_append, List.nil_append, List.getElem?_cons_zero, List.getElem?_cons_succ, List.set_cons_zero, List.set_cons_succ, atI_zero, atI_one, atI_two, atI_three, ixN_zero, ixN_one, mset_same, mset_mset, mdel_mset, List.length_map, vw_one, Option.isSome_some, true_and, and_true, dmk, dmk0, dxf, disx, mkS, okX, dfg, fldK, fld_pairs, atM pX hlt (0, 0), get_pX hlt, pX]
      cases ed : decide (tl ps e = hd ps e) with
      | true =>
        rw [tt (show (tl ps e : Int) = (hd ps e : Int) by have := of_decide_eq_true ed; omega)]
        exact h1 ed
      | false =>
        rw [ff (show ¬ (tl ps e : Int) = (hd ps e : Int) by have := of_decide_eq_false ed; omega)]
        exact h2 ed
def incT (ps : List E2) (i v : Nat) : List Nat := (List.range i).filter fun e => decide (tl ps e = v) || decide (hd ps e = v)
theorem incT_succ {ps : List E2} {i v : Nat} : incT ps (i + 1) v = incT ps i v ++ if tl ps i = v ∨ hd ps i = v then [i] else [] := by
  unfold incT
  rw [List.range_succ, List.filter_append]
  congr 1
  by_cases h : tl ps i = v ∨ hd ps i = v
  · rw [if_pos h, List.filter_cons_of_pos (by simpa using h)]
    rfl
  · rw [if_neg h, List.filter_cons_of_neg (by simpa using h)]
    rfl
theorem nodup_inj {α : Type} {as : List α} {q : α} {i j : Nat} (h : as.Nodup) (hi : as[i]? = some q) (hj : as[j]? = some q) : i = j := by
  obtain ⟨i1, i2⟩ := List.getElem?_eq_some_iff.mp hi
  obtain ⟨j1, j2⟩ := List.getElem?_eq_some_iff.mp hj
  have key := List.pairwise_iff_getElem.mp h
  rcases Nat.lt_trichotomy i j with l | l | l
  · exact absurd (i2.trans j2.symm) (key i j i1 j1 l)
  · exact l
  · exact absurd (j2.trans i2.symm) (key j i j1 i1 l)
/-- __init__'s state -/
structure Gs (C p pp pa : Addr) (as : List Addr) (n : Nat) (M : Mu) (xs : List X) (L : Nat → List X) : Prop where
  s : M p = some (.ins C gFs [nX n, .ptr pp, .ptr pa])
  l : M pp = some (.lst xs)
  a : M pa = some (.lst (as.map X.ptr))
  c : ∀ v, v < n → ∃ q, as[v]? = some q ∧ M q = some (.lst (L v))
  len : as.length = n
  nd : as.Nodup
  n1 : p ≠ pp
  n2 : p ≠ pa
  n3 : pp ≠ pa
  m1 : p ∉ as
  m2 : pp ∉ as
  m3 : pa ∉ as
  o : ownM M
theorem ownM_mset {M : Mu} {p : Addr} {c : Cell} (h : ownM M) (hc : ownC c = true) : ownM (mset M p c) := fun a d e => by
  by_cases ha : a = p
  · rw [ha, mset_same] at e; cases e; exact hc
  · rw [mset_ne ha] at e; exact h a d e
section
variable {p pp pa : Addr} {as : List Addr} {n : Nat} {M : Mu} {xs ys : List X} {L : Nat → List X}
theorem mem_at {q : Addr} {v : Nat} (h : as[v]? = some q) : q ∈ as := List.mem_of_getElem? h
theorem Gs.pairs (G : Gs C p pp pa as n M xs L) (hy : ownA ys = true) : Gs C p pp pa as n (mset M pp (.lst ys)) ys L :=
  ⟨by rw [mset_ne G.n1]; exact G.s, mset_same, by rw [mset_ne (Ne.symm G.n3)]; exact G.a, fun v hv => by
    obtain ⟨q, h1, h2⟩ := G.c v hv
    exact ⟨q, h1, by rw [mset_ne fun e => G.m2 (by rw [← e]; exact mem_at h1)]; exact h2⟩, G.len, G.nd, G.n1, G.n2, G.n3, G.m1, G.m2, G.m3, ownM_mset G.o hy⟩
theorem Gs.at {q : Addr} {u : Nat} (G : Gs C p pp pa as n M xs L) (hq : as[u]? = some q) (hy : ownA ys = true) : Gs C p pp pa as n (mset M q (.lst ys)) xs (fun v => if v = u then ys else L v) := by
  have hm := mem_at hq
  refine ⟨by rw [mset_ne fun e => G.m1 (by rw [e]; exact hm)]; exact G.s, by rw [mset_ne fun e => G.m2 (by rw [e]; exact hm)]; exact G.l, by rw [mset_ne fun e => G.m3 (by rw [e]; exact hm)]; exact G.a, fun v hv => ?_, G.len, G.nd, G.n1, G.n2, G.n3, G.m1, G.m2, G.m3, ownM_mset G.o hy⟩
  obtain ⟨q', h1, h2⟩ := G.c v hv
  refine ⟨q', h1, ?_⟩
  by_cases hvu : v = u
  · subst hvu
    rw [h1] at hq
    cases hq
    rw [mset_same, if_pos rfl]
  · have hne : q' ≠ q := fun e => by
      subst e
      exact hvu (nodup_inj G.nd h1 hq)
    rw [mset_ne hne, if_neg hvu]
    exact h2
theorem Gs.congr {L' : Nat → List X} (G : Gs C p pp pa as n M xs L) (h : ∀ v, v < n → L v = L' v) : Gs C p pp pa as n M xs L' := ⟨G.s, G.l, G.a, fun v hv => by rw [← h v hv]; exact G.c v hv, G.len, G.nd, G.n1, G.n2, G.n3, G.m1, G.m2, G.m3, G.o⟩
theorem Gs.fp (G : Gs C p pp pa as n M xs L) : fldOf M C "_pairs" (.ptr p) = some (.ptr pp) := by rw [fldOf_ptr G.s]; rfl
theorem Gs.fa (G : Gs C p pp pa as n M xs L) : fldOf M C "_at" (.ptr p) = some (.ptr pa) := by rw [fldOf_ptr G.s]; rfl
theorem frz_leaf {M : Mu} {k : Nat} {x : X} (h : ∀ q, x ≠ .ptr q) : frz M k x = x := by
  cases k with
  | zero => cases x <;> rfl
  | succ k => cases x <;> first | rfl | exact absurd rfl (h _)
theorem frz_all {M : Mu} {k : Nat} : ∀ {l : List X}, (∀ x ∈ l, ∀ q, x ≠ .ptr q) → l.map (frz M k) = l
  | [], _ => rfl
  | x :: l, h => by rw [List.map_cons, frz_leaf (h x List.mem_cons_self), frz_all fun y hy => h y (List.mem_cons_of_mem _ hy)]
theorem frz_lst {M : Mu} {k : Nat} {q : Addr} {l : List X} (h : M q = some (.lst l)) (hl : ∀ x ∈ l, ∀ q, x ≠ .ptr q) : frz M (k + 1) (.ptr q) = .lst true l := by
  unfold frz
  simp only [h, frz_all hl]
theorem Gs.frz {ps : List E2} (G : Gs C p pp pa as n M (ps.map pX) (fun v => (inc ps v).map nX)) : DL.frz M 4 (.ptr p) = gX C n ps := by
  have e1 : DL.frz M 4 (.ptr p) = .obj true C gFs ([nX n, .ptr pp, .ptr pa].map (DL.frz M 3)) := by
    show (match M p with
      | some (.lst zs) => X.lst true (zs.map (DL.frz M 3))
      | some (.ins C ns zs) => .obj true C ns (zs.map (DL.frz M 3))
      | _ => .ptr p) = _
    rw [G.s]
  have e2 : DL.frz M 3 (.ptr pp) = .lst true (ps.map pX) := frz_lst G.l fun x hx q e => by
    obtain ⟨y, _, rfl⟩ := List.mem_map.mp hx
    cases e
  have e3 : DL.frz M 3 (.ptr pa) = .lst true ((as.map X.ptr).map (DL.frz M 2)) := by
    show (match M pa with
      | some (.lst zs) => X.lst true (zs.map (DL.frz M 2))
      | some (.ins C ns zs) => .obj true C ns (zs.map (DL.frz M 2))
      | _ => .ptr pa) = _
    rw [G.a]
  have e4 : (as.map X.ptr).map (DL.frz M 2) = (List.range n).map fun v => .lst true ((inc ps v).map nX) := by
    refine List.ext_getElem? fun v => ?_
    by_cases hv : v < n
    · obtain ⟨q, h1, h2⟩ := G.c v hv
      rw [lookM _ (List.getElem?_range hv), List.map_map, lookM _ h1]
      refine congrArg some (frz_lst h2 fun x hx q e => ?_)
      obtain ⟨y, _, rfl⟩ := List.mem_map.mp hx
      cases e
    · rw [List.getElem?_eq_none (by rw [List.length_map, List.length_map, G.len]; omega), List.getElem?_eq_none (by rw [List.length_map, List.length_range]; omega)]
  rw [e1, List.map_cons, List.map_cons, List.map_cons, List.map_nil, e2, e3, e4]
  rfl
end
def f_make (C : Addr) : PF := fun xs P _ => ∃ n ps b, xs = [nX n, .lst b (ps.map pX)] ∧ n ≤ 1000000 ∧ ps.length ≤ 1000000 ∧ WF n ps ∧ P (gX C n ps)
theorem mono_make : ∀ xs P P' E, (∀ y, P y → P' y) → f_make C xs P E → f_make C xs P' E := fun _ _ _ _ h ⟨n, ps, b, e, h1, h2, h3, q⟩ => ⟨n, ps, b, e, h1, h2, h3, h _ q⟩
abbrev s_init__ : Stmt := methS 13 0
theorem sc_init__ : FnScope ["self", "vertices", "edges", "index", "tail", "head", "vertex"] ["self", "vertices", "edges"] (defScope s_init__) := ⟨rfl, rfl, rfl, by decide +kernel, rfl, by decide +kernel, by decide +kernel⟩
theorem calM_init__ (B : Blt2 mg) (D : DefI K mg "Graph" C "Graph.__init__" s_init__) (GK : GrK K C) : CalI P w K mg base CX0 "Graph" 1 C ["vertices", "edges"] (f_make C) := by
  refine CalI.mk' D mono_make (fun _ _ _ _ _ _ us hl => match us, hl with | [_, _, _], _ => rfl) fun f fdt F => fnD F sc_init__ (fun xs M Q E h => ?len) fun cdv A outer s H E hr => ⟨_,
    ((pssd_cons (psd_if (ptd_cmp op_lt snd_B (pd_var 1) pd_int (nomark _))
(pssd_one psd_dead)
pssd_nil)
(pssd_cons (psd_fg GK.cls (GK.na "_many" (by decide)) (pd_var 0) (pd_var 1))
(pssd_cons (psd_fg GK.cls (GK.na "_pairs" (by decide)) (pd_var 0) (pd_lst true pad_nil))
(pssd_cons (psd_fg GK.cls (GK.na "_at" (by decide)) (pd_var 0) (pd_lc true [("vertex", 6)] anti0 sc_init__.nd (pid_range1 (by rfl) B.range (pad_cons (pd_var 1) pad_nil)) (blkOk_by (own := [("vertex", 6)]) (N := ["self", "vertices", "edges", "index", "tail", "head", "vertex"]) (sc := defScope s_init__) (by decide +kernel)) (fun _ _ _ _ _ => (pgl_name 6 sc_init__.nd)) (fun _ _ _ _ _ => ptsd_nil) (fun _ _ _ _ _ => (pd_lst true pad_nil))))
(pssd_one (psd_for anti0 PassesOwn.never rfl (pid_enum (by rfl) B.enumerate (pad_cons (pd_var 2) pad_nil)) (pgd_tup (n := 2) rfl (pgsd_cons (pgd_name 3 sc_init__.nd) (pgsd_cons (pgd_tup (n := 2) rfl (pgsd_cons (pgd_name 4 sc_init__.nd) (pgsd_cons (pgd_name 5 sc_init__.nd) pgsd_nil))) pgsd_nil)))
(pssd_cons (psd_if (pwd_or (ptd_not (ptd_chain op_le snd_B op_lt snd_B pd_int (pd_var 4) (pd_var 1))) (pwd_or1 (ptd_not (ptd_chain op_le snd_B op_lt snd_B pd_int (pd_var 5) (pd_var 1))))).pt
(pssd_one psd_dead)
pssd_nil)
(pssd_cons (psd_expr (pd_bm PySem.F.slot_list_append PySem.F.type_list_append mt_append snd_append (pd_fg GK.cls (GK.na "_pairs" (by decide)) (pd_var 0)) (pad_cons (pd_tup (pad_cons (pd_var 4) (pad_cons (pd_var 5) pad_nil))) pad_nil)))
(pssd_cons (psd_expr (pd_bm PySem.F.slot_list_append PySem.F.type_list_append mt_append snd_append (pd_ix (pd_fg GK.cls (GK.na "_at" (by decide)) (pd_var 0)) (pd_var 4)) (pad_cons (pd_var 3) pad_nil)))
(pssd_one (psd_if (ptd_cmp op_ne snd_ne (pd_var 5) (pd_var 4) (nomark _))
(pssd_one (psd_expr (pd_bm PySem.F.slot_list_append PySem.F.type_list_append mt_append snd_append (pd_ix (pd_fg GK.cls (GK.na "_at" (by decide)) (pd_var 0)) (pd_var 5)) (pad_cons (pd_var 3) pad_nil))))
pssd_nil)))))))))))), fun xs M Qd Ed h => ?rd⟩
  case len =>
    obtain ⟨p, r, rfl, _, n, ps, b, rfl, _⟩ := h
    rfl
  case rd =>
    obtain ⟨p, r, rfl, rfl, n, ps, b, rfl, hn, hl, wf, q⟩ := h
    simp only [dseq, dasg, dasgG, dgsub, setL, dop, dun, dcb, dcons, dnil, dret, dretN, dnext, ddrop, diff, dif, dtest, dand, dor, dnot, dandV, dorV, dnotV, dchain, daug, dpar, dforS, dlc, dyes, dlst, dtup, dbm, fAppend, fPop, dvar, dc, fIx, fSl, dsl, dpart, dno, fI, fI0, fU, fAdd, fMul, fInt, fAbs, fLen, fMin2, fList, fEq, fIsN, gI, gB, lstOf, lstO, newl, dgname, dgtup, dgcons, dgnil, dirng1, dirng2, dilst, ditup, dienum, dizip, stays, startD, endD, dcallP, dcallN, fS, dfz, fzK, dbreak, dcont, wipeD, List.map_cons, List.map_nil, List.length_cons, List.length_nil, List.replicate, List.cons_append, List.nil_append, List.getElem?_cons_zero, List.getElem?_cons_succ, List.set_cons_zero, List.set_cons_succ, atI_zero, atI_one, atI_two, atI_three, ixN_zero, ixN_one, mset_same, mset_mset, mdel_mset, List.length_map, vw_one, Option.isSome_some, true_and, and_true, dmk, dmk0, dxf, disx, mkS, okX, ff (show ¬ (n : Int) < (0 : Int) by omega), dsfg]
    refine putI_i (xs := []) mset_same (by simp) (by decide) ?_
    refine ⟨Nat.zero_le _, fun pp hpp => ?_⟩
    have n1 : p ≠ pp := fun e => by rw [e, mset_same] at hpp; cases hpp
    refine putI_i (ns := ["_many"]) (xs := [nX n]) (by rw [mset_ne n1, mset_same]; rfl) (by decide) (by decide) ?_
    simp only [dseq, dasg, dasgG, dgsub, setL, dop, dun, dcb, dcons, dnil, dret, dretN, dnext, ddrop, diff, dif, dtest, dand, dor, dnot, dandV, dorV, dnotV, dchain, daug, dpar, dforS, dlc, dyes, dlst, dtup, dbm, fAppend, fPop, dvar, dc, fIx, fSl, dsl, dpart, dno, fI, fI0, fU, fAdd, fMul, fInt, fAbs, fLen, fMin2, fList, fEq, fIsN, gI, gB, lstOf, lstO, newl, dgname, dgtup, dgcons, dgnil, dirng1, dirng2, dilst, ditup, dienum, dizip, stays, startD, endD, dcallP, dcallN, fS, dfz, fzK, dbreak, dcont, wipeD, List.map_cons, List.map_nil, List.length_cons, List.length_nil, List.replicate, List.cons_append, List.nil_append, List.getElem?_cons_zero, List.getElem?_cons_succ, List.set_cons_zero, List.set_cons_succ, atI_zero, atI_one, atI_two, atI_three, ixN_zero, ixN_one, mset_same, mset_mset, mdel_mset, List.length_map, vw_one, Option.isSome_some, true_and, and_true, dmk, dmk0, dxf, disx, mkS, okX]
    refine ⟨by omega, by omega, ?_⟩
    rw [Int.toNat_natCast]
    refine dlc_rngI (fun i acc M => ∃ as : List Addr, acc = as.map X.ptr ∧ as.length = i ∧ as.Nodup ∧ (∀ q ∈ as, M q = some (.lst [])) ∧ M p = some (.ins C ["_many", "_pairs"] [nX n, .ptr pp]) ∧ M pp = some (.lst []) ∧ p ∉ as ∧ pp ∉ as ∧ ownM M)
      ⟨[], rfl, rfl, List.nodup_nil, by simp, mset_same, by rw [mset_ne (Ne.symm n1), mset_same], by simp, by simp, ?_⟩ ?_ ?_
    · refine ownM_mset (ownM_mset (ownM_mset (ownM_mset (fun _ _ z => nomatch z) rfl) rfl) rfl) rfl
    · rintro acc M ⟨as, rfl, hla, hnd, hq, hs, hl0, hm1, hm2, ho⟩
      refine ⟨trivial, fun pa hpa => ?_⟩
      have n2 : p ≠ pa := fun e => by rw [← e, hs] at hpa; cases hpa
      have n3 : pp ≠ pa := fun e => by rw [← e, hl0] at hpa; cases hpa
      have m3 : pa ∉ as := fun e => by rw [hq _ e] at hpa; cases hpa
      refine putI_i (ns := ["_many", "_pairs"]) (xs := [nX n, .ptr pp]) (by rw [mset_ne n2]; exact hs) (by decide) (by decide) ?_
      have own_ptr : ∀ l : List Addr, ownA (l.map X.ptr) = true := fun l => ownA_map _ (fun _ => rfl) l
      have G0 : Gs C p pp pa as n (mset (mset M pa (.lst (as.map X.ptr))) p (.ins C ((["_many", "_pairs"] : List Str) ++ (["_at"] : List Str)) ([nX n, .ptr pp] ++ [.ptr pa]))) [] (fun v => (incT ps 0 v).map nX) :=
        ⟨mset_same, by rw [mset_ne (Ne.symm n1), mset_ne n3]; exact hl0, by rw [mset_ne (Ne.symm n2), mset_same], fun v hv => by
          have hv' : v < as.length := by omega
          refine ⟨as[v], List.getElem?_eq_getElem hv', ?_⟩
          have hm : as[v] ∈ as := List.getElem_mem hv'
          rw [mset_ne fun e => hm1 (by rw [← e]; exact hm), mset_ne fun e => m3 (by rw [← e]; exact hm)]
          exact hq _ hm, hla, hnd, n1, n2, n3, hm1, hm2, m3, ownM_mset (ownM_mset ho (own_ptr as)) rfl⟩
      refine dfor_enum (fun i δ M => ∃ y3 y4 y5 y6, δ = [some (.ptr p), some (nX n), some (.lst b (ps.map pX)), y3, y4, y5, y6] ∧ Gs C p pp pa as n M ((ps.take i).map pX) (fun v => (incT ps i v).map nX)) ⟨none, none, none, none, rfl, G0⟩ ?_ ?_
      · rintro δ M ⟨y3, y4, y5, y6, rfl, G⟩
        rw [List.take_length] at G
        exact ⟨trivial, ⟨M, fun _ _ z => z, rfl, G.o, q M G.o (Gs.frz G) ⟨_, G.s⟩⟩⟩
      · rintro i ⟨u, v⟩ δ M R hi ⟨y3, y4, y5, y6, rfl, G⟩ k
        refine ⟨trivial, ?_⟩
        obtain ⟨hiL, hie⟩ := List.getElem?_eq_some_iff.mp hi
        have huv := wf (u, v) (List.mem_of_getElem? hi)
        have hu : u < n := huv.1
        have hv : v < n := huv.2
        have et : tl ps i = u := by unfold tl; rw [List.getD_eq_getElem?_getD, hi]; rfl
        have eh : hd ps i = v := by unfold hd; rw [List.getD_eq_getElem?_getD, hi]; rfl
        have take1 : (ps.take (i + 1)).map pX = (ps.take i).map pX ++ [pX (u, v)] := by rw [List.take_add_one, hi, List.map_append]; rfl
        simp only [dseq, dasg, dasgG, dgsub, setL, dop, dun, dcb, dcons, dnil, dret, dretN, dnext, ddrop, diff, dif, dtest, dand, dor, dnot, dandV, dorV, dnotV, dchain, daug, dpar, dforS, dlc, dyes, dlst, dtup, dbm, fAppend, fPop, dvar, dc, fIx, fSl, dsl, dpart, dno, fI, fI0, fU, fAdd, fMul, fInt, fAbs, fLen, fMin2, fList, fEq, fIsN, gI, gB, lstOf, lstO, newl, dgname, dgtup, dgcons, dgnil, dirng1, dirng2, dilst, ditup, dienum, dizip, stays, startD, endD, dcallP, dcallN, fS, dfz, fzK, dbreak, dcont, wipeD, List.map_cons, List.map_nil, List.length_cons, List.length_nil, List.replicate, List.cons_append, List.nil_append, List.getElem?_cons_zero, List.getElem?_cons_succ, List.set_cons_zero, List.set_cons_succ, atI_zero, atI_one, atI_two, atI_three, ixN_zero, ixN_one, mset_same, mset_mset, mdel_mset, List.length_map, vw_one, Option.isSome_some, true_and, and_true, dmk, dmk0, dxf, disx, mkS, okX, pX]
        rw [tt (show (0 : Int) ≤ (u : Int) by omega), tt (show (u : Int) < (n : Int) by omega), tt (show (0 : Int) ≤ (v : Int) by omega), tt (show (v : Int) < (n : Int) by omega)]
        simp only [dseq, dasg, dasgG, dgsub, setL, dop, dun, dcb, dcons, dnil, dret, dretN, dnext, ddrop, diff, dif, dtest, dand, dor, dnot, dandV, dorV, dnotV, dchain, daug, dpar, dforS, dlc, dyes, dlst, dtup, dbm, fAppend, fPop, dvar, dc, fIx, fSl, dsl, dpart, dno, fI, fI0, fU, fAdd, fMul, fInt, fAbs, fLen, fMin2, fList, fEq, fIsN, gI, gB, lstOf, lstO, newl, dgname, dgtup, dgcons, dgnil, dirng1, dirng2, dilst, ditup, dienum, dizip, stays, startD, endD, dcallP, dcallN, fS, dfz, fzK, dbreak, dcont, wipeD, List.map_cons, List.map_nil, List.length_cons, List.length_nil, List.replicate, List.cons_append, List.nil_append, List.getElem?_cons_zero, List.getElem?_cons_succ, List.set_cons_zero, List.set_cons_succ, atI_zero, atI_one, atI_two, atI_three, ixN_zero, ixN_one, mset_same, mset_mset, mdel_mset, List.length_map, vw_one, Option.isSome_some, true_and, and_true, dmk, dmk0, dxf, disx, mkS, okX, Bool.not_true, dfg, fldK, G.fp, G.l]
        have lt1 : ((ps.take i).map pX).length < sizeLine := line_gt (by rw [List.length_map, List.length_take]; omega)
        rw [List.length_map] at lt1
        refine ⟨Nat.le_of_lt (line_gt (by decide)), lt1, ?_⟩
        have G1 := G.pairs (ys := (ps.take (i + 1)).map pX) (own_pX _)
        rw [take1] at G1
        obtain ⟨qu, hqu, hMu⟩ := G1.c u hu
        have atU : atI (as.map X.ptr) (u : Int) = some (.ptr qu) := atI_nat (lookM _ hqu)
        have e2 : (X.tup [.int (u : Int), .int (v : Int)]) = pX (u, v) := rfl
        rw [e2]
        simp only [dseq, dasg, dasgG, dgsub, setL, dop, dun, dcb, dcons, dnil, dret, dretN, dnext, ddrop, diff, dif, dtest, dand, dor, dnot, dandV, dorV, dnotV, dchain, daug, dpar, dforS, dlc, dyes, dlst, dtup, dbm, fAppend, fPop, dvar, dc, fIx, fSl, dsl, dpart, dno, fI, fI0, fU, fAdd, fMul, fInt, fAbs, fLen, fMin2, fList, fEq, fIsN, gI, gB, lstOf, lstO, newl, dgname, dgtup, dgcons, dgnil, dirng1, dirng2, dilst, ditup, dienum, dizip, stays, startD, endD, dcallP, dcallN, fS, dfz, fzK, dbreak, dcont, wipeD, List.map_cons, List.map_nil, List.length_cons, List.length_nil, List.replicate, List.cons_append, List.nil_append, List.getElem?_cons_zero, List.getElem?_cons_succ, List.set_cons_zero, List.set_cons_succ, atI_zero, atI_one, atI_two, atI_three, ixN_zero, ixN_one, mset_same, mset_mset, mdel_mset, List.length_map, vw_one, Option.isSome_some, true_and, and_true, dmk, dmk0, dxf, disx, mkS, okX, G1.fa, G1.a, atU, hMu]
        have lt2 : ∀ w, ((incT ps i w).map nX).length < sizeLine := fun w => line_gt (by
          have := List.length_filter_le (fun e => decide (tl ps e = w) || decide (hd ps e = w)) (List.range i)
          rw [List.length_range] at this
          rw [List.length_map]
          show (incT ps i w).length ≤ _
          unfold incT
          omega)
        have l2u := lt2 u
        rw [List.length_map] at l2u
        refine ⟨l2u, ?_⟩
        have own1 : ∀ w, ownA ((incT ps i w).map nX ++ [nX i]) = true := fun w => by
          have e : (incT ps i w).map nX ++ [nX i] = (incT ps i w ++ [i]).map nX := by rw [List.map_append]; rfl
          rw [e]; exact own_nX _
        have G2 := G1.at hqu (own1 u)
        have succ : ∀ w, (incT ps (i + 1) w).map nX = (incT ps i w).map nX ++ if u = w ∨ v = w then [nX i] else [] := fun w => by
          rw [incT_succ, List.map_append, et, eh]
          congr 1
          split <;> rfl
        by_cases huv' : v = u
        · have e : (true != decide ((v : Int) = (u : Int))) = false := by rw [tt (by omega)]; rfl
          rw [e]
          refine k _ _ ⟨_, _, _, _, rfl, ?_⟩
          rw [take1]
          refine G2.congr fun w hw => ?_
          rw [succ]
          by_cases hw' : w = u
          · subst hw'
            rw [if_pos rfl, if_pos (.inl rfl)]
          · rw [if_neg hw', if_neg (by rintro (z | z) <;> omega), List.append_nil]
        · have e : (true != decide ((v : Int) = (u : Int))) = true := by rw [ff (by omega)]; rfl
          rw [e]
          obtain ⟨qv, hqv, hMv⟩ := G2.c v hv
          rw [if_neg huv'] at hMv
          have atV : atI (as.map X.ptr) (v : Int) = some (.ptr qv) := atI_nat (lookM _ hqv)
          simp only [dseq, dasg, dasgG, dgsub, setL, dop, dun, dcb, dcons, dnil, dret, dretN, dnext, ddrop, diff, dif, dtest, dand, dor, dnot, dandV, dorV, dnotV, dchain, daug, dpar, dforS, dlc, dyes, dlst, dtup, dbm, fAppend, fPop, dvar, dc, fIx, fSl, dsl, dpart, dno, fI, fI0, fU, fAdd, fMul, fInt, fAbs, fLen, fMin2, fList, fEq, fIsN, gI, gB, lstOf, lstO, newl, dgname, dgtup, dgcons, dgnil, dirng1, dirng2, dilst, ditup, dienum, dizip, stays, startD, endD, dcallP, dcallN, fS, dfz, fzK, dbreak, dcont, wipeD, List.map_cons, List.map_nil, List.length_cons, List.length_nil, List.replicate, List.cons_append, List.nil_append, List.getElem?_cons_zero, List.getElem?_cons_succ, List.set_cons_zero, List.set_cons_succ, atI_zero, atI_one, atI_two, atI_three, ixN_zero, ixN_one, mset_same, mset_mset, mdel_mset, List.length_map, vw_one, Option.isSome_some, true_and, and_true, dmk, dmk0, dxf, disx, mkS, okX, G2.fa, G2.a, atV, hMv]
          have l2v := lt2 v
          rw [List.length_map] at l2v
          refine ⟨l2v, ?_⟩
          have G3 := G2.at hqv (own1 v)
          refine k _ _ ⟨_, _, _, _, rfl, ?_⟩
          rw [take1]
          refine G3.congr fun w hw => ?_
          rw [succ]
          by_cases hw' : w = v
          · subst hw'
            rw [if_pos rfl, if_pos (.inr rfl)]
          · rw [if_neg hw']
            by_cases hw2 : w = u
            · subst hw2
              rw [if_pos rfl, if_pos (.inl rfl)]
            · rw [if_neg hw2, if_neg (by rintro (z | z) <;> omega), List.append_nil]
    · rintro i acc M R hi ⟨as, rfl, hla, hnd, hq, hs, hl0, hm1, hm2, ho⟩ k
      simp only [dseq, dasg, dasgG, dgsub, setL, dop, dun, dcb, dcons, dnil, dret, dretN, dnext, ddrop, diff, dif, dtest, dand, dor, dnot, dandV, dorV, dnotV, dchain, daug, dpar, dforS, dlc, dyes, dlst, dtup, dbm, fAppend, fPop, dvar, dc, fIx, fSl, dsl, dpart, dno, fI, fI0, fU, fAdd, fMul, fInt, fAbs, fLen, fMin2, fList, fEq, fIsN, gI, gB, lstOf, lstO, newl, dgname, dgtup, dgcons, dgnil, dirng1, dirng2, dilst, ditup, dienum, dizip, stays, startD, endD, dcallP, dcallN, fS, dfz, fzK, dbreak, dcont, wipeD, List.map_cons, List.map_nil, List.length_cons, List.length_nil, List.replicate, List.cons_append, List.nil_append, List.getElem?_cons_zero, List.getElem?_cons_succ, List.set_cons_zero, List.set_cons_succ, atI_zero, atI_one, atI_two, atI_three, ixN_zero, ixN_one, mset_same, mset_mset, mdel_mset, List.length_map, vw_one, Option.isSome_some, true_and, and_true, dmk, dmk0, dxf, disx, mkS, okX]
      refine ⟨Nat.zero_le _, fun q' hq' => ?_⟩
      have hne : ∀ {a : Addr} {c : Cell}, M a = some c → a ≠ q' := fun h e => by rw [e, hq'] at h; cases h
      have hq0 : q' ∉ as := fun e => hne (hq _ e) rfl
      refine ⟨line_gt (by rw [hla]; omega), k _ _ ⟨as ++ [q'], by rw [List.map_append]; rfl, by simp [hla], ?_, ?_, by rw [mset_ne (hne hs)]; exact hs, by rw [mset_ne (hne hl0)]; exact hl0, ?_, ?_, ownM_mset ho rfl⟩⟩
      · rw [List.nodup_append]
        exact ⟨hnd, by simp, fun a ha b hb e => hq0 (by rw [List.mem_singleton.mp hb] at e; rw [← e]; exact ha)⟩
      · intro a ha
        rcases List.mem_append.mp ha with ha | ha
        · rw [mset_ne fun e => hq0 (by rw [← e]; exact ha)]; exact hq a ha
        · rw [List.mem_singleton.mp ha, mset_same]
      · intro e
        rcases List.mem_append.mp e with e | e
        · exact hm1 e
        · exact hne hs (List.mem_singleton.mp e)
      · intro e
        rcases List.mem_append.mp e with e | e
        · exact hm2 e
        · exact hne hl0 (List.mem_singleton.mp e)
end
end K53


set_option maxRecDepth 100000
set_option maxHeartbeats 0
namespace K53
open PySem PySem.Spec PyProof.Rows L2 DL Fl
section
variable {P : Program} {w : World} {K : PySem.W.Frag} {mg : Str → Option Value} {base : Heap} {C : Addr}
theorem calIt (B : Blt2 mg) (GK : GrK K C) (D : DefM K C "__iter__" "Graph.__iter__" (methS 13 4)) : CalIt P w K mg base C "_pairs" 1 :=
  CalIt.mk' D GK.cls (GK.na "_pairs" (by decide)) B.iter (N := ["self"]) ⟨rfl, rfl, rfl, by decide +kernel, rfl, by decide +kernel, by decide +kernel⟩ rfl rfl rfl (fun _ _ _ _ _ _ _ => rfl)
/-! ### search.py -/
def g_row (C : Addr) : PF := fun xs P _ => ∃ n ps b l, xs = [gX C n ps, .lst b l] ∧ l.length = ps.length ∧ ps.length ≤ 1000000 ∧ P .non
abbrev s_check_row : Stmt := topS 15
theorem sc_check_row : FnScope ["graph", "row"] ["graph", "row"] (defScope s_check_row) := ⟨rfl, rfl, rfl, by decide +kernel, rfl, by decide +kernel, by decide +kernel⟩
theorem cal_check_row (B : Blt2 mg) (D : Def K mg "check_row" s_check_row) (l_graph : CalL P w K mg base CX0 C 1 (g_len C)) : Cal false P w K mg base CX0 "check_row" 3 ["graph", "row"] (PFd (g_row C)) := by
  refine Cal.mk' D (fun _ _ _ _ _ _ us hl => match us, hl with | [_, _], _ => rfl) fun f fdt F => fnD F sc_check_row (fun xs M Q E h => ?len) fun cdv A outer s H E hr => ⟨_,
    ((pssd_one (psd_if (ptd_cmp op_ne snd_ne (pd_callB call_len_seq snd_len (by rfl) B.len PySem.boot_len (pad_cons (pd_var 1) pad_nil)) (pd_lenO 3 l_graph (hr.mono (by decide)).toRoom B.len (pd_var 0)) (nomark _))
(pssd_one psd_dead)
pssd_nil))), fun xs M Qd Ed h => ?rd⟩
  case len =>
    obtain ⟨_, n, ps, b, l, rfl, _⟩ := h
    rfl
  case rd =>
    obtain ⟨rfl, n, ps, b, l, rfl, hl, hm, q⟩ := h
    simp only [dseq, dasg, dasgG, dgsub, setL, dop, dun, dcb, dcons, dnil, dret, dretN, dnext, ddrop, diff, dif, dtest, dand, dor, dnot, dandV, dorV, dnotV, dchain, daug, dpar, dforS, dlc, dyes, dlst, dtup, dbm, fAppend, fPop, dvar, dc, fIx, fSl, dsl, dpart, dno, fI, fI0, fU, fAdd, fMul, fInt, fAbs, fLen, fMin2, fList, fEq, fIsN, gI, gB, lstOf, lstO, newl, dgname, dgtup, dgcons, dgnil, dirng1, dirng2, dilst, ditup, dienum, dizip, stays, startD, endD, dcallP, dcallN, fS, dfz, fzK, dbreak, dcont, wipeD, List.map_cons, List.map_nil, List.length_cons, List.length_nil, List.replicate, List.cons_append, List.nil_append, List.getElem?_cons_zero, List.getElem?_cons_succ, List.set_cons_zero, List.set_cons_succ, atI_zero, atI_one, atI_two, atI_three, ixN_zero, ixN_one, mset_same, mset_mset, mdel_mset, List.length_map, vw_one, Option.isSome_some, true_and, and_true, dmk, dmk0, dxf, disx, mkS, okX, dlenO, lenV hm]
    have e : (true != decide ((l.length : Int) = (ps.length : Int))) = false := by rw [tt (by omega)]; rfl
    rw [e]
    exact rt_pure rfl q
def g_step_ends (C : Addr) : PF := fun xs P _ => ∃ n ps s, xs = [gX C n ps, sX s] ∧ s.1 < ps.length ∧ P (.tup [nX (bg ps s), nX (en ps s)])
abbrev s_step_ends : Stmt := topS 17
theorem sc_step_ends : FnScope ["graph", "step", "edge", "sign", "tail", "head"] ["graph", "step"] (defScope s_step_ends) := ⟨rfl, rfl, rfl, by decide +kernel, rfl, by decide +kernel, by decide +kernel⟩
theorem cal_step_ends (B : Blt2 mg) (D : Def K mg "step_ends" s_step_ends) (m_ends : CalM P w K mg base CX0 C "ends" 1 ["self", "edge"] (PFd (g_ends C))) : Cal false P w K mg base CX0 "step_ends" 2 ["graph", "step"] (PFd (g_step_ends C)) := by
  refine Cal.mk' D (fun _ _ _ _ _ _ us hl => match us, hl with | [_, _], _ => rfl) fun f fdt F => fnD F sc_step_ends (fun xs M Q E h => ?len) fun cdv A outer s H E hr => ⟨_,
    ((pssd_cons (psd_asg (pd_var 1) (pgd_tup (n := 2) rfl (pgsd_cons (pgd_name 2 sc_step_ends.nd) (pgsd_cons (pgd_name 3 sc_step_ends.nd) pgsd_nil))))
(pssd_cons (psd_asg (pd_methP 3 m_ends (hr.mono (by decide)).toRoom pass0 we0 (pd_var 0) (pad_cons (pd_var 2) pad_nil)) (pgd_tup (n := 2) rfl (pgsd_cons (pgd_name 4 sc_step_ends.nd) (pgsd_cons (pgd_name 5 sc_step_ends.nd) pgsd_nil))))
(pssd_one (psd_ret (pd_if (ptd_cmp op_eq snd_eq (pd_var 3) pd_int (nomark _)) (pd_tup (pad_cons (pd_var 4) (pad_cons (pd_var 5) pad_nil))) (pd_tup (pad_cons (pd_var 5) (pad_cons (pd_var 4) pad_nil))))))))), fun xs M Qd Ed h => ?rd⟩
  case len =>
    obtain ⟨_, n, ps, s, rfl, _⟩ := h
    rfl
  case rd =>
    obtain ⟨rfl, n, ps, s, rfl, hs, q⟩ := h
    simp only [dseq, dasg, dasgG, dgsub, setL, dop, dun, dcb, dcons, dnil, dret, dretN, dnext, ddrop, diff, dif, dtest, dand, dor, dnot, dandV, dorV, dnotV, dchain, daug, dpar, dforS, dlc, dyes, dlst, dtup, dbm, fAppend, fPop, dvar, dc, fIx, fSl, dsl, dpart, dno, fI, fI0, fU, fAdd, fMul, fInt, fAbs, fLen, fMin2, fList, fEq, fIsN, gI, gB, lstOf, lstO, newl, dgname, dgtup, dgcons, dgnil, dirng1, dirng2, dilst, ditup, dienum, dizip, stays, startD, endD, dcallP, dcallN, fS, dfz, fzK, dbreak, dcont, wipeD, List.map_cons, List.map_nil, List.length_cons, List.length_nil, List.replicate, List.cons_append, List.nil_append, List.getElem?_cons_zero, List.getElem?_cons_succ, List.set_cons_zero, List.set_cons_succ, atI_zero, atI_one, atI_two, atI_three, ixN_zero, ixN_one, mset_same, mset_mset, mdel_mset, List.length_map, vw_one, Option.isSome_some, true_and, and_true, dmk, dmk0, dxf, disx, mkS, okX, sX]
    refine ev_ends (ev_var rfl) (ev_cons (ev_var rfl) ev_nil) hs _ ?_
    simp only [dseq, dasg, dasgG, dgsub, setL, dop, dun, dcb, dcons, dnil, dret, dretN, dnext, ddrop, diff, dif, dtest, dand, dor, dnot, dandV, dorV, dnotV, dchain, daug, dpar, dforS, dlc, dyes, dlst, dtup, dbm, fAppend, fPop, dvar, dc, fIx, fSl, dsl, dpart, dno, fI, fI0, fU, fAdd, fMul, fInt, fAbs, fLen, fMin2, fList, fEq, fIsN, gI, gB, lstOf, lstO, newl, dgname, dgtup, dgcons, dgnil, dirng1, dirng2, dilst, ditup, dienum, dizip, stays, startD, endD, dcallP, dcallN, fS, dfz, fzK, dbreak, dcont, wipeD, List.map_cons, List.map_nil, List.length_cons, List.length_nil, List.replicate, List.cons_append, List.nil_append, List.getElem?_cons_zero, List.getElem?_cons_succ, List.set_cons_zero, List.set_cons_succ, atI_zero, atI_one, atI_two, atI_three, ixN_zero, ixN_one, mset_same, mset_mset, mdel_mset, List.length_map, vw_one, Option.isSome_some, true_and, and_true, dmk, dmk0, dxf, disx, mkS, okX, pX]
    obtain ⟨e, b⟩ := s
    cases b with
    | true =>
      rw [show (false != decide (sg (e, true).2 = 1)) = true from rfl]
      exact ⟨line_ge (by decide), rt_pure rfl q⟩
    | false =>
      rw [show (false != decide (sg (e, false).2 = 1)) = false from rfl]
      exact ⟨line_ge (by decide), rt_pure rfl q⟩
def sgX (l : List Bool) : X := .tup (l.map fun b => .int (sg b))
theorem own_sgX (l : List (List Bool)) : ownA (l.map sgX) = true := ownA_map _ (fun a => by simp only [sgX, own]; exact ownA_map _ (fun _ => rfl) _) _
def f_both (ms : List Bool) : List (List Bool) := ms.map fun m => if m then [true, false] else []
def g_both : NF := fun xs Q _ => ∃ b ms, xs = [.lst b (ms.map X.bl)] ∧ ms.length ≤ 1000000 ∧ Q ((f_both ms).map sgX)
theorem mono_both_ways : MonoN g_both := fun _ _ _ _ h ⟨b, ms, e, h1, q⟩ => ⟨b, ms, e, h1, h _ q⟩
abbrev s_both_ways : Stmt := topS 18
theorem sc_both_ways : FnScope ["marks", "mark"] ["marks"] (defScope s_both_ways) := ⟨rfl, rfl, rfl, by decide +kernel, rfl, by decide +kernel, by decide +kernel⟩
theorem cal_both_ways (B : Blt2 mg) (D : Def K mg "both_ways" s_both_ways) : Cal false P w K mg base CX0 "both_ways" 1 ["marks"] (NFd g_both) := by
  refine Cal.mk' D (fun _ _ _ _ _ _ us hl => match us, hl with | [_], _ => rfl) fun f fdt F => fnD F sc_both_ways (fun xs M Q E h => ?len) fun cdv A outer s H E hr => ⟨_,
    ((pssd_one (psd_ret (pd_lc true [("mark", 1)] anti0 sc_both_ways.nd (pid_list (pd_var 0)) (blkOk_by (own := [("mark", 1)]) (N := ["marks", "mark"]) (sc := defScope s_both_ways) (by decide +kernel)) (fun _ _ _ _ _ => (pgl_name 1 sc_both_ways.nd)) (fun _ _ _ _ _ => ptsd_nil) (fun _ _ _ _ _ => (pd_if (ptd_val (pd_var 1)) (pd_tup (pad_cons pd_int (pad_cons (pd_neg pd_int) pad_nil))) (pd_tup pad_nil))))))), fun xs M Qd Ed h => ?rd⟩
  case len =>
    obtain ⟨_, b, ms, rfl, _⟩ := h
    rfl
  case rd =>
    obtain ⟨rfl, b, ms, rfl, hl, q⟩ := h
    simp only [dseq, dasg, dasgG, dgsub, setL, dop, dun, dcb, dcons, dnil, dret, dretN, dnext, ddrop, diff, dif, dtest, dand, dor, dnot, dandV, dorV, dnotV, dchain, daug, dpar, dforS, dlc, dyes, dlst, dtup, dbm, fAppend, fPop, dvar, dc, fIx, fSl, dsl, dpart, dno, fI, fI0, fU, fAdd, fMul, fInt, fAbs, fLen, fMin2, fList, fEq, fIsN, gI, gB, lstOf, lstO, newl, dgname, dgtup, dgcons, dgnil, dirng1, dirng2, dilst, ditup, dienum, dizip, stays, startD, endD, dcallP, dcallN, fS, dfz, fzK, dbreak, dcont, wipeD, List.map_cons, List.map_nil, List.length_cons, List.length_nil, List.replicate, List.cons_append, List.nil_append, List.getElem?_cons_zero, List.getElem?_cons_succ, List.set_cons_zero, List.set_cons_succ, atI_zero, atI_one, atI_two, atI_three, ixN_zero, ixN_one, mset_same, mset_mset, mdel_mset, List.length_map, vw_one, Option.isSome_some, true_and, and_true, dmk, dmk0, dxf, disx, mkS, okX]
    refine dlc_map (as := ms) (f := X.bl) (v := fun m => sgX (if m then [true, false] else [])) hl trivial ?_ fun m R hm hR => ?_
    · intro p hp
      rw [show ms.map (fun m => sgX (if m then [true, false] else [])) = (f_both ms).map sgX by unfold f_both; rw [List.map_map]; rfl]
      exact rt_new mset_same (own_sgX _) (q p hp)
    · simp only [dseq, dasg, dasgG, dgsub, setL, dop, dun, dcb, dcons, dnil, dret, dretN, dnext, ddrop, diff, dif, dtest, dand, dor, dnot, dandV, dorV, dnotV, dchain, daug, dpar, dforS, dlc, dyes, dlst, dtup, dbm, fAppend, fPop, dvar, dc, fIx, fSl, dsl, dpart, dno, fI, fI0, fU, fAdd, fMul, fInt, fAbs, fLen, fMin2, fList, fEq, fIsN, gI, gB, lstOf, lstO, newl, dgname, dgtup, dgcons, dgnil, dirng1, dirng2, dilst, ditup, dienum, dizip, stays, startD, endD, dcallP, dcallN, fS, dfz, fzK, dbreak, dcont, wipeD, List.map_cons, List.map_nil, List.length_cons, List.length_nil, List.replicate, List.cons_append, List.nil_append, List.getElem?_cons_zero, List.getElem?_cons_succ, List.set_cons_zero, List.set_cons_succ, atI_zero, atI_one, atI_two, atI_three, ixN_zero, ixN_one, mset_same, mset_mset, mdel_mset, List.length_map, vw_one, Option.isSome_some, true_and, and_true, dmk, dmk0, dxf, disx, mkS, okX]
      cases m with
      | true => exact ⟨line_ge (by decide), hR⟩
      | false => exact ⟨Nat.zero_le _, hR⟩
def stepsF (ps : List E2) (sgs : List (List Bool)) (here : Nat) : List Fl.St := (inc ps here).flatMap fun e => ((sgs.getD e []).filter fun b => decide (bg ps (e, b) = here)).map fun b => (e, b)
def stX (ps : List E2) (s : Fl.St) : X := .tup [sX s, nX (en ps s)]
structure SgOk (ps : List E2) (sgs : List (List Bool)) : Prop where
  len : sgs.length = ps.length
  two : ∀ l ∈ sgs, l.length ≤ 2
def g_from (C : Addr) : NF := fun xs Q _ => ∃ n ps v b sgs, xs = [gX C n ps, nX v, .lst b (sgs.map sgX)] ∧ v < n ∧ ps.length ≤ 1000000 ∧ SgOk ps sgs ∧ Q ((stepsF ps sgs v).map (stX ps))
theorem mono_steps_from : MonoN (g_from C) := fun _ _ _ _ h ⟨n, ps, v, b, sgs, e, h1, h2, h3, q⟩ => ⟨n, ps, v, b, sgs, e, h1, h2, h3, h _ q⟩
theorem own_stX (ps : List E2) (l : List Fl.St) : ownA (l.map (stX ps)) = true := ownA_map _ (fun _ => rfl) _
theorem ev_edges {o : DE} {a : DA} {δ : Dl} {M M1 M2 : Mu} {n v k : Nat} {ps : List E2} {Er : ErrK} (h : Ev o δ M (gX C n ps) M1) (ha : EvA a δ M1 [nX v] M2) (hv : v < n) : Ev (dmethN k C "edges_at" false (g_edges_at C) Er o a) δ M (.lst true ((inc ps v).map nX)) M2 := fun Q q =>
  h _ ⟨rfl, by decide, ha _ ⟨n, ps, v, by simp, hv, q⟩⟩
abbrev s_steps_from : Stmt := topS 19
theorem sc_steps_from : FnScope ["graph", "here", "signs", "found", "edge", "sign", "first", "last"] ["graph", "here", "signs"] (defScope s_steps_from) := ⟨rfl, rfl, rfl, by decide +kernel, rfl, by decide +kernel, by decide +kernel⟩
theorem cal_steps_from (B : Blt2 mg) (D : Def K mg "steps_from" s_steps_from) (c_step_ends : Cal false P w K mg base CX0 "step_ends" 2 ["graph", "step"] (PFd (g_step_ends C))) (m_edges_at : CalM P w K mg base CX0 C "edges_at" 1 ["self", "vertex"] (NFd (g_edges_at C))) : Cal false P w K mg base CX0 "steps_from" 3 ["graph", "here", "signs"] (NFd (g_from C)) := by
  refine Cal.mk' D (fun _ _ _ _ _ _ us hl => match us, hl with | [_, _, _], _ => rfl) fun f fdt F => fnD F sc_steps_from (fun xs M Q E h => ?len) fun cdv A outer s H E hr => ⟨_,
    ((pssd_cons (psd_set 3 sc_steps_from.nd (pd_lst true pad_nil))
(pssd_cons (psd_for anti0 PassesOwn.never rfl (pid_list (pd_methN 3 false mono_edges_at m_edges_at (hr.mono (by decide)).toRoom pass0 we0 (pd_var 0) (pad_cons (pd_var 1) pad_nil))) (pgd_name 4 sc_steps_from.nd)
(pssd_one (psd_for anti0 PassesOwn.never rfl (pid_tup (pd_ix (pd_var 2) (pd_var 4))) (pgd_name 5 sc_steps_from.nd)
(pssd_cons (psd_asg (pd_cP 2 c_step_ends (hr.mono (by decide)) pass0 we0 (pad_cons (pd_var 0) (pad_cons (pd_tup (pad_cons (pd_var 4) (pad_cons (pd_var 5) pad_nil))) pad_nil))) (pgd_tup (n := 2) rfl (pgsd_cons (pgd_name 6 sc_steps_from.nd) (pgsd_cons (pgd_name 7 sc_steps_from.nd) pgsd_nil))))
(pssd_one (psd_if (ptd_cmp op_eq snd_eq (pd_var 6) (pd_var 1) (nomark _))
(pssd_one (psd_expr (pd_bm PySem.F.slot_list_append PySem.F.type_list_append mt_append snd_append (pd_var 3) (pad_cons (pd_tup (pad_cons (pd_tup (pad_cons (pd_var 4) (pad_cons (pd_var 5) pad_nil))) (pad_cons (pd_var 7) pad_nil))) pad_nil))))
pssd_nil))))))
(pssd_one (psd_ret (pd_var 3)))))), fun xs M Qd Ed h => ?rd⟩
  case len =>
    obtain ⟨_, n, ps, v, b, sgs, rfl, _⟩ := h
    rfl
  case rd =>
    obtain ⟨rfl, n, ps, v, b, sgs, rfl, hv, hl, hs, q⟩ := h
    simp only [dseq, dasg, dasgG, dgsub, setL, dop, dun, dcb, dcons, dnil, dret, dretN, dnext, ddrop, diff, dif, dtest, dand, dor, dnot, dandV, dorV, dnotV, dchain, daug, dpar, dforS, dlc, dyes, dlst, dtup, dbm, fAppend, fPop, dvar, dc, fIx, fSl, dsl, dpart, dno, fI, fI0, fU, fAdd, fMul, fInt, fAbs, fLen, fMin2, fList, fEq, fIsN, gI, gB, lstOf, lstO, newl, dgname, dgtup, dgcons, dgnil, dirng1, dirng2, dilst, ditup, dienum, dizip, stays, startD, endD, dcallP, dcallN, fS, dfz, fzK, dbreak, dcont, wipeD, List.map_cons, List.map_nil, List.length_cons, List.length_nil, List.replicate, List.cons_append, List.nil_append, List.getElem?_cons_zero, List.getElem?_cons_succ, List.set_cons_zero, List.set_cons_succ, atI_zero, atI_one, atI_two, atI_three, ixN_zero, ixN_one, mset_same, mset_mset, mdel_mset, List.length_map, vw_one, Option.isSome_some, true_and, and_true, dmk, dmk0, dxf, disx, mkS, okX]
    refine ⟨Nat.zero_le _, fun p hp => ?_⟩
    refine ev_edges (ev_var rfl) (ev_cons (ev_var rfl) ev_nil) hv _ ?_
    simp only [dseq, dasg, dasgG, dgsub, setL, dop, dun, dcb, dcons, dnil, dret, dretN, dnext, ddrop, diff, dif, dtest, dand, dor, dnot, dandV, dorV, dnotV, dchain, daug, dpar, dforS, dlc, dyes, dlst, dtup, dbm, fAppend, fPop, dvar, dc, fIx, fSl, dsl, dpart, dno, fI, fI0, fU, fAdd, fMul, fInt, fAbs, fLen, fMin2, fList, fEq, fIsN, gI, gB, lstOf, lstO, newl, dgname, dgtup, dgcons, dgnil, dirng1, dirng2, dilst, ditup, dienum, dizip, stays, startD, endD, dcallP, dcallN, fS, dfz, fzK, dbreak, dcont, wipeD, List.map_cons, List.map_nil, List.length_cons, List.length_nil, List.replicate, List.cons_append, List.nil_append, List.getElem?_cons_zero, List.getElem?_cons_succ, List.set_cons_zero, List.set_cons_succ, atI_zero, atI_one, atI_two, atI_three, ixN_zero, ixN_one, mset_same, mset_mset, mdel_mset, List.length_map, vw_one, Option.isSome_some, true_and, and_true, dmk, dmk0, dxf, disx, mkS, okX]
    have F : ∀ e, (sgs.getD e []).length ≤ 2 := fun e => by
      rw [List.getD_eq_getElem?_getD]
      cases h : sgs[e]? with
      | none => exact Nat.zero_le _
      | some l => exact hs.two l (List.mem_of_getElem? h)
    have acc_len : ∀ i, (((inc ps v).take i).flatMap fun e => ((sgs.getD e []).filter fun b => decide (bg ps (e, b) = v)).map fun b => (e, b)).length ≤ 2 * i := fun i => by
      have h : ∀ l : List Nat, (l.flatMap fun e => ((sgs.getD e []).filter fun b => decide (bg ps (e, b) = v)).map fun b => (e, b)).length ≤ 2 * l.length := fun l => by
        induction l with
        | nil => exact Nat.le_refl _
        | cons a l ih =>
          have h1 := List.length_filter_le (fun b => decide (bg ps (a, b) = v)) (sgs.getD a [])
          have h2 := F a
          rw [List.flatMap_cons, List.length_append, List.length_map, List.length_cons]
          omega
      have h1 := h ((inc ps v).take i)
      rw [List.length_take] at h1
      omega
    refine dfor_map (as := inc ps v) (f := nX) (fun i δ M => ∃ y4 y5 y6 y7, δ = [some (gX C n ps), some (nX v), some (.lst b (sgs.map sgX)), some (.ptr p), y4, y5, y6, y7] ∧ M = mset m0 p (.lst (((((inc ps v).take i).flatMap fun e => ((sgs.getD e []).filter fun b => decide (bg ps (e, b) = v)).map fun b => (e, b))).map (stX ps))))
      ⟨none, none, none, none, rfl, rfl⟩ ?_ ?_
    · rintro δ M ⟨y4, y5, y6, y7, rfl, rfl⟩
      refine ⟨trivial, ?_⟩
      simp only [dseq, dasg, dasgG, dgsub, setL, dop, dun, dcb, dcons, dnil, dret, dretN, dnext, ddrop, diff, dif, dtest, dand, dor, dnot, dandV, dorV, dnotV, dchain, daug, dpar, dforS, dlc, dyes, dlst, dtup, dbm, fAppend, fPop, dvar, dc, fIx, fSl, dsl, dpart, dno, fI, fI0, fU, fAdd, fMul, fInt, fAbs, fLen, fMin2, fList, fEq, fIsN, gI, gB, lstOf, lstO, newl, dgname, dgtup, dgcons, dgnil, dirng1, dirng2, dilst, ditup, dienum, dizip, stays, startD, endD, dcallP, dcallN, fS, dfz, fzK, dbreak, dcont, wipeD, List.map_cons, List.map_nil, List.length_cons, List.length_nil, List.replicate, List.cons_append, List.nil_append, List.getElem?_cons_zero, List.getElem?_cons_succ, List.set_cons_zero, List.set_cons_succ, atI_zero, atI_one, atI_two, atI_three, ixN_zero, ixN_one, mset_same, mset_mset, mdel_mset, List.length_map, vw_one, Option.isSome_some, true_and, and_true, dmk, dmk0, dxf, disx, mkS, okX]
      rw [List.take_length]
      exact rt_new mset_same (own_stX ps _) (q p hp)
    · rintro i e δ M R hi ⟨y4, y5, y6, y7, rfl, rfl⟩ k
      refine ⟨trivial, ?_⟩
      obtain ⟨he, hv2⟩ := inc_mem (List.mem_of_getElem? hi)
      have hi2 : i < ps.length := Nat.lt_of_lt_of_le (List.getElem?_eq_some_iff.mp hi).1 inc_len
      simp only [dseq, dasg, dasgG, dgsub, setL, dop, dun, dcb, dcons, dnil, dret, dretN, dnext, ddrop, diff, dif, dtest, dand, dor, dnot, dandV, dorV, dnotV, dchain, daug, dpar, dforS, dlc, dyes, dlst, dtup, dbm, fAppend, fPop, dvar, dc, fIx, fSl, dsl, dpart, dno, fI, fI0, fU, fAdd, fMul, fInt, fAbs, fLen, fMin2, fList, fEq, fIsN, gI, gB, lstOf, lstO, newl, dgname, dgtup, dgcons, dgnil, dirng1, dirng2, dilst, ditup, dienum, dizip, stays, startD, endD, dcallP, dcallN, fS, dfz, fzK, dbreak, dcont, wipeD, List.map_cons, List.map_nil, List.length_cons, List.length_nil, List.replicate, List.cons_append, List.nil_append, List.getElem?_cons_zero, List.getElem?_cons_succ, List.set_cons_zero, List.set_cons_succ, atI_zero, atI_one, atI_two, atI_three, ixN_zero, ixN_one, mset_same, mset_mset, mdel_mset, List.length_map, vw_one, Option.isSome_some, true_and, and_true, dmk, dmk0, dxf, disx, mkS, okX, atM sgX (show e < sgs.length by rw [hs.len]; exact he) [], sgX]
      have al := acc_len i
      generalize hA : (((inc ps v).take i).flatMap fun e => ((sgs.getD e []).filter fun b => decide (bg ps (e, b) = v)).map fun b => (e, b)) = A at al ⊢
      have hk : ∀ y5 y6 y7, R [some (gX C n ps), some (nX v), some (.lst b (sgs.map sgX)), some (.ptr p), some (nX e), y5, y6, y7] (mset m0 p (.lst ((A ++ ((sgs.getD e []).filter fun b => decide (bg ps (e, b) = v)).map fun b => (e, b)).map (stX ps)))) := fun y5 y6 y7 => k _ _ ⟨_, _, _, _, rfl, by rw [List.take_add_one, hi, List.flatMap_append, hA]; simp⟩
      have F2 := F e
      generalize hB : sgs.getD e [] = S at hk F2 ⊢
      refine dfor_map (as := S) (f := fun b => X.int (sg b)) (fun j δ M => ∃ y5 y6 y7, δ = [some (gX C n ps), some (nX v), some (.lst b (sgs.map sgX)), some (.ptr p), some (nX e), y5, y6, y7] ∧ M = mset m0 p (.lst ((A ++ ((S.take j).filter fun b => decide (bg ps (e, b) = v)).map fun b => (e, b)).map (stX ps))))
        ⟨y5, y6, y7, rfl, by simp⟩ ?_ ?_
      · rintro δ M ⟨y5, y6, y7, rfl, rfl⟩
        rw [List.take_length]
        exact ⟨trivial, hk _ _ _⟩
      · rintro j s δ M R2 hj ⟨y5, y6, y7, rfl, rfl⟩ k2
        refine ⟨trivial, ?_⟩
        simp only [dseq, dasg, dasgG, dgsub, setL, dop, dun, dcb, dcons, dnil, dret, dretN, dnext, ddrop, diff, dif, dtest, dand, dor, dnot, dandV, dorV, dnotV, dchain, daug, dpar, dforS, dlc, dyes, dlst, dtup, dbm, fAppend, fPop, dvar, dc, fIx, fSl, dsl, dpart, dno, fI, fI0, fU, fAdd, fMul, fInt, fAbs, fLen, fMin2, fList, fEq, fIsN, gI, gB, lstOf, lstO, newl, dgname, dgtup, dgcons, dgnil, dirng1, dirng2, dilst, ditup, dienum, dizip, stays, startD, endD, dcallP, dcallN, fS, dfz, fzK, dbreak, dcont, wipeD, List.map_cons, List.map_nil, List.length_cons, List.length_nil, List.replicate, List.cons_append, List.nil_append, List.getElem?_cons_zero, List.getElem?_cons_succ, List.set_cons_zero, List.set_cons_succ, atI_zero, atI_one, atI_two, atI_three, ixN_zero, ixN_one, mset_same, mset_mset, mdel_mset, List.length_map, vw_one, Option.isSome_some, true_and, and_true, dmk, dmk0, dxf, disx, mkS, okX]
        have hjl := (List.getElem?_eq_some_iff.mp hj).1
        refine ⟨line_ge (by decide), n, ps, (e, s), by simp [sX, vw], he, ?_⟩
        refine ⟨rfl, ?_⟩
        simp only [dseq, dasg, dasgG, dgsub, setL, dop, dun, dcb, dcons, dnil, dret, dretN, dnext, ddrop, diff, dif, dtest, dand, dor, dnot, dandV, dorV, dnotV, dchain, daug, dpar, dforS, dlc, dyes, dlst, dtup, dbm, fAppend, fPop, dvar, dc, fIx, fSl, dsl, dpart, dno, fI, fI0, fU, fAdd, fMul, fInt, fAbs, fLen, fMin2, fList, fEq, fIsN, gI, gB, lstOf, lstO, newl, dgname, dgtup, dgcons, dgnil, dirng1, dirng2, dilst, ditup, dienum, dizip, stays, startD, endD, dcallP, dcallN, fS, dfz, fzK, dbreak, dcont, wipeD, List.map_cons, List.map_nil, List.length_cons, List.length_nil, List.replicate, List.cons_append, List.nil_append, List.getElem?_cons_zero, List.getElem?_cons_succ, List.set_cons_zero, List.set_cons_succ, atI_zero, atI_one, atI_two, atI_three, ixN_zero, ixN_one, mset_same, mset_mset, mdel_mset, List.length_map, vw_one, Option.isSome_some, true_and, and_true, dmk, dmk0, dxf, disx, mkS, okX]
        have step : ∀ y6 y7, (decide (bg ps (e, s) = v) = true → R2 [some (gX C n ps), some (nX v), some (.lst b (sgs.map sgX)), some (.ptr p), some (nX e), some (.int (sg s)), y6, y7] (mset m0 p (.lst ((A ++ ((S.take j).filter fun b => decide (bg ps (e, b) = v)).map fun b => (e, b)).map (stX ps) ++ [stX ps (e, s)])))) ∧
            (decide (bg ps (e, s) = v) = false → R2 [some (gX C n ps), some (nX v), some (.lst b (sgs.map sgX)), some (.ptr p), some (nX e), some (.int (sg s)), y6, y7] (mset m0 p (.lst ((A ++ ((S.take j).filter fun b => decide (bg ps (e, b) = v)).map fun b => (e, b)).map (stX ps))))) := fun y6 y7 => by
          refine ⟨fun hb => k2 _ _ ⟨_, _, _, rfl, ?_⟩, fun hb => k2 _ _ ⟨_, _, _, rfl, ?_⟩⟩
          · rw [List.take_add_one, hj, List.filter_append]
            show mset m0 p _ = mset m0 p (.lst ((A ++ List.map _ (_ ++ List.filter _ [s])).map (stX ps)))
            rw [List.filter_cons_of_pos (p := fun b => decide (bg ps (e, b) = v)) hb]
            simp
          · rw [List.take_add_one, hj, List.filter_append]
            show mset m0 p _ = mset m0 p (.lst ((A ++ List.map _ (_ ++ List.filter _ [s])).map (stX ps)))
            rw [List.filter_cons_of_neg (p := fun b => decide (bg ps (e, b) = v)) (by rw [hb]; exact Bool.false_ne_true)]
            simp
        have ll := List.length_filter_le (fun b => decide (bg ps (e, b) = v)) (S.take j)
        rw [List.length_take] at ll
        cases hb : decide (bg ps (e, s) = v) with
        | true =>
          rw [show (false != decide (((bg ps (e, s) : Nat) : Int) = (v : Int))) = true by rw [tt (show ((bg ps (e, s) : Nat) : Int) = (v : Int) by have := of_decide_eq_true hb; omega)]; rfl]
          simp only [dseq, dasg, dasgG, dgsub, setL, dop, dun, dcb, dcons, dnil, dret, dretN, dnext, ddrop, diff, dif, dtest, dand, dor, dnot, dandV, dorV, dnotV, dchain, daug, dpar, dforS, dlc, dyes, dlst, dtup, dbm, fAppend, fPop, dvar, dc, fIx, fSl, dsl, dpart, dno, fI, fI0, fU, fAdd, fMul, fInt, fAbs, fLen, fMin2, fList, fEq, fIsN, gI, gB, lstOf, lstO, newl, dgname, dgtup, dgcons, dgnil, dirng1, dirng2, dilst, ditup, dienum, dizip, stays, startD, endD, dcallP, dcallN, fS, dfz, fzK, dbreak, dcont, wipeD, List.map_cons, List.map_nil, List.length_cons, List.length_nil, List.replicate, List.cons_append, List.nil_append, List.getElem?_cons_zero, List.getElem?_cons_succ, List.set_cons_zero, List.set_cons_succ, atI_zero, atI_one, atI_two, atI_three, ixN_zero, ixN_one, mset_same, mset_mset, mdel_mset, List.length_map, vw_one, Option.isSome_some, true_and, and_true, dmk, dmk0, dxf, disx, mkS, okX]
          refine ⟨line_ge (by decide), line_ge (by decide), by rw [sizeLine_eq]; simp; omega, ?_⟩
          exact (step _ _).1 hb
        | false =>
          rw [show (false != decide (((bg ps (e, s) : Nat) : Int) = (v : Int))) = false by rw [ff (show ¬ ((bg ps (e, s) : Nat) : Int) = (v : Int) by have := of_decide_eq_false hb; omega)]; rfl]
          exact (step _ _).2 hb
end
end K53


set_option maxRecDepth 100000
set_option maxHeartbeats 0
namespace K53
open PySem PySem.Spec PyProof.Rows L2 DL Fl
section
variable {P : Program} {w : World} {K : PySem.W.Frag} {mg : Str → Option Value} {base : Heap} {C : Addr}
theorem nodup_rev {α : Type} {l : List α} (h : l.Nodup) : l.reverse.Nodup := List.pairwise_reverse.mpr (List.Pairwise.imp (fun {a b} h => Ne.symm h) h)
/-! ### a search's tree -/
abbrev Cm := List (Nat × Option (Nat × Fl.St))
def parX : Option (Nat × Fl.St) → X
  | none => .non
  | some (u, s) => .tup [nX u, sX s]
def kvX (q : Nat × Option (Nat × Fl.St)) : Key × X := (.inl (q.1 : Int), parX q.2)
def mayS (ps : List E2) (sgs : List (List Bool)) (s : Fl.St) : Prop := s.1 < ps.length ∧ s.2 ∈ sgs.getD s.1 []
structure Bf (ps : List E2) (sgs : List (List Bool)) (r : Nat) (cm : Cm) : Prop where
  root : cm[0]? = some (r, none)
  nd : (cm.map (·.1)).Nodup
  par : ∀ i v o, cm[i]? = some (v, o) → 0 < i → ∃ u s j o', o = some (u, s) ∧ j < i ∧ cm[j]? = some (u, o') ∧ mayS ps sgs s ∧ bg ps s = u ∧ en ps s = v
theorem keys_at {cm : Cm} {i : Nat} {v : Nat} {o} (h : cm[i]? = some (v, o)) : (cm.map (·.1))[i]? = some v := by rw [List.getElem?_map, h]; rfl
theorem Bf.inj {ps sgs r} {cm : Cm} (B : Bf ps sgs r cm) {i j v : Nat} {o o'} (hi : cm[i]? = some (v, o)) (hj : cm[j]? = some (v, o')) : i = j := nodup_inj B.nd (keys_at hi) (keys_at hj)
theorem valX_kv : ∀ {cm : Cm}, (cm.map (·.1)).Nodup → ∀ {v o}, (v, o) ∈ cm → valX (cm.map kvX) (.inl (v : Int)) = some (parX o)
  | [], _, _, _, h => nomatch h
  | (u, o1) :: cm, nd, v, o, h => by
    rw [List.map_cons, List.nodup_cons] at nd
    rcases List.mem_cons.mp h with h | h
    · cases h
      simp [valX, kvX]
    · have hne : u ≠ v := fun e => nd.1 (by rw [e]; exact List.mem_map.mpr ⟨(v, o), h, rfl⟩)
      have ih := valX_kv nd.2 h
      have e1 : ((Sum.inl (u : Int) : Key) = Sum.inl (v : Int)) = False := eq_false fun e => hne (by have := Sum.inl.inj e; omega)
      unfold valX at ih ⊢
      rw [List.map_cons, List.find?_cons]
      simp only [kvX, e1, decide_false]
      exact ih
theorem valX_no : ∀ {cm : Cm} {v : Nat}, v ∉ cm.map (·.1) → valX (cm.map kvX) (.inl (v : Int)) = none
  | [], _, _ => rfl
  | (u, o1) :: cm, v, h => by
    have hne : u ≠ v := fun e => h (by rw [e]; exact List.mem_cons_self)
    have ih := valX_no (cm := cm) (v := v) fun z => h (List.mem_cons_of_mem _ z)
    have e1 : ((Sum.inl (u : Int) : Key) = Sum.inl (v : Int)) = False := eq_false fun e => hne (by have := Sum.inl.inj e; omega)
    unfold valX at ih ⊢
    rw [List.map_cons, List.find?_cons]
    simp only [kvX, e1, decide_false]
    exact ih
theorem putX_new {cm : Cm} {v : Nat} {o} (h : v ∉ cm.map (·.1)) : putX (cm.map kvX) (.inl (v : Int)) (parX o) = (cm ++ [(v, o)]).map kvX := by
  unfold putX
  have e : ((cm.map kvX).any fun kv => decide (kv.1 = .inl (v : Int))) = false := by
    rw [List.any_eq_false]
    intro kv hkv
    obtain ⟨q, hq, rfl⟩ := List.mem_map.mp hkv
    intro e
    have e2 : (Sum.inl (q.1 : Int) : Key) = Sum.inl (v : Int) := of_decide_eq_true e
    exact h (List.mem_map.mpr ⟨q, hq, by have := Sum.inl.inj e2; omega⟩)
  rw [e, List.map_append]
  rfl
theorem own_kv (cm : Cm) : ownA ((cm.map kvX).map (·.2)) = true := by
  rw [List.map_map]
  exact ownA_map _ (fun q => by
    show own (parX q.2) = true
    cases q.2 with
    | none => rfl
    | some p => rfl) _
def g_back : DF := fun kvs r P => ∃ (ps : List E2) (sgs : List (List Bool)) (s : Nat) (cm : Cm) (i v : Nat) (o : Option (Nat × Fl.St)), kvs = List.map kvX cm ∧ Bf ps sgs s cm ∧ r = [nX v] ∧ cm[i]? = some (v, o) ∧ cm.length ≤ 1000000 ∧ ∀ p, Wk ps s p v → (p.map (·.1)).Nodup → (∀ st ∈ p, mayS ps sgs st) → P (.lst true (p.map sX))
abbrev s_back : Stmt := topS 21
theorem sc_back : FnScope ["came", "last", "steps", "step"] ["came", "last"] (defScope s_back) := ⟨rfl, rfl, rfl, by decide +kernel, rfl, by decide +kernel, by decide +kernel⟩
theorem cal_back (B : Blt2 mg) (D : Def K mg "_back" s_back) : Cal false P w K mg base CX0 "_back" 1 ["came", "last"] (DFd g_back) := by
  refine Cal.mk' D (fun _ _ _ _ _ _ us hl => match us, hl with | [_, _], _ => rfl) fun f fdt F => fnD F sc_back (fun xs M Q E h => ?len) fun cdv A outer s H E hr => ⟨_,
    ((pssd_cons (psd_set 2 sc_back.nd (pd_lst true pad_nil))
(pssd_cons (psd_while PassesOwn.never (ptd_cmp op_notN' (snd_isN true) (pd_dget (hu_of hr.toRoom) (pd_var 0) (pd_var 1)) pd_non (nomark _))
(pssd_cons (psd_asg (pd_dget (hu_of hr.toRoom) (pd_var 0) (pd_var 1)) (pgd_tup (n := 2) rfl (pgsd_cons (pgd_name 1 sc_back.nd) (pgsd_cons (pgd_name 3 sc_back.nd) pgsd_nil))))
(pssd_one (psd_expr (pd_bm PySem.F.slot_list_append PySem.F.type_list_append mt_append snd_append (pd_var 2) (pad_cons (pd_var 3) pad_nil))))))
(pssd_one (psd_ret (pd_rev false (pd_var 2))))))), fun xs M Qd Ed h => ?rd⟩
  case len =>
    obtain ⟨_, kvs, r, rfl, _, _, ps, sgs, s, cm, i, v, o, _, _, rfl, _⟩ := h
    rfl
  case rd =>
    obtain ⟨pc, kvs, r, rfl, h0, hM, ps, sgs, s, cm, i, v, o, rfl, Bf0, rfl, hi, hl, q⟩ := h
    simp only [dseq, dasg, dasgG, dgsub, setL, dop, dun, dcb, dcons, dnil, dret, dretN, dnext, ddrop, diff, dif, dtest, dand, dor, dnot, dandV, dorV, dnotV, dchain, daug, dpar, dforS, dlc, dyes, dlst, dtup, dbm, fAppend, fPop, dvar, dc, fIx, fSl, dsl, dpart, dno, fI, fI0, fU, fAdd, fMul, fInt, fAbs, fLen, fMin2, fList, fEq, fIsN, gI, gB, lstOf, lstO, newl, dgname, dgtup, dgcons, dgnil, dirng1, dirng2, dilst, ditup, dienum, dizip, stays, startD, endD, dcallP, dcallN, fS, dfz, fzK, dbreak, dcont, wipeD, List.map_cons, List.map_nil, List.length_cons, List.length_nil, List.replicate, List.cons_append, List.nil_append, List.getElem?_cons_zero, List.getElem?_cons_succ, List.set_cons_zero, List.set_cons_succ, atI_zero, atI_one, atI_two, atI_three, ixN_zero, ixN_one, mset_same, mset_mset, mdel_mset, List.length_map, vw_one, Option.isSome_some, true_and, and_true, dmk, dmk0, dxf, disx, mkS, okX]
    refine ⟨Nat.zero_le _, fun p hp => ?_⟩
    have hne : p ≠ pc := fun e => by rw [e, hM] at hp; cases hp
    unfold dwhile
    refine ⟨fun m δ M' => ∃ (cur : Nat) (o : Option (Nat × Fl.St)) (acc : List Fl.St) (y : Option X), δ = [some (.ptr pc), some (nX cur), some (.ptr p), y] ∧ M' = mset M p (.lst (acc.map sX)) ∧ cm[m]? = some (cur, o) ∧ Wk ps cur acc.reverse v ∧ (acc.map (·.1)).Nodup ∧
      (∀ st ∈ acc, mayS ps sgs st ∧ ∃ (a b : Nat) (oa ob : Option (Nat × Fl.St)), cm[a]? = some (bg ps st, oa) ∧ cm[b]? = some (en ps st, ob) ∧ a < b ∧ m ≤ a) ∧ acc.length + m ≤ 1000000, ⟨i, v, o, [], none, rfl, rfl, hi, rfl, List.nodup_nil, by simp, by have := (List.getElem?_eq_some_iff.mp hi).1; simp; omega⟩, ?_⟩
    rintro m δ M' ⟨cur, o, acc, y, rfl, rfl, hm, hw, hnd, hall, hlen⟩
    have vx := valX_kv Bf0.nd (List.mem_of_getElem? hm)
    simp only [dseq, dasg, dasgG, dgsub, setL, dop, dun, dcb, dcons, dnil, dret, dretN, dnext, ddrop, diff, dif, dtest, dand, dor, dnot, dandV, dorV, dnotV, dchain, daug, dpar, dforS, dlc, dyes, dlst, dtup, dbm, fAppend, fPop, dvar, dc, fIx, fSl, dsl, dpart, dno, fI, fI0, fU, fAdd, fMul, fInt, fAbs, fLen, fMin2, fList, fEq, fIsN, gI, gB, lstOf, lstO, newl, dgname, dgtup, dgcons, dgnil, dirng1, dirng2, dilst, ditup, dienum, dizip, stays, startD, endD, dcallP, dcallN, fS, dfz, fzK, dbreak, dcont, wipeD, List.map_cons, List.map_nil, List.length_cons, List.length_nil, List.replicate, List.cons_append, List.nil_append, List.getElem?_cons_zero, List.getElem?_cons_succ, List.set_cons_zero, List.set_cons_succ, atI_zero, atI_one, atI_two, atI_three, ixN_zero, ixN_one, mset_same, mset_mset, mdel_mset, List.length_map, vw_one, Option.isSome_some, true_and, and_true, dmk, dmk0, dxf, disx, mkS, okX, fDget, dicX, keyX, mset_ne (Ne.symm hne), hM, vx]
    cases o with
    | none =>
      simp only [dseq, dasg, dasgG, dgsub, setL, dop, dun, dcb, dcons, dnil, dret, dretN, dnext, ddrop, diff, dif, dtest, dand, dor, dnot, dandV, dorV, dnotV, dchain, daug, dpar, dforS, dlc, dyes, dlst, dtup, dbm, fAppend, fPop, dvar, dc, fIx, fSl, dsl, dpart, dno, fI, fI0, fU, fAdd, fMul, fInt, fAbs, fLen, fMin2, fList, fEq, fIsN, gI, gB, lstOf, lstO, newl, dgname, dgtup, dgcons, dgnil, dirng1, dirng2, dilst, ditup, dienum, dizip, stays, startD, endD, dcallP, dcallN, fS, dfz, fzK, dbreak, dcont, wipeD, List.map_cons, List.map_nil, List.length_cons, List.length_nil, List.replicate, List.cons_append, List.nil_append, List.getElem?_cons_zero, List.getElem?_cons_succ, List.set_cons_zero, List.set_cons_succ, atI_zero, atI_one, atI_two, atI_three, ixN_zero, ixN_one, mset_same, mset_mset, mdel_mset, List.length_map, vw_one, Option.isSome_some, true_and, and_true, dmk, dmk0, dxf, disx, mkS, okX, parX, Bool.not_true, drev]
      have m0 : m = 0 := by
        rcases Nat.eq_zero_or_pos m with z | z
        · exact z
        · obtain ⟨_, _, _, _, z2, _⟩ := Bf0.par m cur none hm z
          cases z2
      subst m0
      have hr := Bf0.root
      rw [hm] at hr
      cases hr
      rw [← List.map_reverse]
      exact rt_dic h0 hM (by rw [mset_ne (Ne.symm hne)]; exact hM) (by simp only [own, own_sX, Bool.and_self]) (own_kv cm) (q acc.reverse hw (by rw [List.map_reverse]; exact nodup_rev hnd) fun st hst => (hall st (List.mem_reverse.mp hst)).1)
    | some pr =>
      obtain ⟨u, st⟩ := pr
      have hpos : 0 < m := by
        rcases Nat.eq_zero_or_pos m with z | z
        · subst z
          have hr := Bf0.root
          rw [hm] at hr
          cases hr
        · exact z
      obtain ⟨u', st', j, o', z1, hjm, hj, hmay, hbg, hen⟩ := Bf0.par m cur _ hm hpos
      cases z1
      simp only [dseq, dasg, dasgG, dgsub, setL, dop, dun, dcb, dcons, dnil, dret, dretN, dnext, ddrop, diff, dif, dtest, dand, dor, dnot, dandV, dorV, dnotV, dchain, daug, dpar, dforS, dlc, dyes, dlst, dtup, dbm, fAppend, fPop, dvar, dc, fIx, fSl, dsl, dpart, dno, fI, fI0, fU, fAdd, fMul, fInt, fAbs, fLen, fMin2, fList, fEq, fIsN, gI, gB, lstOf, lstO, newl, dgname, dgtup, dgcons, dgnil, dirng1, dirng2, dilst, ditup, dienum, dizip, stays, startD, endD, dcallP, dcallN, fS, dfz, fzK, dbreak, dcont, wipeD, List.map_cons, List.map_nil, List.length_cons, List.length_nil, List.replicate, List.cons_append, List.nil_append, List.getElem?_cons_zero, List.getElem?_cons_succ, List.set_cons_zero, List.set_cons_succ, atI_zero, atI_one, atI_two, atI_three, ixN_zero, ixN_one, mset_same, mset_mset, mdel_mset, List.length_map, vw_one, Option.isSome_some, true_and, and_true, dmk, dmk0, dxf, disx, mkS, okX, parX, Bool.not_false]
      refine ⟨fun δ' M' => δ' = [some (.ptr pc), some (nX u), some (.ptr p), some (sX st)] ∧ M' = mset M p (.lst ((acc ++ [st]).map sX)), ?_, ?_⟩
      · rintro δ' M' ⟨rfl, rfl⟩
        refine ⟨j, hjm, u, o', acc ++ [st], _, rfl, rfl, hj, ?_, ?_, ?_, ?_⟩
        · rw [List.reverse_append]
          exact ⟨hbg, hmay.1, by rw [hen]; exact hw⟩
        · rw [List.map_append, List.nodup_append]
          refine ⟨hnd, by simp, fun a ha b hb e => ?_⟩
          obtain ⟨t, ht, rfl⟩ := List.mem_map.mp ha
          rw [List.map_cons, List.map_nil, List.mem_singleton] at hb
          subst hb
          obtain ⟨_, a1, b1, oa, ob, ha1, hb1, hab, hma⟩ := hall t ht
          by_cases h2 : t.2 = st.2
          · have et : t = st := Prod.ext e h2
            rw [et, hen] at hb1
            have := Bf0.inj hb1 hm
            omega
          · have e1 : en ps t = bg ps st := by
              unfold en bg
              rw [e]
              cases h3 : t.2 <;> cases h4 : st.2 <;> simp_all
            rw [e1, hbg] at hb1
            have := Bf0.inj hb1 hj
            omega
        · intro t ht
          rcases List.mem_append.mp ht with ht | ht
          · obtain ⟨t1, a1, b1, oa, ob, ha1, hb1, hab, hma⟩ := hall t ht
            exact ⟨t1, a1, b1, oa, ob, ha1, hb1, hab, by omega⟩
          · rw [List.mem_singleton.mp ht]
            exact ⟨hmay, j, m, o', _, by rw [hbg]; exact hj, by rw [hen]; exact hm, hjm, Nat.le_refl _⟩
        · rw [List.length_append, List.length_singleton]; omega
      · refine ⟨line_gt (by omega), rfl, ?_⟩
        rw [List.map_append]
        rfl
theorem nodup_le : ∀ (n : Nat) {l : List Nat}, l.Nodup → (∀ x ∈ l, x < n) → l.length ≤ n
  | 0, l, _, h => by
    cases l with
    | nil => exact Nat.le_refl _
    | cons a l => exact absurd (h a List.mem_cons_self) (Nat.not_lt_zero _)
  | n + 1, l, nd, h => by
    by_cases hm : n ∈ l
    · have h1 := nodup_le n (l := l.erase n) (nd.erase n) fun x hx => by
        have h2 := h x (List.mem_of_mem_erase hx)
        have h3 : x ≠ n := fun e => by
          subst e
          exact absurd hx (List.Nodup.not_mem_erase nd)
        omega
      rw [List.length_erase_of_mem hm] at h1
      omega
    · have h1 := nodup_le n nd fun x hx => by
        have h2 := h x hx
        have h3 : x ≠ n := fun e => hm (by rw [← e]; exact hx)
        omega
      omega
theorem Bf.lt {n : Nat} {ps : List E2} {sgs : List (List Bool)} {r : Nat} {cm : Cm} (B : Bf ps sgs r cm) (wf : WF n ps) (hr : r < n) : ∀ v ∈ cm.map (·.1), v < n := fun v hv => by
  obtain ⟨⟨u, o⟩, hm, rfl⟩ := List.mem_map.mp hv
  obtain ⟨i, hi⟩ := List.mem_iff_getElem?.mp hm
  rcases Nat.eq_zero_or_pos i with z | z
  · subst z
    have h := B.root
    rw [hi] at h
    cases h
    exact hr
  · obtain ⟨w, s, j, o', _, _, _, hs, _, he⟩ := B.par i u o hi z
    show u < n
    rw [← he]
    exact wf.en hs.1
theorem Bf.le {n : Nat} {ps : List E2} {sgs : List (List Bool)} {r : Nat} {cm : Cm} (B : Bf ps sgs r cm) (wf : WF n ps) (hr : r < n) : cm.length ≤ n := by
  have h := nodup_le n B.nd (B.lt wf hr)
  rw [List.length_map] at h
  exact h
theorem Bf.push {ps : List E2} {sgs : List (List Bool)} {r : Nat} {cm : Cm} {u j : Nat} {o : Option (Nat × Fl.St)} {s : Fl.St} (B : Bf ps sgs r cm) (hj : cm[j]? = some (u, o)) (hs : mayS ps sgs s) (hb : bg ps s = u) (hn : en ps s ∉ cm.map (·.1)) : Bf ps sgs r (cm ++ [(en ps s, some (u, s))]) := by
  have old : ∀ {i : Nat} {q}, cm[i]? = some q → (cm ++ [(en ps s, some (u, s))])[i]? = some q := fun h => by rw [List.getElem?_append_left (List.getElem?_eq_some_iff.mp h).1]; exact h
  have jl := (List.getElem?_eq_some_iff.mp hj).1
  refine ⟨old B.root, ?_, fun i v o2 hi hp => ?_⟩
  · rw [List.map_append, List.nodup_append]
    refine ⟨B.nd, by simp, fun a ha b hb2 e => hn ?_⟩
    rw [List.map_cons, List.map_nil, List.mem_singleton] at hb2
    have : a = en ps s := e.trans hb2
    rw [← this]; exact ha
  · by_cases hlt : i < cm.length
    · rw [List.getElem?_append_left hlt] at hi
      obtain ⟨w, t, j2, o3, a1, a2, a3, a4⟩ := B.par i v o2 hi hp
      exact ⟨w, t, j2, o3, a1, a2, old a3, a4⟩
    · have hie : i = cm.length := by
        have := (List.getElem?_eq_some_iff.mp hi).1
        rw [List.length_append, List.length_singleton] at this
        omega
      subst hie
      rw [List.getElem?_append_right (Nat.le_refl _), Nat.sub_self] at hi
      cases hi
      exact ⟨u, s, j, o, rfl, jl, old hj, hs, hb, rfl⟩
theorem from_mem {ps : List E2} {sgs : List (List Bool)} {v : Nat} {s : Fl.St} : s ∈ stepsF ps sgs v ↔ mayS ps sgs s ∧ bg ps s = v := by
  unfold stepsF mayS
  rw [List.mem_flatMap]
  constructor
  · rintro ⟨e, he, hs⟩
    obtain ⟨b, hb, rfl⟩ := List.mem_map.mp hs
    rw [List.mem_filter] at hb
    exact ⟨⟨(inc_mem he).1, hb.1⟩, of_decide_eq_true hb.2⟩
  · rintro ⟨⟨h1, h2⟩, h3⟩
    refine ⟨s.1, ?_, List.mem_map.mpr ⟨s.2, List.mem_filter.mpr ⟨h2, decide_eq_true h3⟩, rfl⟩⟩
    unfold inc
    rw [List.mem_filter, List.mem_range]
    refine ⟨h1, ?_⟩
    unfold bg at h3
    split at h3
    · simp [h3]
    · simp [h3]
def g_find (C : Addr) : PF := fun xs P _ => ∃ (n : Nat) (ps : List E2) (s : Nat) (b1 b2 : Bool) (gs : List Bool) (sgs : List (List Bool)), xs = [gX C n ps, nX s, .lst b1 (gs.map X.bl), .lst b2 (sgs.map sgX)] ∧ n ≤ 1000000 ∧ ps.length ≤ 1000000 ∧ WF n ps ∧ s < n ∧ gs.length = n ∧ SgOk ps sgs ∧
  (∀ p v, Wk ps s p v → v < n → gs.getD v false = true → (p.map (·.1)).Nodup → (∀ st ∈ p, mayS ps sgs st) → P (.lst true (p.map sX))) ∧
  (∀ S : Nat → Bool, S s = true → (∀ st, mayS ps sgs st → S (bg ps st) = true → S (en ps st) = true) → (∀ v, v < n → S v = true → gs.getD v false = false) → P .non)
theorem ev_from {a : DA} {δ : Dl} {M M1 : Mu} {n v : Nat} {b : Bool} {ps : List E2} {sgs : List (List Bool)} {Er : ErrK} (h : EvA a δ M [gX C n ps, nX v, .lst b (sgs.map sgX)] M1) (hv : v < n) (hl : ps.length ≤ 1000000) (hs : SgOk ps sgs) : Ev (dcallN 2 false (g_from C) Er a) δ M (.lst true ((stepsF ps sgs v).map (stX ps))) M1 := fun Q q =>
  h _ ⟨n, ps, v, b, sgs, by simp [vw], hv, hl, hs, q⟩
abbrev s_find_steps : Stmt := topS 20
theorem sc_find_steps : FnScope ["graph", "start", "goals", "signs", "came", "queue", "at", "here", "step", "last"] ["graph", "start", "goals", "signs"] (defScope s_find_steps) := ⟨rfl, rfl, rfl, by decide +kernel, rfl, by decide +kernel, by decide +kernel⟩
theorem cal_find_steps (B : Blt2 mg) (D : Def K mg "find_steps" s_find_steps) (c_back : Cal false P w K mg base CX0 "_back" 1 ["came", "last"] (DFd g_back)) (c_steps_from : Cal false P w K mg base CX0 "steps_from" 3 ["graph", "here", "signs"] (NFd (g_from C))) : Cal false P w K mg base CX0 "find_steps" 4 ["graph", "start", "goals", "signs"] (PFd (g_find C)) := by
  refine Cal.mk' D (fun _ _ _ _ _ _ us hl => match us, hl with | [_, _, _, _], _ => rfl) fun f fdt F => fnD F sc_find_steps (fun xs M Q E h => ?len) fun cdv A outer s H E hr => ⟨_,
    ((pssd_cons (psd_set 4 sc_find_steps.nd (pd_dict1 (pd_var 1) pd_non))
(pssd_cons (psd_set 5 sc_find_steps.nd (pd_lst true (pad_cons (pd_var 1) pad_nil)))
(pssd_cons (psd_set 6 sc_find_steps.nd pd_int)
(pssd_cons (psd_while PassesOwn.never (ptd_cmp op_lt snd_B (pd_var 6) (pd_callB call_len_seq snd_len (by rfl) B.len PySem.boot_len (pad_cons (pd_var 5) pad_nil)) (nomark _))
(pssd_cons (psd_set 7 sc_find_steps.nd (pd_ix (pd_var 5) (pd_var 6)))
(pssd_cons (psd_aug 6 sc_find_steps.nd ip_add snd_ip pd_int)
(pssd_cons (psd_if (ptd_val (pd_ix (pd_var 2) (pd_var 7)))
(pssd_one (psd_ret (pd_cD 2 c_back (hr.mono (by decide)) pass0 (pad_cons (pd_var 4) (pad_cons (pd_var 7) pad_nil)))))
pssd_nil)
(pssd_one (psd_for anti0 PassesOwn.never rfl (pid_list (pd_cNF 2 mono_steps_from c_steps_from (hr.mono (by decide)) pass0 we0 (pad_cons (pd_var 0) (pad_cons (pd_var 7) (pad_cons (pd_var 3) pad_nil))))) (pgd_tup (n := 2) rfl (pgsd_cons (pgd_name 8 sc_find_steps.nd) (pgsd_cons (pgd_name 9 sc_find_steps.nd) pgsd_nil)))
(pssd_one (psd_if (ptd_dnotin (hu_of hr.toRoom) (pd_var 9) (pd_var 4))
(pssd_cons (psd_dput (hu_of hr.toRoom) (pd_var 4) (pd_var 9) (pd_tup (pad_cons (pd_var 7) (pad_cons (pd_var 8) pad_nil))))
(pssd_one (psd_expr (pd_bm PySem.F.slot_list_append PySem.F.type_list_append mt_append snd_append (pd_var 5) (pad_cons (pd_var 9) pad_nil)))))
pssd_nil))))))))
(pssd_one (psd_ret pd_non))))))), fun xs M Qd Ed h => ?rd⟩
  case len =>
    obtain ⟨_, n, ps, s, b1, b2, gs, sgs, rfl, _⟩ := h
    rfl
  case rd =>
    obtain ⟨rfl, n, ps, s, b1, b2, gs, sgs, rfl, hn, hm, wf, hs, hg, hsg, q1, q2⟩ := h
    simp only [dseq, dasg, dasgG, dgsub, setL, dop, dun, dcb, dcons, dnil, dret, dretN, dnext, ddrop, diff, dif, dtest, dand, dor, dnot, dandV, dorV, dnotV, dchain, daug, dpar, dforS, dlc, dyes, dlst, dtup, dbm, fAppend, fPop, dvar, dc, fIx, fSl, dsl, dpart, dno, fI, fI0, fU, fAdd, fMul, fInt, fAbs, fLen, fMin2, fList, fEq, fIsN, gI, gB, lstOf, lstO, newl, dgname, dgtup, dgcons, dgnil, dirng1, dirng2, dilst, ditup, dienum, dizip, stays, startD, endD, dcallP, dcallN, fS, dfz, fzK, dbreak, dcont, wipeD, List.map_cons, List.map_nil, List.length_cons, List.length_nil, List.replicate, List.cons_append, List.nil_append, List.getElem?_cons_zero, List.getElem?_cons_succ, List.set_cons_zero, List.set_cons_succ, atI_zero, atI_one, atI_two, atI_three, ixN_zero, ixN_one, mset_same, mset_mset, mdel_mset, List.length_map, vw_one, Option.isSome_some, true_and, and_true, dmk, dmk0, dxf, disx, mkS, okX, ddict1]
    intro pc hpc
    refine ⟨.inl (s : Int), rfl, Nat.le_of_lt (line_gt (by decide)), fun pq hpq => ?_⟩
    have hne : pq ≠ pc := fun e => by rw [e, mset_same] at hpq; cases hpq
    have fin : ∀ {M : Mu} {x : X}, own x = true → Qd x m0 → rtK Qd x M := fun o h => rt_pure o h
    unfold dwhile
    refine ⟨fun k δ M => ∃ (a : Nat) (cm : Cm) (y7 y8 y9 : Option X), δ = [some (gX C n ps), some (nX s), some (.lst b1 (gs.map X.bl)), some (.lst b2 (sgs.map sgX)), some (.ptr pc), some (.ptr pq), some (nX a), y7, y8, y9] ∧ M = mset (mset m0 pc (.dK (cm.map kvX))) pq (.lst ((cm.map (·.1)).map nX)) ∧ Bf ps sgs s cm ∧ a ≤ cm.length ∧ k + a = n + 1 ∧
      (∀ i v o, i < a → cm[i]? = some (v, o) → gs.getD v false = false ∧ ∀ st, mayS ps sgs st → bg ps st = v → en ps st ∈ cm.map (·.1)), ⟨n + 1, 0, [(s, none)], none, none, none, rfl, rfl, ⟨rfl, by simp, ?_⟩, Nat.zero_le _, rfl, fun i v o h => absurd h (Nat.not_lt_zero _)⟩, ?_⟩
    · intro i v o hi hp
      have := (List.getElem?_eq_some_iff.mp hi).1
      rw [List.length_singleton] at this
      omega
    rintro k δ M ⟨a, cm, y7, y8, y9, rfl, rfl, B1, ha, hk, hdone⟩
    have hle := B1.le wf hs
    by_cases hlt : a < cm.length
    · obtain ⟨⟨here, oh⟩, hcm⟩ : ∃ q, cm[a]? = some q := ⟨_, List.getElem?_eq_getElem hlt⟩
      have hmem : here ∈ cm.map (·.1) := List.mem_map.mpr ⟨_, List.mem_of_getElem? hcm, rfl⟩
      have hhn := B1.lt wf hs here hmem
      have at1 : atI ((cm.map (·.1)).map nX) (a : Int) = some (nX here) := atI_nat (lookM nX (keys_at hcm))
      simp only [dseq, dasg, dasgG, dgsub, setL, dop, dun, dcb, dcons, dnil, dret, dretN, dnext, ddrop, diff, dif, dtest, dand, dor, dnot, dandV, dorV, dnotV, dchain, daug, dpar, dforS, dlc, dyes, dlst, dtup, dbm, fAppend, fPop, dvar, dc, fIx, fSl, dsl, dpart, dno, fI, fI0, fU, fAdd, fMul, fInt, fAbs, fLen, fMin2, fList, fEq, fIsN, gI, gB, lstOf, lstO, newl, dgname, dgtup, dgcons, dgnil, dirng1, dirng2, dilst, ditup, dienum, dizip, stays, startD, endD, dcallP, dcallN, fS, dfz, fzK, dbreak, dcont, wipeD, List.map_cons, List.map_nil, List.length_cons, List.length_nil, List.replicate, List.cons_append, List.nil_append, List.getElem?_cons_zero, List.getElem?_cons_succ, List.set_cons_zero, List.set_cons_succ, atI_zero, atI_one, atI_two, atI_three, ixN_zero, ixN_one, mset_same, mset_mset, mdel_mset, List.length_map, vw_one, Option.isSome_some, true_and, and_true, dmk, dmk0, dxf, disx, mkS, okX, tt (show (a : Int) < ((cm.length : Nat) : Int) by omega), at1, atM X.bl (show here < gs.length by omega) false]
      refine ⟨fun δ' M' => ∃ (cm : Cm) (y7 y8 y9 : Option X), δ' = [some (gX C n ps), some (nX s), some (.lst b1 (gs.map X.bl)), some (.lst b2 (sgs.map sgX)), some (.ptr pc), some (.ptr pq), some (.int ((a : Int) + 1)), y7, y8, y9] ∧ M' = mset (mset m0 pc (.dK (cm.map kvX))) pq (.lst ((cm.map (·.1)).map nX)) ∧ Bf ps sgs s cm ∧ a + 1 ≤ cm.length ∧
        (∀ i v o, i < a + 1 → cm[i]? = some (v, o) → gs.getD v false = false ∧ ∀ st, mayS ps sgs st → bg ps st = v → en ps st ∈ cm.map (·.1)), ?_, ?_⟩
      · rintro δ' M' ⟨cm', y7, y8, y9, rfl, rfl, B2, hl2, hd2⟩
        have hle2 := B2.le wf hs
        exact ⟨k - 1, by omega, a + 1, cm', y7, y8, y9, by simp [nX], rfl, B2, hl2, by omega, hd2⟩
      cases hgs : gs.getD here false with
      | true =>
        refine ⟨cm.map kvX, by rw [mset_ne (Ne.symm hne), mset_same], ps, sgs, s, cm, a, here, oh, rfl, B1, by simp [vw], hcm, by omega, fun p hw hnd hall => fin (by simp only [own, own_sX, Bool.and_self]) (q1 p here hw hhn hgs hnd hall)⟩
      | false =>
        refine ⟨n, ps, here, b2, sgs, by simp [vw], hhn, hm, hsg, ?_⟩
        refine dfor_map (as := stepsF ps sgs here) (f := stX ps) (fun j δ M => ∃ (ext : Cm) (y8 y9 : Option X), δ = [some (gX C n ps), some (nX s), some (.lst b1 (gs.map X.bl)), some (.lst b2 (sgs.map sgX)), some (.ptr pc), some (.ptr pq), some (.int ((a : Int) + 1)), some (nX here), y8, y9] ∧ M = mset (mset m0 pc (.dK ((cm ++ ext).map kvX))) pq (.lst (((cm ++ ext).map (·.1)).map nX)) ∧ Bf ps sgs s (cm ++ ext) ∧
          (∀ st ∈ (stepsF ps sgs here).take j, en ps st ∈ (cm ++ ext).map (·.1))) ⟨[], y8, y9, rfl, by rw [List.append_nil], by rw [List.append_nil]; exact B1, by simp⟩ ?_ ?_
        · rintro δ M ⟨ext, y8, y9, rfl, rfl, B2, hall⟩
          rw [List.take_length] at hall
          refine ⟨trivial, cm ++ ext, _, _, _, rfl, rfl, B2, by rw [List.length_append]; omega, fun i v o hi hv => ?_⟩
          by_cases hia : i < a
          · rw [List.getElem?_append_left (by omega)] at hv
            obtain ⟨d1, d2⟩ := hdone i v o hia hv
            exact ⟨d1, fun st h1 h2 => by rw [List.map_append]; exact List.mem_append_left _ (d2 st h1 h2)⟩
          · have hia' : i = a := by omega
            subst hia'
            rw [List.getElem?_append_left hlt, hcm] at hv
            cases hv
            exact ⟨hgs, fun st h1 h2 => hall st (from_mem.mpr ⟨h1, h2⟩)⟩
        · rintro j st δ M R hj ⟨ext, y8, y9, rfl, rfl, B2, hall⟩ kk
          refine ⟨trivial, ?_⟩
          obtain ⟨hmay, hbg⟩ := from_mem.mp (List.mem_of_getElem? hj)
          have hM : mset (mset m0 pc (.dK ((cm ++ ext).map kvX))) pq (.lst (((cm ++ ext).map (·.1)).map nX)) pc = some (.dK ((cm ++ ext).map kvX)) := by rw [mset_ne (Ne.symm hne), mset_same]
          have hle2 := B2.le wf hs
          have hacm : (cm ++ ext)[a]? = some (here, oh) := by rw [List.getElem?_append_left hlt]; exact hcm
          simp only [dseq, dasg, dasgG, dgsub, setL, dop, dun, dcb, dcons, dnil, dret, dretN, dnext, ddrop, diff, dif, dtest, dand, dor, dnot, dandV, dorV, dnotV, dchain, daug, dpar, dforS, dlc, dyes, dlst, dtup, dbm, fAppend, fPop, dvar, dc, fIx, fSl, dsl, dpart, dno, fI, fI0, fU, fAdd, fMul, fInt, fAbs, fLen, fMin2, fList, fEq, fIsN, gI, gB, lstOf, lstO, newl, dgname, dgtup, dgcons, dgnil, dirng1, dirng2, dilst, ditup, dienum, dizip, stays, startD, endD, dcallP, dcallN, fS, dfz, fzK, dbreak, dcont, wipeD, List.map_cons, List.map_nil, List.length_cons, List.length_nil, List.replicate, List.cons_append, List.nil_append, List.getElem?_cons_zero, List.getElem?_cons_succ, List.set_cons_zero, List.set_cons_succ, atI_zero, atI_one, atI_two, atI_three, ixN_zero, ixN_one, mset_same, mset_mset, mdel_mset, List.length_map, vw_one, Option.isSome_some, true_and, and_true, dmk, dmk0, dxf, disx, mkS, okX, stX, dDin, dDput, fDput, dicX, keyX, hM]
          by_cases hin : en ps st ∈ (cm ++ ext).map (·.1)
          · obtain ⟨⟨v', o'⟩, hmem', e'⟩ := List.mem_map.mp hin
            have e2 : v' = en ps st := e'
            subst e2
            rw [show (true != (valX ((cm ++ ext).map kvX) (.inl ((en ps st : Nat) : Int))).isSome) = false by rw [valX_kv B2.nd hmem']; rfl]
            refine kk _ _ ⟨ext, _, _, rfl, rfl, B2, fun t ht => ?_⟩
            rw [List.take_add_one, hj] at ht
            rcases List.mem_append.mp ht with ht | ht
            · exact hall t ht
            · rw [List.mem_singleton.mp ht]; exact hin
          · rw [show (true != (valX ((cm ++ ext).map kvX) (.inl ((en ps st : Nat) : Int))).isSome) = true by rw [valX_no hin]; rfl]
            have B3 := B2.push hacm hmay hbg hin
            have hle3 := B3.le wf hs
            rw [List.length_append, List.length_singleton] at hle3
            have pe := putX_new (o := some (here, st)) hin
            have mm : ∀ c : Cell, mset (mset (mset m0 pc (.dK ((cm ++ ext).map kvX))) pq (.lst (((cm ++ ext).map (·.1)).map nX))) pc c = mset (mset m0 pc c) pq (.lst (((cm ++ ext).map (·.1)).map nX)) := fun c => by rw [mset_comm hne, mset_mset]
            simp only [dseq, dasg, dasgG, dgsub, setL, dop, dun, dcb, dcons, dnil, dret, dretN, dnext, ddrop, diff, dif, dtest, dand, dor, dnot, dandV, dorV, dnotV, dchain, daug, dpar, dforS, dlc, dyes, dlst, dtup, dbm, fAppend, fPop, dvar, dc, fIx, fSl, dsl, dpart, dno, fI, fI0, fU, fAdd, fMul, fInt, fAbs, fLen, fMin2, fList, fEq, fIsN, gI, gB, lstOf, lstO, newl, dgname, dgtup, dgcons, dgnil, dirng1, dirng2, dilst, ditup, dienum, dizip, stays, startD, endD, dcallP, dcallN, fS, dfz, fzK, dbreak, dcont, wipeD, List.map_cons, List.map_nil, List.length_cons, List.length_nil, List.replicate, List.cons_append, List.nil_append, List.getElem?_cons_zero, List.getElem?_cons_succ, List.set_cons_zero, List.set_cons_succ, atI_zero, atI_one, atI_two, atI_three, ixN_zero, ixN_one, mset_same, mset_mset, mdel_mset, List.length_map, vw_one, Option.isSome_some, true_and, and_true, dmk, dmk0, dxf, disx, mkS, okX, hM]
            refine ⟨line_ge (by decide), line_gt (by omega), ?_⟩
            have tx : X.tup [nX here, sX st] = parX (some (here, st)) := rfl
            rw [tx, pe, mm]
            simp only [dseq, dasg, dasgG, dgsub, setL, dop, dun, dcb, dcons, dnil, dret, dretN, dnext, ddrop, diff, dif, dtest, dand, dor, dnot, dandV, dorV, dnotV, dchain, daug, dpar, dforS, dlc, dyes, dlst, dtup, dbm, fAppend, fPop, dvar, dc, fIx, fSl, dsl, dpart, dno, fI, fI0, fU, fAdd, fMul, fInt, fAbs, fLen, fMin2, fList, fEq, fIsN, gI, gB, lstOf, lstO, newl, dgname, dgtup, dgcons, dgnil, dirng1, dirng2, dilst, ditup, dienum, dizip, stays, startD, endD, dcallP, dcallN, fS, dfz, fzK, dbreak, dcont, wipeD, List.map_cons, List.map_nil, List.length_cons, List.length_nil, List.replicate, List.cons_append, List.nil_append, List.getElem?_cons_zero, List.getElem?_cons_succ, List.set_cons_zero, List.set_cons_succ, atI_zero, atI_one, atI_two, atI_three, ixN_zero, ixN_one, mset_same, mset_mset, mdel_mset, List.length_map, vw_one, Option.isSome_some, true_and, and_true, dmk, dmk0, dxf, disx, mkS, okX]
            refine ⟨line_gt (by omega), ?_⟩
            refine kk _ _ ⟨ext ++ [(en ps st, some (here, st))], _, _, rfl, ?_, by rw [← List.append_assoc]; exact B3, fun t ht => ?_⟩
            · simp
            · rw [← List.append_assoc, List.map_append]
              rw [List.take_add_one, hj] at ht
              rcases List.mem_append.mp ht with ht | ht
              · exact List.mem_append_left _ (hall t ht)
              · rw [List.mem_singleton.mp ht]; exact List.mem_append_right _ List.mem_cons_self
    · simp only [dseq, dasg, dasgG, dgsub, setL, dop, dun, dcb, dcons, dnil, dret, dretN, dnext, ddrop, diff, dif, dtest, dand, dor, dnot, dandV, dorV, dnotV, dchain, daug, dpar, dforS, dlc, dyes, dlst, dtup, dbm, fAppend, fPop, dvar, dc, fIx, fSl, dsl, dpart, dno, fI, fI0, fU, fAdd, fMul, fInt, fAbs, fLen, fMin2, fList, fEq, fIsN, gI, gB, lstOf, lstO, newl, dgname, dgtup, dgcons, dgnil, dirng1, dirng2, dilst, ditup, dienum, dizip, stays, startD, endD, dcallP, dcallN, fS, dfz, fzK, dbreak, dcont, wipeD, List.map_cons, List.map_nil, List.length_cons, List.length_nil, List.replicate, List.cons_append, List.nil_append, List.getElem?_cons_zero, List.getElem?_cons_succ, List.set_cons_zero, List.set_cons_succ, atI_zero, atI_one, atI_two, atI_three, ixN_zero, ixN_one, mset_same, mset_mset, mdel_mset, List.length_map, vw_one, Option.isSome_some, true_and, and_true, dmk, dmk0, dxf, disx, mkS, okX, ff (show ¬ (a : Int) < ((cm.length : Nat) : Int) by omega)]
      have hae : a = cm.length := by omega
      refine fin rfl (q2 (fun v => decide (v ∈ cm.map (·.1))) ?_ ?_ ?_)
      · exact decide_eq_true (List.mem_map.mpr ⟨_, List.mem_of_getElem? B1.root, rfl⟩)
      · intro st h1 h2
        obtain ⟨⟨u, o⟩, hu, e⟩ := List.mem_map.mp (of_decide_eq_true h2)
        obtain ⟨i, hi⟩ := List.mem_iff_getElem?.mp hu
        exact decide_eq_true ((hdone i u o (by have := (List.getElem?_eq_some_iff.mp hi).1; omega) hi).2 st h1 e.symm)
      · intro v hv h2
        obtain ⟨⟨u, o⟩, hu, e⟩ := List.mem_map.mp (of_decide_eq_true h2)
        obtain ⟨i, hi⟩ := List.mem_iff_getElem?.mp hu
        have e2 : u = v := e
        rw [← e2]
        exact (hdone i u o (by have := (List.getElem?_eq_some_iff.mp hi).1; omega) hi).1
end
end K53


set_option maxRecDepth 100000
set_option maxHeartbeats 0
namespace K53
open PySem PySem.Spec PyProof.Rows L2 DL Fl
section
variable {P : Program} {w : World} {K : PySem.W.Frag} {mg : Str → Option Value} {base : Heap} {C : Addr}
/-! ### amounts -/
def amt (l : List Int) : Nat → Int := fun e => l.getD e 0
def imbT (ps : List E2) (a : Nat → Int) (i v : Nat) : Int := sumN (fun e => a e * (dl (hd ps e) v - dl (tl ps e) v)) i
theorem imbT_succ {ps : List E2} {a : Nat → Int} {i v : Nat} : imbT ps a (i + 1) v = imbT ps a i v + a i * (dl (hd ps i) v - dl (tl ps i) v) := rfl
def rowI (n : Nat) (f : Nat → Int) : List X := (List.range n).map fun v => .int (f v)
theorem rowI_len {n : Nat} {f : Nat → Int} : (rowI n f).length = n := by unfold rowI; rw [List.length_map, List.length_range]
theorem rowI_at {n v : Nat} {f : Nat → Int} (h : v < n) : atI (rowI n f) (v : Int) = some (.int (f v)) := atR _ h
theorem rowI_set {n v : Nat} {f : Nat → Int} {x : Int} : (rowI n f).set v (.int x) = rowI n (fun u => if u = v then x else f u) := by
  refine List.ext_getElem? fun u => ?_
  unfold rowI
  rw [List.getElem?_set, List.length_map, List.length_range]
  by_cases h : v = u
  · subst h
    by_cases hv : v < n
    · rw [if_pos rfl, if_pos hv, lookM _ (List.getElem?_range hv)]
      show _ = some (X.int (if v = v then x else f v))
      rw [if_pos rfl]
    · rw [if_pos rfl, if_neg hv, List.getElem?_eq_none (by rw [List.length_map, List.length_range]; omega)]
  · rw [if_neg h]
    by_cases hu : u < n
    · rw [lookM _ (List.getElem?_range hu), lookM _ (List.getElem?_range hu)]
      show _ = some (X.int (if u = v then x else f u))
      rw [if_neg (Ne.symm h)]
    · rw [List.getElem?_eq_none (by rw [List.length_map, List.length_range]; omega), List.getElem?_eq_none (by rw [List.length_map, List.length_range]; omega)]
theorem rowI_congr {n : Nat} {f g : Nat → Int} (h : ∀ v, v < n → f v = g v) : rowI n f = rowI n g := List.map_congr_left fun v hv => by rw [h v (List.mem_range.mp hv)]
theorem own_rowI (n : Nat) (f : Nat → Int) : ownA (rowI n f) = true := ownA_map _ (fun _ => rfl) _
def g_imb (C : Addr) : NF := fun xs Q _ => ∃ (n : Nat) (ps : List E2) (b : Bool) (l : List Int), xs = [gX C n ps, .lst b (l.map X.int)] ∧ n ≤ 1000000 ∧ l.length = ps.length ∧ WF n ps ∧ Q (rowI n (imb ps (amt l)))
theorem mono_imbalances : MonoN (g_imb C) := fun _ _ _ _ h ⟨n, ps, b, l, e, h1, h2, h3, q⟩ => ⟨n, ps, b, l, e, h1, h2, h3, h _ q⟩
theorem augL_i {p : Addr} {k : Int} {xs : List X} {x : X} (y : X) {f : X → X → Mu → VKd → Prop} {e : Mu → VKd → Prop} {M : Mu} {Q : Mu → Prop} (h : M p = some (.lst xs)) (hx : atI xs k = some x) (q : e M fun y M1 => f x y M1 fun z M2 => setL (.ptr p) (.int k) z M2 Q) : augL (.ptr p) (.int k) f e M Q := by
  unfold augL
  simp only [h, hx]
  exact q
theorem setL_i {p : Addr} {v : Nat} {xs : List X} {z : X} {M : Mu} {Q : Mu → Prop} (h : M p = some (.lst xs)) (hv : v < xs.length) (q : Q (mset M p (.lst (xs.set v z)))) : setL (.ptr p) (.int (v : Int)) z M Q := by
  unfold setL
  simp only [h, ixN_of (show (0 : Int) ≤ (v : Int) by omega) (show (v : Int) < ((xs.length : Nat) : Int) by omega), Int.toNat_natCast]
  exact q
theorem aug_row {g : Int → Int → Int} {p : Addr} {v n : Nat} {f : Nat → Int} {j : Int} {e : Mu → VKd → Prop} {M : Mu} {Q : Mu → Prop} (h : M p = some (.lst (rowI n f))) (hv : v < n) (he : ∀ K : VKd, K (.int j) M → e M K) (q : Q (mset M p (.lst (rowI n fun u => if u = v then g (f v) j else f u)))) : augL (.ptr p) (.int (v : Int)) (fI0 (gI g)) e M Q := by
  refine augL_i (y := .int j) h (rowI_at hv) (he _ ?_)
  show setL (.ptr p) (.int (v : Int)) (.int (g (f v) j)) M Q
  refine setL_i h (by rw [rowI_len]; exact hv) ?_
  rw [rowI_set]
  exact q
theorem itV {n : Nat} {ps : List E2} {M : Mu} {Q : X → List X → Prop} : itK C "_pairs" (gX C n ps) M Q = Q (.lst true (ps.map pX)) (ps.map pX) := by
  unfold itK
  rw [fld_pairs]
  rfl
theorem flat_one {n : Nat} {x : X} : (List.replicate n [x]).flatten = List.replicate n x := by
  induction n with
  | zero => rfl
  | succ n ih => rw [List.replicate_succ, List.flatten_cons, ih, List.replicate_succ]; rfl
theorem rep_rowI {n : Nat} {i : Int} : List.replicate n (X.int i) = rowI n fun _ => i := by
  unfold rowI
  rw [List.map_const', List.length_range]
abbrev s_imbalances : Stmt := topS 23
theorem sc_imbalances : FnScope ["graph", "row", "rest", "edge", "tail", "head"] ["graph", "row"] (defScope s_imbalances) := ⟨rfl, rfl, rfl, by decide +kernel, rfl, by decide +kernel, by decide +kernel⟩
theorem cal_imbalances (B : Blt2 mg) (D : Def K mg "imbalances" s_imbalances) (p_vertices : CalP P w K mg base CX0 C "vertices" 1 (g_vertices C)) (i_graph : CalIt P w K mg base C "_pairs" 1) : Cal false P w K mg base CX0 "imbalances" 4 ["graph", "row"] (NFd (g_imb C)) := by
  refine Cal.mk' D (fun _ _ _ _ _ _ us hl => match us, hl with | [_, _], _ => rfl) fun f fdt F => fnD F sc_imbalances (fun xs M Q E h => ?len) fun cdv A outer s H E hr => ⟨_,
    ((pssd_cons (psd_set 2 sc_imbalances.nd (pd_mul true (pd_lst false (pad_cons pd_int pad_nil)) (pd_prop 3 p_vertices (hr.mono (by decide)).toRoom (pd_var 0))))
(pssd_cons (psd_for anti0 PassesOwn.never rfl (pid_enumO i_graph (hr.mono (by decide)).toRoom (by rfl) B.enumerate (pad_cons (pd_var 0) pad_nil)) (pgd_tup (n := 2) rfl (pgsd_cons (pgd_name 3 sc_imbalances.nd) (pgsd_cons (pgd_tup (n := 2) rfl (pgsd_cons (pgd_name 4 sc_imbalances.nd) (pgsd_cons (pgd_name 5 sc_imbalances.nd) pgsd_nil))) pgsd_nil)))
(pssd_cons (psd_augS ip_sub snd_ip (pd_var 2) (pd_var 4) (pd_ix (pd_var 1) (pd_var 3)))
(pssd_one (psd_augS ip_add snd_ip (pd_var 2) (pd_var 5) (pd_ix (pd_var 1) (pd_var 3))))))
(pssd_one (psd_ret (pd_var 2)))))), fun xs M Qd Ed h => ?rd⟩
  case len =>
    obtain ⟨_, n, ps, b, l, rfl, _⟩ := h
    rfl
  case rd =>
    obtain ⟨rfl, n, ps, b, l, rfl, hn, hl, wf, q⟩ := h
    simp only [dseq, dasg, dasgG, dgsub, setL, dop, dun, dcb, dcons, dnil, dret, dretN, dnext, ddrop, diff, dif, dtest, dand, dor, dnot, dandV, dorV, dnotV, dchain, daug, dpar, dforS, dlc, dyes, dlst, dtup, dbm, fAppend, fPop, dvar, dc, fIx, fSl, dsl, dpart, dno, fI, fI0, fU, fAdd, fMul, fInt, fAbs, fLen, fMin2, fList, fEq, fIsN, gI, gB, lstOf, lstO, newl, dgname, dgtup, dgcons, dgnil, dirng1, dirng2, dilst, ditup, dienum, dizip, stays, startD, endD, dcallP, dcallN, fS, dfz, fzK, dbreak, dcont, wipeD, List.map_cons, List.map_nil, List.length_cons, List.length_nil, List.replicate, List.cons_append, List.nil_append, List.getElem?_cons_zero, List.getElem?_cons_succ, List.set_cons_zero, List.set_cons_succ, atI_zero, atI_one, atI_two, atI_three, ixN_zero, ixN_one, mset_same, mset_mset, mdel_mset, List.length_map, vw_one, Option.isSome_some, true_and, and_true, dmk, dmk0, dxf, disx, mkS, okX, dprop, propV, flat_one]
    rw [Int.toNat_natCast]
    refine ⟨Nat.le_of_lt (line_gt (by decide)), by omega, by omega, by rw [Nat.one_mul]; exact line_ge hn, fun p hp => ?_⟩
    rw [rep_rowI]
    simp only [dseq, dasg, dasgG, dgsub, setL, dop, dun, dcb, dcons, dnil, dret, dretN, dnext, ddrop, diff, dif, dtest, dand, dor, dnot, dandV, dorV, dnotV, dchain, daug, dpar, dforS, dlc, dyes, dlst, dtup, dbm, fAppend, fPop, dvar, dc, fIx, fSl, dsl, dpart, dno, fI, fI0, fU, fAdd, fMul, fInt, fAbs, fLen, fMin2, fList, fEq, fIsN, gI, gB, lstOf, lstO, newl, dgname, dgtup, dgcons, dgnil, dirng1, dirng2, dilst, ditup, dienum, dizip, stays, startD, endD, dcallP, dcallN, fS, dfz, fzK, dbreak, dcont, wipeD, List.map_cons, List.map_nil, List.length_cons, List.length_nil, List.replicate, List.cons_append, List.nil_append, List.getElem?_cons_zero, List.getElem?_cons_succ, List.set_cons_zero, List.set_cons_succ, atI_zero, atI_one, atI_two, atI_three, ixN_zero, ixN_one, mset_same, mset_mset, mdel_mset, List.length_map, vw_one, Option.isSome_some, true_and, and_true, dmk, dmk0, dxf, disx, mkS, okX, dienumO, itV]
    refine dfor_enum (as := ps) (f := pX) (fun i δ M => ∃ y3 y4 y5, δ = [some (gX C n ps), some (.lst b (l.map X.int)), some (.ptr p), y3, y4, y5] ∧ M = mset m0 p (.lst (rowI n (imbT ps (amt l) i)))) ⟨none, none, none, rfl, rfl⟩ ?_ ?_
    · rintro δ M ⟨y3, y4, y5, rfl, rfl⟩
      exact ⟨trivial, rt_new mset_same (own_rowI _ _) (q p hp)⟩
    · rintro i ⟨u, v⟩ δ M R hi ⟨y3, y4, y5, rfl, rfl⟩ k
      refine ⟨trivial, ?_⟩
      obtain ⟨hiL, hie⟩ := List.getElem?_eq_some_iff.mp hi
      have huv := wf (u, v) (List.mem_of_getElem? hi)
      have et : tl ps i = u := by unfold tl; rw [List.getD_eq_getElem?_getD, hi]; rfl
      have eh : hd ps i = v := by unfold hd; rw [List.getD_eq_getElem?_getD, hi]; rfl
      simp only [dseq, dasg, dasgG, dgsub, setL, dop, dun, dcb, dcons, dnil, dret, dretN, dnext, ddrop, diff, dif, dtest, dand, dor, dnot, dandV, dorV, dnotV, dchain, daug, dpar, dforS, dlc, dyes, dlst, dtup, dbm, fAppend, fPop, dvar, dc, fIx, fSl, dsl, dpart, dno, fI, fI0, fU, fAdd, fMul, fInt, fAbs, fLen, fMin2, fList, fEq, fIsN, gI, gB, lstOf, lstO, newl, dgname, dgtup, dgcons, dgnil, dirng1, dirng2, dilst, ditup, dienum, dizip, stays, startD, endD, dcallP, dcallN, fS, dfz, fzK, dbreak, dcont, wipeD, List.map_cons, List.map_nil, List.length_cons, List.length_nil, List.replicate, List.cons_append, List.nil_append, List.getElem?_cons_zero, List.getElem?_cons_succ, List.set_cons_zero, List.set_cons_succ, atI_zero, atI_one, atI_two, atI_three, ixN_zero, ixN_one, mset_same, mset_mset, mdel_mset, List.length_map, vw_one, Option.isSome_some, true_and, and_true, dmk, dmk0, dxf, disx, mkS, okX, pX, daugS]
      have at1 : atI (l.map X.int) (i : Int) = some (.int (amt l i)) := atM X.int (by omega) 0
      refine aug_row (g := fun i j => i - j) (j := amt l i) mset_same huv.1 (fun K hK => by simp only [dseq, dasg, dasgG, dgsub, setL, dop, dun, dcb, dcons, dnil, dret, dretN, dnext, ddrop, diff, dif, dtest, dand, dor, dnot, dandV, dorV, dnotV, dchain, daug, dpar, dforS, dlc, dyes, dlst, dtup, dbm, fAppend, fPop, dvar, dc, fIx, fSl, dsl, dpart, dno, fI, fI0, fU, fAdd, fMul, fInt, fAbs, fLen, fMin2, fList, fEq, fIsN, gI, gB, lstOf, lstO, newl, dgname, dgtup, dgcons, dgnil, dirng1, dirng2, dilst, ditup, dienum, dizip, stays, startD, endD, dcallP, dcallN, fS, dfz, fzK, dbreak, dcont, wipeD, List.map_cons, List.map_nil, List.length_cons, List.length_nil, List.replicate, List.cons_append, List.nil_append, List.getElem?_cons_zero, List.getElem?_cons_succ, List.set_cons_zero, List.set_cons_succ, atI_zero, atI_one, atI_two, atI_three, ixN_zero, ixN_one, mset_same, mset_mset, mdel_mset, List.length_map, vw_one, Option.isSome_some, true_and, and_true, dmk, dmk0, dxf, disx, mkS, okX, at1]; exact hK) ?_
      simp only [dseq, dasg, dasgG, dgsub, setL, dop, dun, dcb, dcons, dnil, dret, dretN, dnext, ddrop, diff, dif, dtest, dand, dor, dnot, dandV, dorV, dnotV, dchain, daug, dpar, dforS, dlc, dyes, dlst, dtup, dbm, fAppend, fPop, dvar, dc, fIx, fSl, dsl, dpart, dno, fI, fI0, fU, fAdd, fMul, fInt, fAbs, fLen, fMin2, fList, fEq, fIsN, gI, gB, lstOf, lstO, newl, dgname, dgtup, dgcons, dgnil, dirng1, dirng2, dilst, ditup, dienum, dizip, stays, startD, endD, dcallP, dcallN, fS, dfz, fzK, dbreak, dcont, wipeD, List.map_cons, List.map_nil, List.length_cons, List.length_nil, List.replicate, List.cons_append, List.nil_append, List.getElem?_cons_zero, List.getElem?_cons_succ, List.set_cons_zero, List.set_cons_succ, atI_zero, atI_one, atI_two, atI_three, ixN_zero, ixN_one, mset_same, mset_mset, mdel_mset, List.length_map, vw_one, Option.isSome_some, true_and, and_true, dmk, dmk0, dxf, disx, mkS, okX, daugS]
      refine aug_row (g := fun i j => i + j) (j := amt l i) mset_same huv.2 (fun K hK => by simp only [dseq, dasg, dasgG, dgsub, setL, dop, dun, dcb, dcons, dnil, dret, dretN, dnext, ddrop, diff, dif, dtest, dand, dor, dnot, dandV, dorV, dnotV, dchain, daug, dpar, dforS, dlc, dyes, dlst, dtup, dbm, fAppend, fPop, dvar, dc, fIx, fSl, dsl, dpart, dno, fI, fI0, fU, fAdd, fMul, fInt, fAbs, fLen, fMin2, fList, fEq, fIsN, gI, gB, lstOf, lstO, newl, dgname, dgtup, dgcons, dgnil, dirng1, dirng2, dilst, ditup, dienum, dizip, stays, startD, endD, dcallP, dcallN, fS, dfz, fzK, dbreak, dcont, wipeD, List.map_cons, List.map_nil, List.length_cons, List.length_nil, List.replicate, List.cons_append, List.nil_append, List.getElem?_cons_zero, List.getElem?_cons_succ, List.set_cons_zero, List.set_cons_succ, atI_zero, atI_one, atI_two, atI_three, ixN_zero, ixN_one, mset_same, mset_mset, mdel_mset, List.length_map, vw_one, Option.isSome_some, true_and, and_true, dmk, dmk0, dxf, disx, mkS, okX, at1]; exact hK) ?_
      simp only [dseq, dasg, dasgG, dgsub, setL, dop, dun, dcb, dcons, dnil, dret, dretN, dnext, ddrop, diff, dif, dtest, dand, dor, dnot, dandV, dorV, dnotV, dchain, daug, dpar, dforS, dlc, dyes, dlst, dtup, dbm, fAppend, fPop, dvar, dc, fIx, fSl, dsl, dpart, dno, fI, fI0, fU, fAdd, fMul, fInt, fAbs, fLen, fMin2, fList, fEq, fIsN, gI, gB, lstOf, lstO, newl, dgname, dgtup, dgcons, dgnil, dirng1, dirng2, dilst, ditup, dienum, dizip, stays, startD, endD, dcallP, dcallN, fS, dfz, fzK, dbreak, dcont, wipeD, List.map_cons, List.map_nil, List.length_cons, List.length_nil, List.replicate, List.cons_append, List.nil_append, List.getElem?_cons_zero, List.getElem?_cons_succ, List.set_cons_zero, List.set_cons_succ, atI_zero, atI_one, atI_two, atI_three, ixN_zero, ixN_one, mset_same, mset_mset, mdel_mset, List.length_map, vw_one, Option.isSome_some, true_and, and_true, dmk, dmk0, dxf, disx, mkS, okX]
      refine k _ _ ⟨_, _, _, rfl, ?_⟩
      congr 2
      refine rowI_congr fun w hw => ?_
      rw [imbT_succ, et, eh]
      unfold Fl.dl
      by_cases h1 : w = v
      · subst h1
        by_cases h2 : w = u
        · subst h2; simp
        · rw [if_pos rfl, if_neg (show ¬ (w = u) from h2), if_pos rfl, if_neg (show ¬ (u = w) from Ne.symm h2)]; omega
      · by_cases h2 : w = u
        · subst h2
          rw [if_neg h1, if_pos rfl, if_neg (show ¬ (v = w) from Ne.symm h1), if_pos rfl]
          rw [show amt l i * ((0 : Int) - 1) = - amt l i by rw [Int.zero_sub, Int.mul_neg, Int.mul_one]]
          omega
        · rw [if_neg h1, if_neg h2, if_neg (show ¬ (v = w) from Ne.symm h1), if_neg (show ¬ (u = w) from Ne.symm h2)]
          simp
def g_refuse (C : Addr) : PF := fun xs P _ => ∃ (n : Nat) (ps : List E2) (b : Bool) (l : List Int) (k : Int), xs = [gX C n ps, .lst b (l.map X.int), .int k] ∧ n ≤ 1000000 ∧ l.length = ps.length ∧ WF n ps ∧ 0 < k ∧ (∀ v, v < n → imb ps (amt l) v % k = 0) ∧ P .non
theorem ev_imb {a : DA} {δ : Dl} {M M1 : Mu} {n : Nat} {b : Bool} {ps : List E2} {l : List Int} {Er : ErrK} (h : EvA a δ M [gX C n ps, .lst b (l.map X.int)] M1) (hn : n ≤ 1000000) (hl : l.length = ps.length) (wf : WF n ps) : Ev (dcallN 2 false (g_imb C) Er a) δ M (.lst true (rowI n (imb ps (amt l)))) M1 := fun Q q =>
  h _ ⟨n, ps, b, l, by simp [vw], hn, hl, wf, q⟩
abbrev s_refuse_unbalanced : Stmt := topS 24
theorem sc_refuse_unbalanced : FnScope ["graph", "row", "modulus", "vertex", "rest"] ["graph", "row", "modulus"] (defScope s_refuse_unbalanced) := ⟨rfl, rfl, rfl, by decide +kernel, rfl, by decide +kernel, by decide +kernel⟩
theorem cal_refuse_unbalanced (B : Blt2 mg) (D : Def K mg "refuse_unbalanced" s_refuse_unbalanced) (c_imbalances : Cal false P w K mg base CX0 "imbalances" 4 ["graph", "row"] (NFd (g_imb C))) : Cal false P w K mg base CX0 "refuse_unbalanced" 5 ["graph", "row", "modulus"] (PFd (g_refuse C)) := by
  refine Cal.mk' D (fun _ _ _ _ _ _ us hl => match us, hl with | [_, _, _], _ => rfl) fun f fdt F => fnD F sc_refuse_unbalanced (fun xs M Q E h => ?len) fun cdv A outer s H E hr => ⟨_,
    ((pssd_one (psd_for anti0 PassesOwn.never rfl (pid_enum (by rfl) B.enumerate (pad_cons (pd_cNF 2 mono_imbalances c_imbalances (hr.mono (by decide)) pass0 we0 (pad_cons (pd_var 0) (pad_cons (pd_var 1) pad_nil))) pad_nil)) (pgd_tup (n := 2) rfl (pgsd_cons (pgd_name 3 sc_refuse_unbalanced.nd) (pgsd_cons (pgd_name 4 sc_refuse_unbalanced.nd) pgsd_nil)))
(pssd_one (psd_if (pwd_and (ptd_cmp op_ne snd_ne (pd_var 4) pd_int (nomark _)) (pwd_and1 (pwd_or (ptd_cmp op_eq snd_eq (pd_var 2) pd_int (nomark _)) (pwd_or1 (ptd_cmp op_ne snd_ne (pd_mod (pd_var 4) (pd_var 2)) pd_int (nomark _)))).pt)).pt
(pssd_one psd_dead)
pssd_nil))))), fun xs M Qd Ed h => ?rd⟩
  case len =>
    obtain ⟨_, n, ps, b, l, k, rfl, _⟩ := h
    rfl
  case rd =>
    obtain ⟨rfl, n, ps, b, l, k, rfl, hn, hl, wf, hk, hz, q⟩ := h
    simp only [dseq, dasg, dasgG, dgsub, setL, dop, dun, dcb, dcons, dnil, dret, dretN, dnext, ddrop, diff, dif, dtest, dand, dor, dnot, dandV, dorV, dnotV, dchain, daug, dpar, dforS, dlc, dyes, dlst, dtup, dbm, fAppend, fPop, dvar, dc, fIx, fSl, dsl, dpart, dno, fI, fI0, fU, fAdd, fMul, fInt, fAbs, fLen, fMin2, fList, fEq, fIsN, gI, gB, lstOf, lstO, newl, dgname, dgtup, dgcons, dgnil, dirng1, dirng2, dilst, ditup, dienum, dizip, stays, startD, endD, dcallP, dcallN, fS, dfz, fzK, dbreak, dcont, wipeD, List.map_cons, List.map_nil, List.length_cons, List.length_nil, List.replicate, List.cons_append, List.nil_append, List.getElem?_cons_zero, List.getElem?_cons_succ, List.set_cons_zero, List.set_cons_succ, atI_zero, atI_one, atI_two, atI_three, ixN_zero, ixN_one, mset_same, mset_mset, mdel_mset, List.length_map, vw_one, Option.isSome_some, true_and, and_true, dmk, dmk0, dxf, disx, mkS, okX]
    refine ⟨n, ps, b, l, by simp [vw], hn, hl, wf, ?_⟩
    unfold rowI
    refine dfor_enum (as := List.range n) (f := fun v => .int (imb ps (amt l) v)) (fun i δ M => ∃ y3 y4, δ = [some (gX C n ps), some (.lst b (l.map X.int)), some (.int k), y3, y4] ∧ M = m0) ⟨none, none, rfl, rfl⟩ ?_ ?_
    · rintro δ M ⟨y3, y4, rfl, rfl⟩
      exact ⟨trivial, rt_pure rfl q⟩
    · rintro i v δ M R hi ⟨y3, y4, rfl, rfl⟩ kk
      refine ⟨trivial, ?_⟩
      have hv : i < n ∧ v = i := by
        have h1 := (List.getElem?_eq_some_iff.mp hi).1
        rw [List.length_range] at h1
        rw [List.getElem?_range h1] at hi
        exact ⟨h1, (Option.some.inj hi).symm⟩
      simp only [dseq, dasg, dasgG, dgsub, setL, dop, dun, dcb, dcons, dnil, dret, dretN, dnext, ddrop, diff, dif, dtest, dand, dor, dnot, dandV, dorV, dnotV, dchain, daug, dpar, dforS, dlc, dyes, dlst, dtup, dbm, fAppend, fPop, dvar, dc, fIx, fSl, dsl, dpart, dno, fI, fI0, fU, fAdd, fMul, fInt, fAbs, fLen, fMin2, fList, fEq, fIsN, gI, gB, lstOf, lstO, newl, dgname, dgtup, dgcons, dgnil, dirng1, dirng2, dilst, ditup, dienum, dizip, stays, startD, endD, dcallP, dcallN, fS, dfz, fzK, dbreak, dcont, wipeD, List.map_cons, List.map_nil, List.length_cons, List.length_nil, List.replicate, List.cons_append, List.nil_append, List.getElem?_cons_zero, List.getElem?_cons_succ, List.set_cons_zero, List.set_cons_succ, atI_zero, atI_one, atI_two, atI_three, ixN_zero, ixN_one, mset_same, mset_mset, mdel_mset, List.length_map, vw_one, Option.isSome_some, true_and, and_true, dmk, dmk0, dxf, disx, mkS, okX]
      have e := hz v (by omega)
      cases h1 : (true != decide (imb ps (amt l) v = 0)) with
      | false => exact kk _ _ ⟨_, _, rfl, rfl⟩
      | true =>
        rw [show (false != decide (k = 0)) = false by rw [ff (by omega)]; rfl]
        simp only [dseq, dasg, dasgG, dgsub, setL, dop, dun, dcb, dcons, dnil, dret, dretN, dnext, ddrop, diff, dif, dtest, dand, dor, dnot, dandV, dorV, dnotV, dchain, daug, dpar, dforS, dlc, dyes, dlst, dtup, dbm, fAppend, fPop, dvar, dc, fIx, fSl, dsl, dpart, dno, fI, fI0, fU, fAdd, fMul, fInt, fAbs, fLen, fMin2, fList, fEq, fIsN, gI, gB, lstOf, lstO, newl, dgname, dgtup, dgcons, dgnil, dirng1, dirng2, dilst, ditup, dienum, dizip, stays, startD, endD, dcallP, dcallN, fS, dfz, fzK, dbreak, dcont, wipeD, List.map_cons, List.map_nil, List.length_cons, List.length_nil, List.replicate, List.cons_append, List.nil_append, List.getElem?_cons_zero, List.getElem?_cons_succ, List.set_cons_zero, List.set_cons_succ, atI_zero, atI_one, atI_two, atI_three, ixN_zero, ixN_one, mset_same, mset_mset, mdel_mset, List.length_map, vw_one, Option.isSome_some, true_and, and_true, dmk, dmk0, dxf, disx, mkS, okX]
        refine ⟨hk, ?_⟩
        have h2 : ∀ d : Decidable (imb ps (amt l) v % k = 0), (true != @decide _ d) = false := fun d => by rw [@decide_eq_true _ d e]; rfl
        rw [h2]
        exact kk _ _ ⟨_, _, rfl, rfl⟩
def chg (a : Int) : List Bool := if a > 0 then [false] else if a < 0 then [true] else []
def g_changes : NF := fun xs Q _ => ∃ (b : Bool) (l : List Int), xs = [.lst b (l.map X.int)] ∧ l.length ≤ 1000000 ∧ Q ((l.map chg).map sgX)
theorem mono_changes : MonoN g_changes := fun _ _ _ _ h ⟨b, l, e, h1, q⟩ => ⟨b, l, e, h1, h _ q⟩
abbrev s_changes : Stmt := topS 27
theorem sc_changes : FnScope ["amounts", "amount"] ["amounts"] (defScope s_changes) := ⟨rfl, rfl, rfl, by decide +kernel, rfl, by decide +kernel, by decide +kernel⟩
theorem cal_changes (B : Blt2 mg) (D : Def K mg "changes" s_changes) : Cal false P w K mg base CX0 "changes" 1 ["amounts"] (NFd g_changes) := by
  refine Cal.mk' D (fun _ _ _ _ _ _ us hl => match us, hl with | [_], _ => rfl) fun f fdt F => fnD F sc_changes (fun xs M Q E h => ?len) fun cdv A outer s H E hr => ⟨_,
    ((pssd_one (psd_ret (pd_lc true [("amount", 1)] anti0 sc_changes.nd (pid_list (pd_var 0)) (blkOk_by (own := [("amount", 1)]) (N := ["amounts", "amount"]) (sc := defScope s_changes) (by decide +kernel)) (fun _ _ _ _ _ => (pgl_name 1 sc_changes.nd)) (fun _ _ _ _ _ => ptsd_nil) (fun _ _ _ _ _ => (pd_if (ptd_cmp op_gt snd_B (pd_var 1) pd_int (nomark _)) (pd_tup (pad_cons (pd_neg pd_int) pad_nil)) (pd_if (ptd_cmp op_lt snd_B (pd_var 1) pd_int (nomark _)) (pd_tup (pad_cons pd_int pad_nil)) (pd_tup pad_nil)))))))), fun xs M Qd Ed h => ?rd⟩
  case len =>
    obtain ⟨_, b, l, rfl, _⟩ := h
    rfl
  case rd =>
    obtain ⟨rfl, b, l, rfl, hl, q⟩ := h
    simp only [dseq, dasg, dasgG, dgsub, setL, dop, dun, dcb, dcons, dnil, dret, dretN, dnext, ddrop, diff, dif, dtest, dand, dor, dnot, dandV, dorV, dnotV, dchain, daug, dpar, dforS, dlc, dyes, dlst, dtup, dbm, fAppend, fPop, dvar, dc, fIx, fSl, dsl, dpart, dno, fI, fI0, fU, fAdd, fMul, fInt, fAbs, fLen, fMin2, fList, fEq, fIsN, gI, gB, lstOf, lstO, newl, dgname, dgtup, dgcons, dgnil, dirng1, dirng2, dilst, ditup, dienum, dizip, stays, startD, endD, dcallP, dcallN, fS, dfz, fzK, dbreak, dcont, wipeD, List.map_cons, List.map_nil, List.length_cons, List.length_nil, List.replicate, List.cons_append, List.nil_append, List.getElem?_cons_zero, List.getElem?_cons_succ, List.set_cons_zero, List.set_cons_succ, atI_zero, atI_one, atI_two, atI_three, ixN_zero, ixN_one, mset_same, mset_mset, mdel_mset, List.length_map, vw_one, Option.isSome_some, true_and, and_true, dmk, dmk0, dxf, disx, mkS, okX]
    refine dlc_map (as := l) (f := X.int) (v := fun a => sgX (chg a)) hl trivial ?_ fun a R ha hR => ?_
    · intro p hp
      rw [show l.map (fun a => sgX (chg a)) = (l.map chg).map sgX by rw [List.map_map]; rfl]
      exact rt_new mset_same (own_sgX _) (q p hp)
    · simp only [dseq, dasg, dasgG, dgsub, setL, dop, dun, dcb, dcons, dnil, dret, dretN, dnext, ddrop, diff, dif, dtest, dand, dor, dnot, dandV, dorV, dnotV, dchain, daug, dpar, dforS, dlc, dyes, dlst, dtup, dbm, fAppend, fPop, dvar, dc, fIx, fSl, dsl, dpart, dno, fI, fI0, fU, fAdd, fMul, fInt, fAbs, fLen, fMin2, fList, fEq, fIsN, gI, gB, lstOf, lstO, newl, dgname, dgtup, dgcons, dgnil, dirng1, dirng2, dilst, ditup, dienum, dizip, stays, startD, endD, dcallP, dcallN, fS, dfz, fzK, dbreak, dcont, wipeD, List.map_cons, List.map_nil, List.length_cons, List.length_nil, List.replicate, List.cons_append, List.nil_append, List.getElem?_cons_zero, List.getElem?_cons_succ, List.set_cons_zero, List.set_cons_succ, atI_zero, atI_one, atI_two, atI_three, ixN_zero, ixN_one, mset_same, mset_mset, mdel_mset, List.length_map, vw_one, Option.isSome_some, true_and, and_true, dmk, dmk0, dxf, disx, mkS, okX]
      unfold chg at hR
      by_cases h1 : a > 0
      · rw [if_pos h1] at hR
        rw [tt (show (0 : Int) < a from h1)]
        exact ⟨line_ge (by decide), hR⟩
      · rw [if_neg h1] at hR
        rw [ff (show ¬ (0 : Int) < a from h1)]
        by_cases h2 : a < 0
        · rw [if_pos h2] at hR
          simp only [dseq, dasg, dasgG, dgsub, setL, dop, dun, dcb, dcons, dnil, dret, dretN, dnext, ddrop, diff, dif, dtest, dand, dor, dnot, dandV, dorV, dnotV, dchain, daug, dpar, dforS, dlc, dyes, dlst, dtup, dbm, fAppend, fPop, dvar, dc, fIx, fSl, dsl, dpart, dno, fI, fI0, fU, fAdd, fMul, fInt, fAbs, fLen, fMin2, fList, fEq, fIsN, gI, gB, lstOf, lstO, newl, dgname, dgtup, dgcons, dgnil, dirng1, dirng2, dilst, ditup, dienum, dizip, stays, startD, endD, dcallP, dcallN, fS, dfz, fzK, dbreak, dcont, wipeD, List.map_cons, List.map_nil, List.length_cons, List.length_nil, List.replicate, List.cons_append, List.nil_append, List.getElem?_cons_zero, List.getElem?_cons_succ, List.set_cons_zero, List.set_cons_succ, atI_zero, atI_one, atI_two, atI_three, ixN_zero, ixN_one, mset_same, mset_mset, mdel_mset, List.length_map, vw_one, Option.isSome_some, true_and, and_true, dmk, dmk0, dxf, disx, mkS, okX, tt h2]
          exact ⟨line_ge (by decide), hR⟩
        · rw [if_neg h2] at hR
          simp only [dseq, dasg, dasgG, dgsub, setL, dop, dun, dcb, dcons, dnil, dret, dretN, dnext, ddrop, diff, dif, dtest, dand, dor, dnot, dandV, dorV, dnotV, dchain, daug, dpar, dforS, dlc, dyes, dlst, dtup, dbm, fAppend, fPop, dvar, dc, fIx, fSl, dsl, dpart, dno, fI, fI0, fU, fAdd, fMul, fInt, fAbs, fLen, fMin2, fList, fEq, fIsN, gI, gB, lstOf, lstO, newl, dgname, dgtup, dgcons, dgnil, dirng1, dirng2, dilst, ditup, dienum, dizip, stays, startD, endD, dcallP, dcallN, fS, dfz, fzK, dbreak, dcont, wipeD, List.map_cons, List.map_nil, List.length_cons, List.length_nil, List.replicate, List.cons_append, List.nil_append, List.getElem?_cons_zero, List.getElem?_cons_succ, List.set_cons_zero, List.set_cons_succ, atI_zero, atI_one, atI_two, atI_three, ixN_zero, ixN_one, mset_same, mset_mset, mdel_mset, List.length_map, vw_one, Option.isSome_some, true_and, and_true, dmk, dmk0, dxf, disx, mkS, okX, ff h2]
          exact ⟨Nat.zero_le _, hR⟩
theorem cmul_s {a b : Int} (h : b.natAbs < 1000000000000) : CMul a b := .inr ⟨by omega, by omega⟩
theorem amt_set {l : List Int} {e : Nat} {x : Int} (he : e < l.length) (i : Nat) : amt (l.set e x) i = if i = e then x else amt l i := by
  unfold amt
  rw [List.getD_eq_getElem?_getD, List.getD_eq_getElem?_getD, List.getElem?_set]
  by_cases h : e = i
  · subst h
    rw [if_pos rfl, if_pos he, if_pos rfl]
    rfl
  · rw [if_neg h, if_neg (Ne.symm h)]
theorem chg_may {ps : List E2} {l : List Int} (hl : l.length = ps.length) {s : Fl.St} : mayS ps (l.map chg) s ↔ s.1 < ps.length ∧ mayC (amt l) s := by
  unfold mayS mayC
  refine and_congr_right fun hs => ?_
  have e : (l.map chg).getD s.1 [] = chg (amt l s.1) := by
    unfold amt
    rw [List.getD_eq_getElem?_getD, List.getD_eq_getElem?_getD, List.getElem?_map, List.getElem?_eq_getElem (by omega)]
    rfl
  rw [e]
  unfold chg
  cases h : s.2
  · by_cases h1 : amt l s.1 > 0
    · rw [if_pos h1]; simp; exact h1
    · rw [if_neg h1]
      by_cases h2 : amt l s.1 < 0
      · rw [if_pos h2]; simp; omega
      · rw [if_neg h2]; simp; omega
  · by_cases h1 : amt l s.1 > 0
    · rw [if_pos h1]; simp; omega
    · rw [if_neg h1]
      by_cases h2 : amt l s.1 < 0
      · rw [if_pos h2]; simp; exact h2
      · rw [if_neg h2]; simp; omega
theorem vw_lst {Mc M : Mu} {k : Nat} {b : Bool} {l : List X} : vw Mc M k (.lst b l) = .lst b l := by cases k <;> rfl
theorem vw_ints {M : Mu} {k : Nat} {p : Addr} {l : List Int} (h : M p = some (.lst (l.map X.int))) : vw m0 M (k + 1) (.ptr p) = .lst false (l.map X.int) := by
  show (match M p with
    | some (.lst zs) => X.lst false (zs.map (vw m0 M k))
    | some (.ins C ns zs) => .obj false C ns (zs.map (vw m0 M k))
    | _ => .ptr p) = _
  rw [h]
  show X.lst false ((l.map X.int).map (vw m0 M k)) = _
  rw [List.map_map]
  exact congrArg (X.lst false) (List.map_congr_left fun a _ => vw_int)
theorem gets_row {n v : Nat} {f : Nat → Int} (h : v < n) : ((List.range n).map fun v => decide (f v < 0)).getD v false = decide (f v < 0) := by
  rw [List.getD_eq_getElem?_getD, List.getElem?_map, List.getElem?_range h]
  rfl
theorem chg_two (l : List Int) : ∀ x ∈ l.map chg, x.length ≤ 2 := fun x hx => by
  obtain ⟨a, _, rfl⟩ := List.mem_map.mp hx
  unfold chg
  split
  · decide
  · split <;> decide
theorem imb_ext {ps : List E2} {a b : Nat → Int} (h : ∀ e, e < ps.length → a e = b e) (v : Nat) : imb ps a v = imb ps b v := by
  unfold imb
  exact sumN_congr fun e he => by rw [h e he]
def g_lift (C : Addr) : NF := fun xs Q _ => ∃ (n : Nat) (ps : List E2) (b : Bool) (r : List Int), xs = [gX C n ps, .lst b (r.map X.int), .int 3] ∧ n ≤ 1000000 ∧ ps.length ≤ 1000000 ∧ r.length = ps.length ∧ WF n ps ∧ (∀ e, e < ps.length → amt r e = 1 ∨ amt r e = 2) ∧ (∀ v, v < n → imb ps (amt r) v % 3 = 0) ∧
  ∀ out : List Int, out.length = ps.length → inR ps.length (amt r) (amt out) → (∀ v, v < n → imb ps (amt out) v = 0) → Q (out.map X.int)
theorem mono_lift : MonoN (g_lift C) := fun _ _ _ _ h ⟨n, ps, b, r, e, h1, h2, h3, h4, h5, h6, q⟩ => ⟨n, ps, b, r, e, h1, h2, h3, h4, h5, h6, fun o a b c => h _ (q o a b c)⟩
abbrev s_lift : Stmt := topS 26
theorem sc_lift : FnScope ["graph", "row", "modulus", "edge", "amount", "amounts", "rest", "vertex", "steps", "goal", "sign", "tail", "head", "other"] ["graph", "row", "modulus"] (defScope s_lift) := ⟨rfl, rfl, rfl, by decide +kernel, rfl, by decide +kernel, by decide +kernel⟩
theorem cal_lift (B : Blt2 mg) (D : Def K mg "lift" s_lift) (c_check_row : Cal false P w K mg base CX0 "check_row" 3 ["graph", "row"] (PFd (g_row C))) (c_refuse_unbalanced : Cal false P w K mg base CX0 "refuse_unbalanced" 5 ["graph", "row", "modulus"] (PFd (g_refuse C))) (c_imbalances : Cal false P w K mg base CX0 "imbalances" 4 ["graph", "row"] (NFd (g_imb C))) (c_find_steps : Cal false P w K mg base CX0 "find_steps" 4 ["graph", "start", "goals", "signs"] (PFd (g_find C))) (c_changes : Cal false P w K mg base CX0 "changes" 1 ["amounts"] (NFd g_changes)) (p_vertices : CalP P w K mg base CX0 C "vertices" 1 (g_vertices C)) (m_ends : CalM P w K mg base CX0 C "ends" 1 ["self", "edge"] (PFd (g_ends C))) : CalK P w K mg base CX0 "lift" 6 ["graph", "row", "modulus"] ["modulus"] 2 1 (NFd (g_lift C)) := by
  refine CalK.mk' D (by decide) (fun _ _ _ _ _ _ us ws h1 h2 => match us, h1, ws, h2 with | [_, _], _, [_], _ => rfl) fun f fdt F => fnD F sc_lift (fun xs M Q E h => ?len) fun cdv A outer s H E hr => ⟨_,
    ((pssd_cons (psd_expr (pd_cP 2 c_check_row (hr.mono (by decide)) pass0 we0 (pad_cons (pd_var 0) (pad_cons (pd_var 1) pad_nil))))
(pssd_cons (psd_if (ptd_cmp op_lt snd_B (pd_var 2) pd_int (nomark _))
(pssd_one psd_dead)
pssd_nil)
(pssd_cons (psd_for anti0 PassesOwn.never rfl (pid_enum (by rfl) B.enumerate (pad_cons (pd_var 1) pad_nil)) (pgd_tup (n := 2) rfl (pgsd_cons (pgd_name 3 sc_lift.nd) (pgsd_cons (pgd_name 4 sc_lift.nd) pgsd_nil)))
(pssd_one (psd_if (ptd_not (ptd_chain op_le snd_B op_lt snd_B pd_int (pd_var 4) (pd_var 2)))
(pssd_one psd_dead)
pssd_nil)))
(pssd_cons (psd_expr (pd_cP 2 c_refuse_unbalanced (hr.mono (by decide)) pass0 we0 (pad_cons (pd_var 0) (pad_cons (pd_var 1) (pad_cons (pd_var 2) pad_nil)))))
(pssd_cons (psd_set 5 sc_lift.nd (pd_callTy call_list_of (snd_list true) (by rfl) B.list (by decide +kernel) (pad_cons (pd_var 1) pad_nil)))
(pssd_cons (psd_set 6 sc_lift.nd (pd_cN 2 c_imbalances (hr.mono (by decide)) pass0 we0 (pad_cons (pd_var 0) (pad_cons (pd_var 5) pad_nil))))
(pssd_cons (psd_for anti0 PassesOwn.never rfl (pid_range1 (by rfl) B.range (pad_cons (pd_prop 3 p_vertices (hr.mono (by decide)).toRoom (pd_var 0)) pad_nil)) (pgd_name 7 sc_lift.nd)
(pssd_one (psd_while PassesOwn.never (ptd_cmp op_gt snd_B (pd_ix (pd_var 6) (pd_var 7)) pd_int (nomark _))
(pssd_cons (psd_set 8 sc_lift.nd (pd_cP 2 c_find_steps (hr.mono (by decide)) pass0 we0 (pad_cons (pd_var 0) (pad_cons (pd_var 7) (pad_cons (pd_lc false [("other", 13)] anti0 sc_lift.nd (pid_list (pd_var 6)) (blkOk_by (own := [("other", 13)]) (N := ["graph", "row", "modulus", "edge", "amount", "amounts", "rest", "vertex", "steps", "goal", "sign", "tail", "head", "other"]) (sc := defScope s_lift) (by decide +kernel)) (fun _ _ _ _ _ => (pgl_name 13 sc_lift.nd)) (fun _ _ _ _ _ => ptsd_nil) (fun _ _ _ _ _ => (pd_cmp op_lt snd_B (pd_var 13) pd_int (nomark _)))) (pad_cons (pd_cNF 2 mono_changes c_changes (hr.mono (by decide)) pass0 we0 (pad_cons (pd_var 5) pad_nil)) pad_nil))))))
(pssd_cons (psd_set 9 sc_lift.nd (pd_var 7))
(pssd_cons (psd_for anti0 PassesOwn.never rfl (pid_list (pd_var 8)) (pgd_tup (n := 2) rfl (pgsd_cons (pgd_name 3 sc_lift.nd) (pgsd_cons (pgd_name 10 sc_lift.nd) pgsd_nil)))
(pssd_cons (psd_asg (pd_methP 3 m_ends (hr.mono (by decide)).toRoom pass0 we0 (pd_var 0) (pad_cons (pd_var 3) pad_nil)) (pgd_tup (n := 2) rfl (pgsd_cons (pgd_name 11 sc_lift.nd) (pgsd_cons (pgd_name 12 sc_lift.nd) pgsd_nil))))
(pssd_cons (psd_set 9 sc_lift.nd (pd_if (ptd_cmp op_eq snd_eq (pd_var 10) pd_int (nomark _)) (pd_var 12) (pd_var 11)))
(pssd_one (psd_augS ip_add snd_ip (pd_var 5) (pd_var 3) (pd_mul false (pd_var 10) (pd_var 2)))))))
(pssd_cons (psd_augS ip_sub snd_ip (pd_var 6) (pd_var 7) (pd_var 2))
(pssd_one (psd_augS ip_add snd_ip (pd_var 6) (pd_var 9) (pd_var 2))))))))))
(pssd_one (psd_ret (pd_var 5))))))))))), fun xs M Qd Ed h => ?rd⟩
  case len =>
    obtain ⟨_, n, ps, b, r, rfl, _⟩ := h
    rfl
  case rd =>
    obtain ⟨rfl, n, ps, b, r, rfl, hn, hm, hr', wf, hv, hz, q⟩ := h
    simp only [dseq, dasg, dasgG, dgsub, setL, dop, dun, dcb, dcons, dnil, dret, dretN, dnext, ddrop, diff, dif, dtest, dand, dor, dnot, dandV, dorV, dnotV, dchain, daug, dpar, dforS, dlc, dyes, dlst, dtup, dbm, fAppend, fPop, dvar, dc, fIx, fSl, dsl, dpart, dno, fI, fI0, fU, fAdd, fMul, fInt, fAbs, fLen, fMin2, fList, fEq, fIsN, gI, gB, lstOf, lstO, newl, dgname, dgtup, dgcons, dgnil, dirng1, dirng2, dilst, ditup, dienum, dizip, stays, startD, endD, dcallP, dcallN, fS, dfz, fzK, dbreak, dcont, wipeD, List.map_cons, List.map_nil, List.length_cons, List.length_nil, List.replicate, List.cons_append, List.nil_append, List.getElem?_cons_zero, List.getElem?_cons_succ, List.set_cons_zero, List.set_cons_succ, atI_zero, atI_one, atI_two, atI_three, ixN_zero, ixN_one, mset_same, mset_mset, mdel_mset, List.length_map, vw_one, Option.isSome_some, true_and, and_true, dmk, dmk0, dxf, disx, mkS, okX]
    refine ⟨n, ps, b, r.map X.int, by simp [vw], by rw [List.length_map]; exact hr', hm, ?_⟩
    rw [ff (show ¬ (3 : Int) < 2 by decide)]
    simp only [dseq, dasg, dasgG, dgsub, setL, dop, dun, dcb, dcons, dnil, dret, dretN, dnext, ddrop, diff, dif, dtest, dand, dor, dnot, dandV, dorV, dnotV, dchain, daug, dpar, dforS, dlc, dyes, dlst, dtup, dbm, fAppend, fPop, dvar, dc, fIx, fSl, dsl, dpart, dno, fI, fI0, fU, fAdd, fMul, fInt, fAbs, fLen, fMin2, fList, fEq, fIsN, gI, gB, lstOf, lstO, newl, dgname, dgtup, dgcons, dgnil, dirng1, dirng2, dilst, ditup, dienum, dizip, stays, startD, endD, dcallP, dcallN, fS, dfz, fzK, dbreak, dcont, wipeD, List.map_cons, List.map_nil, List.length_cons, List.length_nil, List.replicate, List.cons_append, List.nil_append, List.getElem?_cons_zero, List.getElem?_cons_succ, List.set_cons_zero, List.set_cons_succ, atI_zero, atI_one, atI_two, atI_three, ixN_zero, ixN_one, mset_same, mset_mset, mdel_mset, List.length_map, vw_one, Option.isSome_some, true_and, and_true, dmk, dmk0, dxf, disx, mkS, okX]
    refine dfor_enum (as := r) (f := X.int) (fun i δ M => ∃ y3 y4, δ = [some (gX C n ps), some (.lst b (r.map X.int)), some (.int 3), y3, y4, none, none, none, none, none, none, none, none, none] ∧ M = m0) ⟨none, none, rfl, rfl⟩ ?_ ?_
    · rintro δ M ⟨y3, y4, rfl, rfl⟩
      refine ⟨trivial, ?_⟩
      simp only [dseq, dasg, dasgG, dgsub, setL, dop, dun, dcb, dcons, dnil, dret, dretN, dnext, ddrop, diff, dif, dtest, dand, dor, dnot, dandV, dorV, dnotV, dchain, daug, dpar, dforS, dlc, dyes, dlst, dtup, dbm, fAppend, fPop, dvar, dc, fIx, fSl, dsl, dpart, dno, fI, fI0, fU, fAdd, fMul, fInt, fAbs, fLen, fMin2, fList, fEq, fIsN, gI, gB, lstOf, lstO, newl, dgname, dgtup, dgcons, dgnil, dirng1, dirng2, dilst, ditup, dienum, dizip, stays, startD, endD, dcallP, dcallN, fS, dfz, fzK, dbreak, dcont, wipeD, List.map_cons, List.map_nil, List.length_cons, List.length_nil, List.replicate, List.cons_append, List.nil_append, List.getElem?_cons_zero, List.getElem?_cons_succ, List.set_cons_zero, List.set_cons_succ, atI_zero, atI_one, atI_two, atI_three, ixN_zero, ixN_one, mset_same, mset_mset, mdel_mset, List.length_map, vw_one, Option.isSome_some, true_and, and_true, dmk, dmk0, dxf, disx, mkS, okX]
      refine ⟨n, ps, b, r, 3, by simp [vw], hn, hr', wf, by decide, hz, ?_⟩
      intro pa hpa
      refine ⟨n, ps, false, r, by rw [vw_gX, vw_ints mset_same], hn, hr', wf, fun pr hpr => ?_⟩
      have hne : pr ≠ pa := fun e => by rw [e, mset_same] at hpr; cases hpr
      simp only [dseq, dasg, dasgG, dgsub, setL, dop, dun, dcb, dcons, dnil, dret, dretN, dnext, ddrop, diff, dif, dtest, dand, dor, dnot, dandV, dorV, dnotV, dchain, daug, dpar, dforS, dlc, dyes, dlst, dtup, dbm, fAppend, fPop, dvar, dc, fIx, fSl, dsl, dpart, dno, fI, fI0, fU, fAdd, fMul, fInt, fAbs, fLen, fMin2, fList, fEq, fIsN, gI, gB, lstOf, lstO, newl, dgname, dgtup, dgcons, dgnil, dirng1, dirng2, dilst, ditup, dienum, dizip, stays, startD, endD, dcallP, dcallN, fS, dfz, fzK, dbreak, dcont, wipeD, List.map_cons, List.map_nil, List.length_cons, List.length_nil, List.replicate, List.cons_append, List.nil_append, List.getElem?_cons_zero, List.getElem?_cons_succ, List.set_cons_zero, List.set_cons_succ, atI_zero, atI_one, atI_two, atI_three, ixN_zero, ixN_one, mset_same, mset_mset, mdel_mset, List.length_map, vw_one, Option.isSome_some, true_and, and_true, dmk, dmk0, dxf, disx, mkS, okX, dprop, propV]
      rw [Int.toNat_natCast]
      refine ⟨by omega, by omega, ?_⟩
      have LI0 : inR ps.length (amt r) (amt r) := fun e he => ⟨hv e he, .inl rfl⟩
      refine dfor_rng (fun i δ M => ∃ (am : List Int) (y3 y7 y8 y9 y10 y11 y12 : Option X), δ = [some (gX C n ps), some (.lst b (r.map X.int)), some (.int 3), y3, y4, some (.ptr pa), some (.ptr pr), y7, y8, y9, y10, y11, y12, none] ∧ M = mset (mset m0 pa (.lst (am.map X.int))) pr (.lst (rowI n (imb ps (amt am)))) ∧
        am.length = ps.length ∧ inR ps.length (amt r) (amt am) ∧ (∀ v, v < n → imb ps (amt am) v % 3 = 0) ∧ ∀ v, v < i → imb ps (amt am) v ≤ 0) ⟨r, y3, none, none, none, none, none, none, rfl, rfl, hr', LI0, hz, fun v hv => absurd hv (Nat.not_lt_zero _)⟩ ?_ ?_
      · rintro δ M ⟨am, y3, y7, y8, y9, y10, y11, y12, rfl, rfl, hal, hin, hz3, hle⟩
        refine ⟨trivial, ?_⟩
        simp only [dseq, dasg, dasgG, dgsub, setL, dop, dun, dcb, dcons, dnil, dret, dretN, dnext, ddrop, diff, dif, dtest, dand, dor, dnot, dandV, dorV, dnotV, dchain, daug, dpar, dforS, dlc, dyes, dlst, dtup, dbm, fAppend, fPop, dvar, dc, fIx, fSl, dsl, dpart, dno, fI, fI0, fU, fAdd, fMul, fInt, fAbs, fLen, fMin2, fList, fEq, fIsN, gI, gB, lstOf, lstO, newl, dgname, dgtup, dgcons, dgnil, dirng1, dirng2, dilst, ditup, dienum, dizip, stays, startD, endD, dcallP, dcallN, fS, dfz, fzK, dbreak, dcont, wipeD, List.map_cons, List.map_nil, List.length_cons, List.length_nil, List.replicate, List.cons_append, List.nil_append, List.getElem?_cons_zero, List.getElem?_cons_succ, List.set_cons_zero, List.set_cons_succ, atI_zero, atI_one, atI_two, atI_three, ixN_zero, ixN_one, mset_same, mset_mset, mdel_mset, List.length_map, vw_one, Option.isSome_some, true_and, and_true, dmk, dmk0, dxf, disx, mkS, okX]
        exact rt_new (by rw [mset_ne (Ne.symm hne), mset_same]) (ownA_map _ (fun _ => rfl) _) (q am hal hin (sumN_all0 hle (sum_imb wf _)) pa rfl)
      · rintro i δ M R hi ⟨am, y3, y7, y8, y9, y10, y11, y12, rfl, rfl, hal, hin, hz3, hle⟩ k
        refine ⟨trivial, ?_⟩
        simp only [dseq, dasg, dasgG, dgsub, setL, dop, dun, dcb, dcons, dnil, dret, dretN, dnext, ddrop, diff, dif, dtest, dand, dor, dnot, dandV, dorV, dnotV, dchain, daug, dpar, dforS, dlc, dyes, dlst, dtup, dbm, fAppend, fPop, dvar, dc, fIx, fSl, dsl, dpart, dno, fI, fI0, fU, fAdd, fMul, fInt, fAbs, fLen, fMin2, fList, fEq, fIsN, gI, gB, lstOf, lstO, newl, dgname, dgtup, dgcons, dgnil, dirng1, dirng2, dilst, ditup, dienum, dizip, stays, startD, endD, dcallP, dcallN, fS, dfz, fzK, dbreak, dcont, wipeD, List.map_cons, List.map_nil, List.length_cons, List.length_nil, List.replicate, List.cons_append, List.nil_append, List.getElem?_cons_zero, List.getElem?_cons_succ, List.set_cons_zero, List.set_cons_succ, atI_zero, atI_one, atI_two, atI_three, ixN_zero, ixN_one, mset_same, mset_mset, mdel_mset, List.length_map, vw_one, Option.isSome_some, true_and, and_true, dmk, dmk0, dxf, disx, mkS, okX]
        unfold dwhile
        refine ⟨fun t δ M => ∃ (am : List Int) (y3 y8 y9 y10 y11 y12 : Option X), δ = [some (gX C n ps), some (.lst b (r.map X.int)), some (.int 3), y3, y4, some (.ptr pa), some (.ptr pr), some (nX i), y8, y9, y10, y11, y12, none] ∧ M = mset (mset m0 pa (.lst (am.map X.int))) pr (.lst (rowI n (imb ps (amt am)))) ∧
          am.length = ps.length ∧ inR ps.length (amt r) (amt am) ∧ (∀ v, v < n → imb ps (amt am) v % 3 = 0) ∧ (∀ v, v < i → imb ps (amt am) v ≤ 0) ∧ (imb ps (amt am) i).toNat = t, ⟨_, am, y3, y8, y9, y10, y11, y12, rfl, rfl, hal, hin, hz3, hle, rfl⟩, ?_⟩
        rintro t δ M ⟨am, y3, y8, y9, y10, y11, y12, rfl, rfl, hal, hin, hz3, hle, ht⟩
        simp only [dseq, dasg, dasgG, dgsub, setL, dop, dun, dcb, dcons, dnil, dret, dretN, dnext, ddrop, diff, dif, dtest, dand, dor, dnot, dandV, dorV, dnotV, dchain, daug, dpar, dforS, dlc, dyes, dlst, dtup, dbm, fAppend, fPop, dvar, dc, fIx, fSl, dsl, dpart, dno, fI, fI0, fU, fAdd, fMul, fInt, fAbs, fLen, fMin2, fList, fEq, fIsN, gI, gB, lstOf, lstO, newl, dgname, dgtup, dgcons, dgnil, dirng1, dirng2, dilst, ditup, dienum, dizip, stays, startD, endD, dcallP, dcallN, fS, dfz, fzK, dbreak, dcont, wipeD, List.map_cons, List.map_nil, List.length_cons, List.length_nil, List.replicate, List.cons_append, List.nil_append, List.getElem?_cons_zero, List.getElem?_cons_succ, List.set_cons_zero, List.set_cons_succ, atI_zero, atI_one, atI_two, atI_three, ixN_zero, ixN_one, mset_same, mset_mset, mdel_mset, List.length_map, vw_one, Option.isSome_some, true_and, and_true, dmk, dmk0, dxf, disx, mkS, okX, rowI_at hi]
        by_cases hpos : 0 < imb ps (amt am) i
        · rw [tt hpos]
          simp only [dseq, dasg, dasgG, dgsub, setL, dop, dun, dcb, dcons, dnil, dret, dretN, dnext, ddrop, diff, dif, dtest, dand, dor, dnot, dandV, dorV, dnotV, dchain, daug, dpar, dforS, dlc, dyes, dlst, dtup, dbm, fAppend, fPop, dvar, dc, fIx, fSl, dsl, dpart, dno, fI, fI0, fU, fAdd, fMul, fInt, fAbs, fLen, fMin2, fList, fEq, fIsN, gI, gB, lstOf, lstO, newl, dgname, dgtup, dgcons, dgnil, dirng1, dirng2, dilst, ditup, dienum, dizip, stays, startD, endD, dcallP, dcallN, fS, dfz, fzK, dbreak, dcont, wipeD, List.map_cons, List.map_nil, List.length_cons, List.length_nil, List.replicate, List.cons_append, List.nil_append, List.getElem?_cons_zero, List.getElem?_cons_succ, List.set_cons_zero, List.set_cons_succ, atI_zero, atI_one, atI_two, atI_three, ixN_zero, ixN_one, mset_same, mset_mset, mdel_mset, List.length_map, vw_one, Option.isSome_some, true_and, and_true, dmk, dmk0, dxf, disx, mkS, okX]
          have hMr : mset (mset m0 pa (.lst (am.map X.int))) pr (.lst (rowI n (imb ps (amt am)))) pr = some (.lst (rowI n (imb ps (amt am)))) := mset_same
          have hMa : mset (mset m0 pa (.lst (am.map X.int))) pr (.lst (rowI n (imb ps (amt am)))) pa = some (.lst (am.map X.int)) := by rw [mset_ne (Ne.symm hne), mset_same]
          refine ⟨fun δ' M' => ∃ (am' : List Int) (y3 y8 y9 y10 y11 y12 : Option X), δ' = [some (gX C n ps), some (.lst b (r.map X.int)), some (.int 3), y3, y4, some (.ptr pa), some (.ptr pr), some (nX i), y8, y9, y10, y11, y12, none] ∧ M' = mset (mset m0 pa (.lst (am'.map X.int))) pr (.lst (rowI n (imb ps (amt am')))) ∧
            am'.length = ps.length ∧ inR ps.length (amt r) (amt am') ∧ (∀ v, v < n → imb ps (amt am') v % 3 = 0) ∧ (∀ v, v < i → imb ps (amt am') v ≤ 0) ∧ imb ps (amt am') i = imb ps (amt am) i - 3, ?_, ?_⟩
          · rintro δ' M' ⟨am', y3, y8, y9, y10, y11, y12, rfl, rfl, h1, h2, h3, h4, h5⟩
            exact ⟨_, by omega, am', y3, y8, y9, y10, y11, y12, rfl, rfl, h1, h2, h3, h4, rfl⟩
          refine dlc_map (as := List.range n) (f := fun v => .int (imb ps (amt am) v)) (v := fun v => .bl (decide (imb ps (amt am) v < 0))) (by rw [List.length_range]; exact hn) mset_same ?_ fun v R' hv' hR' => by simp only [dseq, dasg, dasgG, dgsub, setL, dop, dun, dcb, dcons, dnil, dret, dretN, dnext, ddrop, diff, dif, dtest, dand, dor, dnot, dandV, dorV, dnotV, dchain, daug, dpar, dforS, dlc, dyes, dlst, dtup, dbm, fAppend, fPop, dvar, dc, fIx, fSl, dsl, dpart, dno, fI, fI0, fU, fAdd, fMul, fInt, fAbs, fLen, fMin2, fList, fEq, fIsN, gI, gB, lstOf, lstO, newl, dgname, dgtup, dgcons, dgnil, dirng1, dirng2, dilst, ditup, dienum, dizip, stays, startD, endD, dcallP, dcallN, fS, dfz, fzK, dbreak, dcont, wipeD, List.map_cons, List.map_nil, List.length_cons, List.length_nil, List.replicate, List.cons_append, List.nil_append, List.getElem?_cons_zero, List.getElem?_cons_succ, List.set_cons_zero, List.set_cons_succ, atI_zero, atI_one, atI_two, atI_three, ixN_zero, ixN_one, mset_same, mset_mset, mdel_mset, List.length_map, vw_one, Option.isSome_some, true_and, and_true, dmk, dmk0, dxf, disx, mkS, okX]; exact hR'
          refine ⟨false, am, by rw [vw_ints hMa], by omega, ?_⟩
          refine ⟨n, ps, i, true, true, (List.range n).map fun v => decide (imb ps (amt am) v < 0), am.map chg, ?_, hn, hm, wf, hi, by rw [List.length_map, List.length_range], ⟨by rw [List.length_map]; exact hal, chg_two am⟩, ?_, ?_⟩
          · rw [vw_gX, vw_int, vw_lst, vw_lst, List.map_map, List.map_map]
            rfl
          · intro p w hw hwn hgw hnd hall
            rw [gets_row hwn] at hgw
            have hneg : imb ps (amt am) w < 0 := of_decide_eq_true hgw
            have hiw : i ≠ w := fun e => by rw [← e] at hneg; omega
            have hallC : ∀ s ∈ p, mayC (amt am) s := fun s hs => ((chg_may hal).mp (hall s hs)).2
            simp only [dseq, dasg, dasgG, dgsub, setL, dop, dun, dcb, dcons, dnil, dret, dretN, dnext, ddrop, diff, dif, dtest, dand, dor, dnot, dandV, dorV, dnotV, dchain, daug, dpar, dforS, dlc, dyes, dlst, dtup, dbm, fAppend, fPop, dvar, dc, fIx, fSl, dsl, dpart, dno, fI, fI0, fU, fAdd, fMul, fInt, fAbs, fLen, fMin2, fList, fEq, fIsN, gI, gB, lstOf, lstO, newl, dgname, dgtup, dgcons, dgnil, dirng1, dirng2, dilst, ditup, dienum, dizip, stays, startD, endD, dcallP, dcallN, fS, dfz, fzK, dbreak, dcont, wipeD, List.map_cons, List.map_nil, List.length_cons, List.length_nil, List.replicate, List.cons_append, List.nil_append, List.getElem?_cons_zero, List.getElem?_cons_succ, List.set_cons_zero, List.set_cons_succ, atI_zero, atI_one, atI_two, atI_three, ixN_zero, ixN_one, mset_same, mset_mset, mdel_mset, List.length_map, vw_one, Option.isSome_some, true_and, and_true, dmk, dmk0, dxf, disx, mkS, okX]
            refine dfor_map (as := p) (f := sX) (fun j δ M => ∃ (am' : List Int) (g : Nat) (y3 y10 y11 y12 : Option X), δ = [some (gX C n ps), some (.lst b (r.map X.int)), some (.int 3), y3, y4, some (.ptr pa), some (.ptr pr), some (nX i), some (.lst true (p.map sX)), some (nX g), y10, y11, y12, none] ∧ M = mset (mset m0 pa (.lst (am'.map X.int))) pr (.lst (rowI n (imb ps (amt am)))) ∧
              am'.length = ps.length ∧ (∀ e, amt am' e = (p.take j).foldl (app 3) (amt am) e) ∧ Wk ps i (p.take j) g) ⟨am, i, y3, y10, y11, y12, rfl, rfl, hal, fun e => rfl, rfl⟩ ?_ ?_
            · rintro δ M ⟨am', g, y3, y10, y11, y12, rfl, rfl, hal', hfold, hwk⟩
              rw [List.take_length] at hfold hwk
              refine ⟨trivial, ?_⟩
              have eg : g = w := Wk.det hwk hw
              subst eg
              have him : ∀ v, imb ps (amt am') v = imb ps (amt am) v + 3 * (Fl.dl g v - Fl.dl i v) := fun v => by
                rw [imb_ext (fun e _ => hfold e) v]
                exact imb_walk hwk v
              have hin' : inR ps.length (amt r) (amt am') := fun e he => by rw [hfold e]; exact inR_app hin hnd hallC e he
              simp only [dseq, dasg, dasgG, dgsub, setL, dop, dun, dcb, dcons, dnil, dret, dretN, dnext, ddrop, diff, dif, dtest, dand, dor, dnot, dandV, dorV, dnotV, dchain, daug, dpar, dforS, dlc, dyes, dlst, dtup, dbm, fAppend, fPop, dvar, dc, fIx, fSl, dsl, dpart, dno, fI, fI0, fU, fAdd, fMul, fInt, fAbs, fLen, fMin2, fList, fEq, fIsN, gI, gB, lstOf, lstO, newl, dgname, dgtup, dgcons, dgnil, dirng1, dirng2, dilst, ditup, dienum, dizip, stays, startD, endD, dcallP, dcallN, fS, dfz, fzK, dbreak, dcont, wipeD, List.map_cons, List.map_nil, List.length_cons, List.length_nil, List.replicate, List.cons_append, List.nil_append, List.getElem?_cons_zero, List.getElem?_cons_succ, List.set_cons_zero, List.set_cons_succ, atI_zero, atI_one, atI_two, atI_three, ixN_zero, ixN_one, mset_same, mset_mset, mdel_mset, List.length_map, vw_one, Option.isSome_some, true_and, and_true, dmk, dmk0, dxf, disx, mkS, okX, daugS]
              refine aug_row (g := fun i j => i - j) (j := 3) mset_same hi (fun K hK => hK) ?_
              simp only [dseq, dasg, dasgG, dgsub, setL, dop, dun, dcb, dcons, dnil, dret, dretN, dnext, ddrop, diff, dif, dtest, dand, dor, dnot, dandV, dorV, dnotV, dchain, daug, dpar, dforS, dlc, dyes, dlst, dtup, dbm, fAppend, fPop, dvar, dc, fIx, fSl, dsl, dpart, dno, fI, fI0, fU, fAdd, fMul, fInt, fAbs, fLen, fMin2, fList, fEq, fIsN, gI, gB, lstOf, lstO, newl, dgname, dgtup, dgcons, dgnil, dirng1, dirng2, dilst, ditup, dienum, dizip, stays, startD, endD, dcallP, dcallN, fS, dfz, fzK, dbreak, dcont, wipeD, List.map_cons, List.map_nil, List.length_cons, List.length_nil, List.replicate, List.cons_append, List.nil_append, List.getElem?_cons_zero, List.getElem?_cons_succ, List.set_cons_zero, List.set_cons_succ, atI_zero, atI_one, atI_two, atI_three, ixN_zero, ixN_one, mset_same, mset_mset, mdel_mset, List.length_map, vw_one, Option.isSome_some, true_and, and_true, dmk, dmk0, dxf, disx, mkS, okX, daugS]
              refine aug_row (g := fun i j => i + j) (j := 3) mset_same hwn (fun K hK => hK) ?_
              simp only [dseq, dasg, dasgG, dgsub, setL, dop, dun, dcb, dcons, dnil, dret, dretN, dnext, ddrop, diff, dif, dtest, dand, dor, dnot, dandV, dorV, dnotV, dchain, daug, dpar, dforS, dlc, dyes, dlst, dtup, dbm, fAppend, fPop, dvar, dc, fIx, fSl, dsl, dpart, dno, fI, fI0, fU, fAdd, fMul, fInt, fAbs, fLen, fMin2, fList, fEq, fIsN, gI, gB, lstOf, lstO, newl, dgname, dgtup, dgcons, dgnil, dirng1, dirng2, dilst, ditup, dienum, dizip, stays, startD, endD, dcallP, dcallN, fS, dfz, fzK, dbreak, dcont, wipeD, List.map_cons, List.map_nil, List.length_cons, List.length_nil, List.replicate, List.cons_append, List.nil_append, List.getElem?_cons_zero, List.getElem?_cons_succ, List.set_cons_zero, List.set_cons_succ, atI_zero, atI_one, atI_two, atI_three, ixN_zero, ixN_one, mset_same, mset_mset, mdel_mset, List.length_map, vw_one, Option.isSome_some, true_and, and_true, dmk, dmk0, dxf, disx, mkS, okX]
              have erow : rowI n (fun u => if u = g then (if g = i then imb ps (amt am) i - 3 else imb ps (amt am) g) + 3 else if u = i then imb ps (amt am) i - 3 else imb ps (amt am) u) = rowI n (imb ps (amt am')) := rowI_congr fun v hv' => by
                rw [him v, if_neg (Ne.symm hiw)]
                unfold Fl.dl
                by_cases h1 : v = g
                · subst h1
                  rw [if_pos rfl, if_pos rfl, if_neg hiw]; omega
                · by_cases h2 : v = i
                  · subst h2
                    rw [if_neg h1, if_pos rfl, if_neg (Ne.symm h1), if_pos rfl]; omega
                  · rw [if_neg h1, if_neg h2, if_neg (Ne.symm h1), if_neg (Ne.symm h2)]; omega
              refine ⟨am', y3, _, _, y10, y11, y12, rfl, congrArg (fun l => mset _ pr (Cell.lst l)) erow, hal', hin', fun v hv' => ?_, fun v hv' => ?_, ?_⟩
              · rw [him v]
                have := hz3 v hv'
                omega
              · rw [him v]
                have h1 := hle v hv'
                have h2 : Fl.dl i v = 0 := by unfold Fl.dl; rw [if_neg (by omega)]
                rw [h2]
                unfold Fl.dl
                by_cases h3 : g = v
                · rw [if_pos h3]
                  rw [← h3]
                  have := hz3 g hwn
                  omega
                · rw [if_neg h3]; omega
              · rw [him i]
                unfold Fl.dl
                rw [if_neg (Ne.symm hiw), if_pos rfl]
                omega
            · rintro j st δ M R' hj ⟨am', g, y3, y10, y11, y12, rfl, rfl, hal', hfold, hwk⟩ kk
              refine ⟨trivial, ?_⟩
              have htk : p.take (j + 1) = p.take j ++ [st] := by rw [List.take_add_one, hj]; rfl
              have hst := hall st (List.mem_of_getElem? hj)
              have hbg : bg ps st = g := by
                have hjl := (List.getElem?_eq_some_iff.mp hj).1
                have h1 : Wk ps i (p.take j ++ p.drop j) w := by rw [List.take_append_drop]; exact hw
                obtain ⟨g', h2, h3⟩ := Wk.of_append h1
                have h4 := Wk.det hwk h2
                rw [List.drop_eq_getElem_cons hjl, (List.getElem?_eq_some_iff.mp hj).2] at h3
                rw [h4]; exact h3.1
              simp only [dseq, dasg, dasgG, dgsub, setL, dop, dun, dcb, dcons, dnil, dret, dretN, dnext, ddrop, diff, dif, dtest, dand, dor, dnot, dandV, dorV, dnotV, dchain, daug, dpar, dforS, dlc, dyes, dlst, dtup, dbm, fAppend, fPop, dvar, dc, fIx, fSl, dsl, dpart, dno, fI, fI0, fU, fAdd, fMul, fInt, fAbs, fLen, fMin2, fList, fEq, fIsN, gI, gB, lstOf, lstO, newl, dgname, dgtup, dgcons, dgnil, dirng1, dirng2, dilst, ditup, dienum, dizip, stays, startD, endD, dcallP, dcallN, fS, dfz, fzK, dbreak, dcont, wipeD, List.map_cons, List.map_nil, List.length_cons, List.length_nil, List.replicate, List.cons_append, List.nil_append, List.getElem?_cons_zero, List.getElem?_cons_succ, List.set_cons_zero, List.set_cons_succ, atI_zero, atI_one, atI_two, atI_three, ixN_zero, ixN_one, mset_same, mset_mset, mdel_mset, List.length_map, vw_one, Option.isSome_some, true_and, and_true, dmk, dmk0, dxf, disx, mkS, okX, sX]
              refine ev_ends (ev_var rfl) (ev_cons (ev_var rfl) ev_nil) hst.1 _ ?_
              simp only [dseq, dasg, dasgG, dgsub, setL, dop, dun, dcb, dcons, dnil, dret, dretN, dnext, ddrop, diff, dif, dtest, dand, dor, dnot, dandV, dorV, dnotV, dchain, daug, dpar, dforS, dlc, dyes, dlst, dtup, dbm, fAppend, fPop, dvar, dc, fIx, fSl, dsl, dpart, dno, fI, fI0, fU, fAdd, fMul, fInt, fAbs, fLen, fMin2, fList, fEq, fIsN, gI, gB, lstOf, lstO, newl, dgname, dgtup, dgcons, dgnil, dirng1, dirng2, dilst, ditup, dienum, dizip, stays, startD, endD, dcallP, dcallN, fS, dfz, fzK, dbreak, dcont, wipeD, List.map_cons, List.map_nil, List.length_cons, List.length_nil, List.replicate, List.cons_append, List.nil_append, List.getElem?_cons_zero, List.getElem?_cons_succ, List.set_cons_zero, List.set_cons_succ, atI_zero, atI_one, atI_two, atI_three, ixN_zero, ixN_one, mset_same, mset_mset, mdel_mset, List.length_map, vw_one, Option.isSome_some, true_and, and_true, dmk, dmk0, dxf, disx, mkS, okX, pX, get_pX hst.1]
              have at2 : atI (am'.map X.int) ((st.1 : Nat) : Int) = some (.int (amt am' st.1)) := atM X.int (by rw [hal']; exact hst.1) 0
              have hMa' : mset (mset m0 pa (.lst (am'.map X.int))) pr (.lst (rowI n (imb ps (amt am)))) pa = some (.lst (am'.map X.int)) := by rw [mset_ne (Ne.symm hne), mset_same]
              have rest : ∀ (z : Nat) (DD : EndsD), z = en ps st → DD.nx = R' → daugS (dvar 5) (dvar 3) (dop (fMul false) (dvar 10) (dvar 2)) (fI0 fun i j => X.int (i + j)) DD [some (gX C n ps), some (.lst b (r.map X.int)), some (.int 3), some (nX st.1), y4, some (.ptr pa), some (.ptr pr), some (nX i), some (.lst true (p.map sX)), some (nX z), some (.int (sg st.2)), some (nX (tl ps st.1)), some (nX (hd ps st.1)), none] (mset (mset m0 pa (.lst (am'.map X.int))) pr (.lst (rowI n (imb ps (amt am))))) := by
                rintro z DD rfl hDD
                simp only [dseq, dasg, dasgG, dgsub, setL, dop, dun, dcb, dcons, dnil, dret, dretN, dnext, ddrop, diff, dif, dtest, dand, dor, dnot, dandV, dorV, dnotV, dchain, daug, dpar, dforS, dlc, dyes, dlst, dtup, dbm, fAppend, fPop, dvar, dc, fIx, fSl, dsl, dpart, dno, fI, fI0, fU, fAdd, fMul, fInt, fAbs, fLen, fMin2, fList, fEq, fIsN, gI, gB, lstOf, lstO, newl, dgname, dgtup, dgcons, dgnil, dirng1, dirng2, dilst, ditup, dienum, dizip, stays, startD, endD, dcallP, dcallN, fS, dfz, fzK, dbreak, dcont, wipeD, List.map_cons, List.map_nil, List.length_cons, List.length_nil, List.replicate, List.cons_append, List.nil_append, List.getElem?_cons_zero, List.getElem?_cons_succ, List.set_cons_zero, List.set_cons_succ, atI_zero, atI_one, atI_two, atI_three, ixN_zero, ixN_one, mset_same, mset_mset, mdel_mset, List.length_map, vw_one, Option.isSome_some, true_and, and_true, dmk, dmk0, dxf, disx, mkS, okX, daugS]
                refine augL_i (.int (sg st.2 * 3)) hMa' at2 ?_
                simp only [dseq, dasg, dasgG, dgsub, setL, dop, dun, dcb, dcons, dnil, dret, dretN, dnext, ddrop, diff, dif, dtest, dand, dor, dnot, dandV, dorV, dnotV, dchain, daug, dpar, dforS, dlc, dyes, dlst, dtup, dbm, fAppend, fPop, dvar, dc, fIx, fSl, dsl, dpart, dno, fI, fI0, fU, fAdd, fMul, fInt, fAbs, fLen, fMin2, fList, fEq, fIsN, gI, gB, lstOf, lstO, newl, dgname, dgtup, dgcons, dgnil, dirng1, dirng2, dilst, ditup, dienum, dizip, stays, startD, endD, dcallP, dcallN, fS, dfz, fzK, dbreak, dcont, wipeD, List.map_cons, List.map_nil, List.length_cons, List.length_nil, List.replicate, List.cons_append, List.nil_append, List.getElem?_cons_zero, List.getElem?_cons_succ, List.set_cons_zero, List.set_cons_succ, atI_zero, atI_one, atI_two, atI_three, ixN_zero, ixN_one, mset_same, mset_mset, mdel_mset, List.length_map, vw_one, Option.isSome_some, true_and, and_true, dmk, dmk0, dxf, disx, mkS, okX]
                refine ⟨cmul_s (by decide), ?_⟩
                simp only [dseq, dasg, dasgG, dgsub, setL, dop, dun, dcb, dcons, dnil, dret, dretN, dnext, ddrop, diff, dif, dtest, dand, dor, dnot, dandV, dorV, dnotV, dchain, daug, dpar, dforS, dlc, dyes, dlst, dtup, dbm, fAppend, fPop, dvar, dc, fIx, fSl, dsl, dpart, dno, fI, fI0, fU, fAdd, fMul, fInt, fAbs, fLen, fMin2, fList, fEq, fIsN, gI, gB, lstOf, lstO, newl, dgname, dgtup, dgcons, dgnil, dirng1, dirng2, dilst, ditup, dienum, dizip, stays, startD, endD, dcallP, dcallN, fS, dfz, fzK, dbreak, dcont, wipeD, List.map_cons, List.map_nil, List.length_cons, List.length_nil, List.replicate, List.cons_append, List.nil_append, List.getElem?_cons_zero, List.getElem?_cons_succ, List.set_cons_zero, List.set_cons_succ, atI_zero, atI_one, atI_two, atI_three, ixN_zero, ixN_one, mset_same, mset_mset, mdel_mset, List.length_map, vw_one, Option.isSome_some, true_and, and_true, dmk, dmk0, dxf, disx, mkS, okX, hMa', List.length_map]
                rw [ixN_of (show (0 : Int) ≤ ((st.1 : Nat) : Int) by omega) (show ((st.1 : Nat) : Int) < ((am'.length : Nat) : Int) by have := hst.1; omega), Int.toNat_natCast, hDD]
                refine kk _ _ ⟨am'.set st.1 (amt am' st.1 + sg st.2 * 3), en ps st, _, _, _, _, rfl, ?_, by rw [List.length_set]; exact hal', fun e => ?_, ?_⟩
                · rw [mset_comm hne, mset_mset, List.map_set]
                · rw [amt_set (by rw [hal']; exact hst.1), htk, List.foldl_append, List.foldl_cons, List.foldl_nil]
                  generalize (p.take j).foldl (app 3) (amt am) = F at hfold ⊢
                  show _ = if e = st.1 then F e + sg st.2 * 3 else F e
                  by_cases he : e = st.1
                  · rw [if_pos he, if_pos he, ← hfold e, he]
                  · rw [if_neg he, if_neg he, hfold e]
                · rw [htk]
                  exact hwk.append ⟨hbg, hst.1, rfl⟩
              have h2 : st.2 = true ∨ st.2 = false := by cases st.2 <;> simp
              rcases h2 with h2 | h2
              · have e1 : (false != decide (sg st.2 = 1)) = true := by rw [h2]; rfl
                rw [e1]
                exact rest _ _ (by unfold en; rw [h2]; rfl) rfl
              · have e1 : (false != decide (sg st.2 = 1)) = false := by rw [h2]; rfl
                rw [e1]
                exact rest _ _ (by unfold en; rw [h2]; rfl) rfl
          · intro S hS hcl hno
            exfalso
            obtain ⟨v, hv', hSv, hneg⟩ := way wf hi hS hpos fun s hs hmc hSb => hcl s ((chg_may hal).mpr ⟨hs, hmc⟩) hSb
            have := hno v hv' hSv
            rw [gets_row hv'] at this
            exact absurd hneg (of_decide_eq_false this)
        · rw [ff hpos]
          refine k _ _ ⟨am, _, _, _, _, _, _, _, rfl, rfl, hal, hin, hz3, fun v hv => ?_⟩
          by_cases e : v = i
          · rw [e]; omega
          · exact hle v (by omega)
    · rintro i a δ M R hi ⟨y3, y4, rfl, rfl⟩ k
      refine ⟨trivial, ?_⟩
      obtain ⟨hiL, hie⟩ := List.getElem?_eq_some_iff.mp hi
      have ea : amt r i = a := by unfold amt; rw [List.getD_eq_getElem?_getD, hi]; rfl
      have h12 := hv i (by omega)
      rw [ea] at h12
      simp only [dseq, dasg, dasgG, dgsub, setL, dop, dun, dcb, dcons, dnil, dret, dretN, dnext, ddrop, diff, dif, dtest, dand, dor, dnot, dandV, dorV, dnotV, dchain, daug, dpar, dforS, dlc, dyes, dlst, dtup, dbm, fAppend, fPop, dvar, dc, fIx, fSl, dsl, dpart, dno, fI, fI0, fU, fAdd, fMul, fInt, fAbs, fLen, fMin2, fList, fEq, fIsN, gI, gB, lstOf, lstO, newl, dgname, dgtup, dgcons, dgnil, dirng1, dirng2, dilst, ditup, dienum, dizip, stays, startD, endD, dcallP, dcallN, fS, dfz, fzK, dbreak, dcont, wipeD, List.map_cons, List.map_nil, List.length_cons, List.length_nil, List.replicate, List.cons_append, List.nil_append, List.getElem?_cons_zero, List.getElem?_cons_succ, List.set_cons_zero, List.set_cons_succ, atI_zero, atI_one, atI_two, atI_three, ixN_zero, ixN_one, mset_same, mset_mset, mdel_mset, List.length_map, vw_one, Option.isSome_some, true_and, and_true, dmk, dmk0, dxf, disx, mkS, okX]
      rw [tt (show (0 : Int) ≤ a by omega), tt (show a < (3 : Int) by omega)]
      exact k _ _ ⟨_, _, rfl, rfl⟩
end
end K53


set_option maxRecDepth 100000
set_option maxHeartbeats 0
namespace K53
open PySem PySem.Spec PyProof.Rows L2 DL Fl
section
variable {P : Program} {w : World} {K : PySem.W.Frag} {mg : Str → Option Value} {base : Heap} {C : Addr}
/-! ### cubic.py -/
def g_other (K : PySem.W.Frag) (C : Addr) : PF := fun xs P E => ∃ (n : Nat) (ps : List E2), xs = [gX C n ps] ∧ n ≤ 1000000 ∧ ps.length ≤ 1000000 ∧ ((∀ v, v < n → deg ps v = 3) → P .non) ∧ (∀ v, v < n → deg ps v ≠ 3 → (∀ u, u < v → deg ps u = 3) → E (He.ga K "NotCubic") ["vertex"] [nX v])
theorem ev_degree {o : DE} {a : DA} {δ : Dl} {M M1 M2 : Mu} {n v k : Nat} {ps : List E2} {Er : ErrK} (h : Ev o δ M (gX C n ps) M1) (ha : EvA a δ M1 [nX v] M2) (hv : v < n) (hl : ps.length ≤ 1000000) : Ev (dmethP k C "degree" (g_degree C) Er o a) δ M (nX (deg ps v)) M2 := fun Q q =>
  h _ ⟨rfl, by decide, ha _ ⟨n, ps, v, by simp, hv, hl, q⟩⟩
abbrev s_refuse_other : Stmt := topS 29
theorem sc_refuse_other : FnScope ["graph", "vertex"] ["graph"] (defScope s_refuse_other) := ⟨rfl, rfl, rfl, by decide +kernel, rfl, by decide +kernel, by decide +kernel⟩
theorem cal_refuse_other (B : Blt2 mg) (D : Def K mg "_refuse_other" s_refuse_other) (p_vertices : CalP P w K mg base CX0 C "vertices" 1 (g_vertices C)) (m_degree : CalM P w K mg base CX0 C "degree" 2 ["self", "vertex"] (PFd (g_degree C))) (XC : ∀ x : Str, x = "NotCubic" → CalX P w K mg base CX0 x 1 (He.ga K x) (.s1 "vertex")) : Cal false P w K mg base (L2.CX P w) "_refuse_other" 3 ["graph"] (PFd (g_other K C)) := by
  refine Cal.mk' D (fun _ _ _ _ _ _ us hl => match us, hl with | [_], _ => rfl) fun f fdt F => fnDX F sc_refuse_other (fun xs M Q E h => ?len) fun cdv A outer s H E Ed hr => ⟨_,
    ((pssd_one (psd_for antiE (passes_of rfl) rfl (pid_range1 (by rfl) B.range (pad_cons (pd_prop 3 p_vertices (hr.mono (by decide)).toRoom (pd_var 0)) pad_nil)) (pgd_name 1 sc_refuse_other.nd)
(pssd_one (psd_if (ptd_cmp op_ne snd_ne (pd_methP 3 m_degree (hr.mono (by decide)).toRoom pass0 we0 (pd_var 0) (pad_cons (pd_var 1) pad_nil)) pd_int (nomark _))
(pssd_one (psd_raise (sh := .s1 "vertex") (fun z => nomatch z) (XC "NotCubic" rfl) (hr.mono (by decide)).toRoom pass0 rfl (takes_of rfl rfl rfl rfl) (fun _ w => w) (pad_cons (pd_var 1) pad_nil)))
pssd_nil))))), fun xs M Qd h => ?rd⟩
  case len =>
    obtain ⟨_, n, ps, rfl, _⟩ := h
    rfl
  case rd =>
    obtain ⟨rfl, n, ps, rfl, hn, hm, q1, q2⟩ := h
    simp only [dseq, dasg, dasgG, dgsub, setL, dop, dun, dcb, dcons, dnil, dret, dretN, dnext, ddrop, diff, dif, dtest, dand, dor, dnot, dandV, dorV, dnotV, dchain, daug, dpar, dforS, dlc, dyes, dlst, dtup, dbm, fAppend, fPop, dvar, dc, fIx, fSl, dsl, dpart, dno, fI, fI0, fU, fAdd, fMul, fInt, fAbs, fLen, fMin2, fList, fEq, fIsN, gI, gB, lstOf, lstO, newl, dgname, dgtup, dgcons, dgnil, dirng1, dirng2, dilst, ditup, dienum, dizip, stays, startD, endD, dcallP, dcallN, fS, dfz, fzK, dbreak, dcont, wipeD, List.map_cons, List.map_nil, List.length_cons, List.length_nil, List.replicate, List.cons_append, List.nil_append, List.getElem?_cons_zero, List.getElem?_cons_succ, List.set_cons_zero, List.set_cons_succ, atI_zero, atI_one, atI_two, atI_three, ixN_zero, ixN_one, mset_same, mset_mset, mdel_mset, List.length_map, vw_one, Option.isSome_some, true_and, and_true, dmk, dmk0, dxf, disx, mkS, okX, dprop, propV]
    rw [Int.toNat_natCast]
    refine ⟨by omega, by omega, ?_⟩
    refine dfor_rng (fun i δ M => ∃ y, δ = [some (gX C n ps), y] ∧ M = m0 ∧ ∀ u, u < i → deg ps u = 3) ⟨none, rfl, rfl, fun u hu => absurd hu (Nat.not_lt_zero _)⟩ ?_ ?_
    · rintro δ M ⟨y, rfl, rfl, h⟩
      exact ⟨trivial, rt_pure rfl (q1 h)⟩
    · rintro i δ M R hi ⟨y, rfl, rfl, h⟩ k
      refine ⟨trivial, ?_⟩
      simp only [dseq, dasg, dasgG, dgsub, setL, dop, dun, dcb, dcons, dnil, dret, dretN, dnext, ddrop, diff, dif, dtest, dand, dor, dnot, dandV, dorV, dnotV, dchain, daug, dpar, dforS, dlc, dyes, dlst, dtup, dbm, fAppend, fPop, dvar, dc, fIx, fSl, dsl, dpart, dno, fI, fI0, fU, fAdd, fMul, fInt, fAbs, fLen, fMin2, fList, fEq, fIsN, gI, gB, lstOf, lstO, newl, dgname, dgtup, dgcons, dgnil, dirng1, dirng2, dilst, ditup, dienum, dizip, stays, startD, endD, dcallP, dcallN, fS, dfz, fzK, dbreak, dcont, wipeD, List.map_cons, List.map_nil, List.length_cons, List.length_nil, List.replicate, List.cons_append, List.nil_append, List.getElem?_cons_zero, List.getElem?_cons_succ, List.set_cons_zero, List.set_cons_succ, atI_zero, atI_one, atI_two, atI_three, ixN_zero, ixN_one, mset_same, mset_mset, mdel_mset, List.length_map, vw_one, Option.isSome_some, true_and, and_true, dmk, dmk0, dxf, disx, mkS, okX]
      refine ev_degree (ev_var rfl) (ev_cons (ev_var rfl) ev_nil) hi hm _ ?_
      simp only [dseq, dasg, dasgG, dgsub, setL, dop, dun, dcb, dcons, dnil, dret, dretN, dnext, ddrop, diff, dif, dtest, dand, dor, dnot, dandV, dorV, dnotV, dchain, daug, dpar, dforS, dlc, dyes, dlst, dtup, dbm, fAppend, fPop, dvar, dc, fIx, fSl, dsl, dpart, dno, fI, fI0, fU, fAdd, fMul, fInt, fAbs, fLen, fMin2, fList, fEq, fIsN, gI, gB, lstOf, lstO, newl, dgname, dgtup, dgcons, dgnil, dirng1, dirng2, dilst, ditup, dienum, dizip, stays, startD, endD, dcallP, dcallN, fS, dfz, fzK, dbreak, dcont, wipeD, List.map_cons, List.map_nil, List.length_cons, List.length_nil, List.replicate, List.cons_append, List.nil_append, List.getElem?_cons_zero, List.getElem?_cons_succ, List.set_cons_zero, List.set_cons_succ, atI_zero, atI_one, atI_two, atI_three, ixN_zero, ixN_one, mset_same, mset_mset, mdel_mset, List.length_map, vw_one, Option.isSome_some, true_and, and_true, dmk, dmk0, dxf, disx, mkS, okX]
      by_cases hd : deg ps i = 3
      · have e : (true != decide (((deg ps i : Nat) : Int) = 3)) = false := by rw [tt (by omega)]; rfl
        rw [e]
        refine k _ _ ⟨_, rfl, rfl, fun u hu => ?_⟩
        by_cases hu' : u = i
        · rw [hu']; exact hd
        · exact h u (by omega)
      · have e : (true != decide (((deg ps i : Nat) : Int) = 3)) = true := by rw [ff (by omega)]; rfl
        rw [e]
        simp only [dseq, dasg, dasgG, dgsub, setL, dop, dun, dcb, dcons, dnil, dret, dretN, dnext, ddrop, diff, dif, dtest, dand, dor, dnot, dandV, dorV, dnotV, dchain, daug, dpar, dforS, dlc, dyes, dlst, dtup, dbm, fAppend, fPop, dvar, dc, fIx, fSl, dsl, dpart, dno, fI, fI0, fU, fAdd, fMul, fInt, fAbs, fLen, fMin2, fList, fEq, fIsN, gI, gB, lstOf, lstO, newl, dgname, dgtup, dgcons, dgnil, dirng1, dirng2, dilst, ditup, dienum, dizip, stays, startD, endD, dcallP, dcallN, fS, dfz, fzK, dbreak, dcont, wipeD, List.map_cons, List.map_nil, List.length_cons, List.length_nil, List.replicate, List.cons_append, List.nil_append, List.getElem?_cons_zero, List.getElem?_cons_succ, List.set_cons_zero, List.set_cons_succ, atI_zero, atI_one, atI_two, atI_three, ixN_zero, ixN_one, mset_same, mset_mset, mdel_mset, List.length_map, vw_one, Option.isSome_some, true_and, and_true, dmk, dmk0, dxf, disx, mkS, okX, draise]
        refine ⟨?_, ⟨m0, fun _ _ z => z, rfl, fun _ _ z => (nomatch z), q2 i hi hd h⟩⟩
        have h1 : ((i : Nat) : Int).natAbs = i := Int.natAbs_natCast i
        rw [h1]
        by_cases h0 : i = 0
        · rw [h0]; decide
        · exact (Nat.log2_lt h0).mpr (Nat.lt_of_lt_of_le (show i < 2 ^ 20 by omega) (Nat.pow_le_pow_right (by decide) (by decide)))
def rowX (n : Nat) (f : Nat → X) : List X := (List.range n).map f
def stepsX (l : List Fl.St) : X := .lst true (l.map sX)
theorem rowX_at {n v : Nat} {f : Nat → X} (h : v < n) : atI (rowX n f) (v : Int) = some (f v) := atR _ h
theorem rowX_len {n : Nat} {f : Nat → X} : (rowX n f).length = n := by unfold rowX; rw [List.length_map, List.length_range]
theorem rowX_congr {n : Nat} {f g : Nat → X} (h : ∀ v, v < n → f v = g v) : rowX n f = rowX n g := List.map_congr_left fun v hv => h v (List.mem_range.mp hv)
theorem rowX_set {n v : Nat} {f : Nat → X} {x : X} : (rowX n f).set v x = rowX n (fun u => if u = v then x else f u) := by
  refine List.ext_getElem? fun u => ?_
  unfold rowX
  rw [List.getElem?_set, List.length_map, List.length_range]
  by_cases h : v = u
  · subst h
    by_cases hv : v < n
    · rw [if_pos rfl, if_pos hv, lookM _ (List.getElem?_range hv)]
      show _ = some (if v = v then x else f v)
      rw [if_pos rfl]
    · rw [if_pos rfl, if_neg hv, List.getElem?_eq_none (by rw [List.length_map, List.length_range]; omega)]
  · rw [if_neg h]
    by_cases hu : u < n
    · rw [lookM _ (List.getElem?_range hu), lookM _ (List.getElem?_range hu)]
      show _ = some (if u = v then x else f u)
      rw [if_neg (Ne.symm h)]
    · rw [List.getElem?_eq_none (by rw [List.length_map, List.length_range]; omega), List.getElem?_eq_none (by rw [List.length_map, List.length_range]; omega)]
theorem rowX_rep {n : Nat} {x : X} : List.replicate n x = rowX n fun _ => x := by
  unfold rowX
  rw [List.map_const', List.length_range]
theorem rowX_store {n v : Nat} {f : Nat → X} {p : Addr} {z : X} {M : Mu} {Q : Mu → Prop} (h : M p = some (.lst (rowX n f))) (hv : v < n) (q : Q (mset M p (.lst (rowX n fun u => if u = v then z else f u)))) : setL (.ptr p) (.int (v : Int)) z M Q := by
  refine setL_i h (by rw [rowX_len]; exact hv) ?_
  rw [rowX_set]
  exact q
def shX : Option Nat → X
  | none => .non
  | some s => nX s
structure SS (n : Nat) (ps : List E2) (f : Nat → Option Nat) (cm : Nat → List Fl.St) (rt : Nat → Nat) (dn : List Nat) : Prop where
  a : ∀ v s, v < n → f v = some s → Wk ps (rt v) (cm v) v ∧ s = (cm v).length % 2
  u : ∀ v, v < n → cm v = [] ∨ ∃ u s, u < n ∧ f u ≠ none ∧ s.1 < ps.length ∧ bg ps s = u ∧ en ps s = v ∧ cm v = cm u ++ [s]
  b : ∀ v, v < n → f v = none → cm v = []
  nd : dn.Nodup
  lt : ∀ v ∈ dn, v < n
  mem : ∀ v, v < n → (f v ≠ none ↔ v ∈ dn)
  g : ∀ v, v < n → (cm v).length ≤ dn.length
def up {α : Type} (f : Nat → α) (v : Nat) (x : α) : Nat → α := fun u => if u = v then x else f u
theorem up_same {α : Type} {f : Nat → α} {v : Nat} {x : α} : up f v x v = x := if_pos rfl
theorem up_ne {α : Type} {f : Nat → α} {v u : Nat} {x : α} (h : u ≠ v) : up f v x u = f u := if_neg h
theorem SS.le {n ps f cm rt dn} (S : SS n ps f cm rt dn) : dn.length ≤ n := nodup_le n S.nd S.lt
theorem SS.push {n ps f cm rt dn} (S : SS n ps f cm rt dn) {here last s0 : Nat} {st : Fl.St} (hh : here < n) (hf : f here = some s0) (hs : st.1 < ps.length) (hb : bg ps st = here) (he : en ps st = last) (hl : last < n) (hn : f last = none) :
    SS n ps (up f last (some (1 - s0))) (up cm last (cm here ++ [st])) (up rt last (rt here)) (dn ++ [last]) := by
  have hne : here ≠ last := fun e => by rw [e, hn] at hf; cases hf
  have hnd : last ∉ dn := fun h => absurd hn ((S.mem last hl).mpr h)
  have ne_of : ∀ {u}, f u ≠ none → u ≠ last := fun h e => h (by rw [e]; exact hn)
  refine ⟨fun v s hv h => ?_, fun v hv => ?_, fun v hv h => ?_, ?_, fun v hv => ?_, fun v hv => ?_, fun v hv => ?_⟩
  · by_cases e : v = last
    · subst e
      rw [up_same] at h
      cases h
      rw [up_same, up_same]
      obtain ⟨h1, h2⟩ := S.a here s0 hh hf
      refine ⟨h1.append ⟨hb, hs, he⟩, ?_⟩
      rw [List.length_append, List.length_singleton]
      omega
    · rw [up_ne e] at h
      rw [up_ne e, up_ne e]
      exact S.a v s hv h
  · by_cases e : v = last
    · subst e
      exact .inr ⟨here, st, hh, by rw [up_ne hne, hf]; exact fun z => (nomatch z), hs, hb, he, by rw [up_same, up_ne hne]⟩
    · rcases S.u v hv with h | ⟨u, s, h1, h2, h3, h4, h5, h6⟩
      · exact .inl (by rw [up_ne e]; exact h)
      · exact .inr ⟨u, s, h1, by rw [up_ne (ne_of h2)]; exact h2, h3, h4, h5, by rw [up_ne e, up_ne (ne_of h2)]; exact h6⟩
  · by_cases e : v = last
    · subst e; rw [up_same] at h; cases h
    · rw [up_ne e] at h ⊢; exact S.b v hv h
  · rw [List.nodup_append]
    exact ⟨S.nd, by simp, fun a ha b hb e => hnd (by rw [List.mem_singleton.mp hb] at e; rw [← e]; exact ha)⟩
  · rcases List.mem_append.mp hv with h | h
    · exact S.lt v h
    · rw [List.mem_singleton.mp h]; exact hl
  · by_cases e : v = last
    · subst e
      rw [up_same]
      exact ⟨fun _ => List.mem_append_right _ List.mem_cons_self, fun _ z => (nomatch z)⟩
    · rw [up_ne e, S.mem v hv, List.mem_append]
      exact ⟨.inl, fun h => h.elim id fun h => absurd (List.mem_singleton.mp h) e⟩
  · rw [List.length_append, List.length_singleton]
    by_cases e : v = last
    · subst e
      rw [up_same, List.length_append, List.length_singleton]
      have := S.g here hh
      omega
    · rw [up_ne e]
      have := S.g v hv
      omega
theorem SS.root {n ps f cm rt dn} (S : SS n ps f cm rt dn) {r : Nat} (hr : r < n) (hn : f r = none) : SS n ps (up f r (some 0)) cm (up rt r r) (dn ++ [r]) := by
  have hnd : r ∉ dn := fun h => absurd hn ((S.mem r hr).mpr h)
  have ne_of : ∀ {u}, f u ≠ none → u ≠ r := fun h e => h (by rw [e]; exact hn)
  refine ⟨fun v s hv h => ?_, fun v hv => ?_, fun v hv h => ?_, ?_, fun v hv => ?_, fun v hv => ?_, fun v hv => ?_⟩
  · by_cases e : v = r
    · subst e
      rw [up_same] at h
      cases h
      rw [up_same, S.b v hv hn]
      exact ⟨rfl, rfl⟩
    · rw [up_ne e] at h
      rw [up_ne e]
      exact S.a v s hv h
  · rcases S.u v hv with h | ⟨u, s, h1, h2, h3, h4, h5, h6⟩
    · exact .inl h
    · exact .inr ⟨u, s, h1, by rw [up_ne (ne_of h2)]; exact h2, h3, h4, h5, h6⟩
  · by_cases e : v = r
    · subst e; rw [up_same] at h; cases h
    · rw [up_ne e] at h; exact S.b v hv h
  · rw [List.nodup_append]
    exact ⟨S.nd, by simp, fun a ha b hb e => hnd (by rw [List.mem_singleton.mp hb] at e; rw [← e]; exact ha)⟩
  · rcases List.mem_append.mp hv with h | h
    · exact S.lt v h
    · rw [List.mem_singleton.mp h]; exact hr
  · by_cases e : v = r
    · subst e
      rw [up_same]
      exact ⟨fun _ => List.mem_append_right _ List.mem_cons_self, fun _ z => (nomatch z)⟩
    · rw [up_ne e, S.mem v hv, List.mem_append]
      exact ⟨.inl, fun h => h.elim id fun h => absurd (List.mem_singleton.mp h) e⟩
  · rw [List.length_append, List.length_singleton]
    have := S.g v hv
    omega
/-- all found ones but these are done with -/
def Cl (n : Nat) (ps : List E2) (f : Nat → Option Nat) (rt : Nat → Nat) (ex : List Nat) : Prop := ∀ p, p < n → f p ≠ none → p ∉ ex → ∀ s : Fl.St, s.1 < ps.length → bg ps s = p → f (en ps s) ≠ none ∧ rt (en ps s) = rt p
def Wt (n : Nat) (f : Nat → Option Nat) (rt : Nat → Nat) (r : Nat) (wt : List Nat) : Prop := wt.Nodup ∧ ∀ v ∈ wt, v < n ∧ f v ≠ none ∧ rt v = r
theorem both_rep {m : Nat} : f_both (List.replicate m true) = List.replicate m [true, false] := by
  unfold f_both
  rw [List.map_replicate]
  rfl
theorem may_both {ps : List E2} {s : Fl.St} : mayS ps (List.replicate ps.length [true, false]) s ↔ s.1 < ps.length := by
  unfold mayS
  refine ⟨fun h => h.1, fun h => ⟨h, ?_⟩⟩
  rw [List.getD_eq_getElem?_getD, List.getElem?_replicate, if_pos h]
  cases s.2 <;> simp
theorem sg_both {ps : List E2} : SgOk ps (List.replicate ps.length [true, false]) := ⟨List.length_replicate, fun l hl => by rw [(List.mem_replicate.mp hl).2]; decide⟩
def g_shades (C : Addr) : PF := fun xs P _ => ∃ (n : Nat) (ps : List E2), xs = [gX C n ps] ∧ n ≤ 1000000 ∧ ps.length ≤ 1000000 ∧ WF n ps ∧ ∀ sh cm rt, ShOk n ps sh cm rt → P (.tup [.lst true (rowX n fun v => nX (sh v)), .lst true (rowX n fun v => stepsX (cm v))])
abbrev s_shades : Stmt := topS 31
theorem sc_shades : FnScope ["graph", "shades", "came", "signs", "root", "waiting", "here", "step", "last", "vertex"] ["graph"] (defScope s_shades) := ⟨rfl, rfl, rfl, by decide +kernel, rfl, by decide +kernel, by decide +kernel⟩
theorem cal_shades (B : Blt2 mg) (D : Def K mg "_shades" s_shades) (c_both_ways : Cal false P w K mg base CX0 "both_ways" 1 ["marks"] (NFd g_both)) (c_steps_from : Cal false P w K mg base CX0 "steps_from" 3 ["graph", "here", "signs"] (NFd (g_from C))) (p_vertices : CalP P w K mg base CX0 C "vertices" 1 (g_vertices C)) (l_graph : CalL P w K mg base CX0 C 1 (g_len C)) : Cal false P w K mg base CX0 "_shades" 4 ["graph"] (PFd (g_shades C)) := by
  refine Cal.mk' D (fun _ _ _ _ _ _ us hl => match us, hl with | [_], _ => rfl) fun f fdt F => fnD F sc_shades (fun xs M Q E h => ?len) fun cdv A outer s H E hr => ⟨_,
    ((pssd_cons (psd_set 1 sc_shades.nd (pd_mul true (pd_lst false (pad_cons pd_non pad_nil)) (pd_prop 3 p_vertices (hr.mono (by decide)).toRoom (pd_var 0))))
(pssd_cons (psd_setLc true 2 [("vertex", 9)] anti0 sc_shades.nd (sw_true rfl rfl rfl (by decide +kernel)) (pid_range1 (by rfl) B.range (pad_cons (pd_prop 3 p_vertices (hr.mono (by decide)).toRoom (pd_var 0)) pad_nil)) (blkOk_by (own := [("vertex", 9)]) (N := ["graph", "shades", "came", "signs", "root", "waiting", "here", "step", "last", "vertex"]) (sc := defScope s_shades) (by decide +kernel)) (fun _ _ _ _ _ => (pgl_name 9 sc_shades.nd)) (fun _ _ _ _ _ => ptsd_nil) (fun _ _ _ _ _ => (pd_lst false pad_nil)))
(pssd_cons (psd_set 3 sc_shades.nd (pd_cNF 2 mono_both_ways c_both_ways (hr.mono (by decide)) pass0 we0 (pad_cons (pd_mul false (pd_lst false (pad_cons pd_bl pad_nil)) (pd_lenO 3 l_graph (hr.mono (by decide)).toRoom B.len (pd_var 0))) pad_nil)))
(pssd_cons (psd_for anti0 PassesOwn.never rfl (pid_range1 (by rfl) B.range (pad_cons (pd_prop 3 p_vertices (hr.mono (by decide)).toRoom (pd_var 0)) pad_nil)) (pgd_name 4 sc_shades.nd)
(pssd_one (psd_if (ptd_cmp op_isN' (snd_isN false) (pd_ix (pd_var 1) (pd_var 4)) pd_non (nomark _))
(pssd_cons (psd_asg pd_int (pgd_sub (pd_var 1) (pd_var 4)))
(pssd_cons (psd_set 5 sc_shades.nd (pd_lst true (pad_cons (pd_var 4) pad_nil)))
(pssd_one (psd_while PassesOwn.never (ptd_truth (pd_var 5))
(pssd_cons (psd_set 6 sc_shades.nd (pd_bm0 PySem.F.slot_list_pop PySem.F.type_list_pop mt_pop snd_pop (pd_var 5)))
(pssd_one (psd_for anti0 PassesOwn.never rfl (pid_list (pd_cNF 2 mono_steps_from c_steps_from (hr.mono (by decide)) pass0 we0 (pad_cons (pd_var 0) (pad_cons (pd_var 6) (pad_cons (pd_var 3) pad_nil))))) (pgd_tup (n := 2) rfl (pgsd_cons (pgd_name 7 sc_shades.nd) (pgsd_cons (pgd_name 8 sc_shades.nd) pgsd_nil)))
(pssd_one (psd_if (ptd_cmp op_isN' (snd_isN false) (pd_ix (pd_var 1) (pd_var 8)) pd_non (nomark _))
(pssd_cons (psd_asg (pd_sub pd_int (pd_ix (pd_var 1) (pd_var 6))) (pgd_sub (pd_var 1) (pd_var 8)))
(pssd_cons (psd_asg (pd_add false (pd_ix (pd_var 2) (pd_var 6)) (pd_lst false (pad_cons (pd_var 7) pad_nil))) (pgd_sub (pd_var 2) (pd_var 8)))
(pssd_one (psd_expr (pd_bm PySem.F.slot_list_append PySem.F.type_list_append mt_append snd_append (pd_var 5) (pad_cons (pd_var 8) pad_nil))))))
pssd_nil)))))))))
pssd_nil)))
(pssd_one (psd_ret (pd_tup (pad_cons (pd_fz (pd_var 1)) (pad_cons (pd_fz (pd_var 2)) pad_nil)))))))))), fun xs M Qd Ed h => ?rd⟩
  case len =>
    obtain ⟨_, n, ps, rfl, _⟩ := h
    rfl
  case rd =>
    obtain ⟨rfl, n, ps, rfl, hn, hm, wf, q⟩ := h
    simp only [dseq, dasg, dasgG, dgsub, setL, dop, dun, dcb, dcons, dnil, dret, dretN, dnext, ddrop, diff, dif, dtest, dand, dor, dnot, dandV, dorV, dnotV, dchain, daug, dpar, dforS, dlc, dyes, dlst, dtup, dbm, fAppend, fPop, dvar, dc, fIx, fSl, dsl, dpart, dno, fI, fI0, fU, fAdd, fMul, fInt, fAbs, fLen, fMin2, fList, fEq, fIsN, gI, gB, lstOf, lstO, newl, dgname, dgtup, dgcons, dgnil, dirng1, dirng2, dilst, ditup, dienum, dizip, stays, startD, endD, dcallP, dcallN, fS, dfz, fzK, dbreak, dcont, wipeD, List.map_cons, List.map_nil, List.length_cons, List.length_nil, List.replicate, List.cons_append, List.nil_append, List.getElem?_cons_zero, List.getElem?_cons_succ, List.set_cons_zero, List.set_cons_succ, atI_zero, atI_one, atI_two, atI_three, ixN_zero, ixN_one, mset_same, mset_mset, mdel_mset, List.length_map, vw_one, Option.isSome_some, true_and, and_true, dmk, dmk0, dxf, disx, mkS, okX, dprop, propV, flat_one]
    rw [Int.toNat_natCast]
    refine ⟨Nat.le_of_lt (line_gt (by decide)), by omega, by omega, by rw [Nat.zero_add, Nat.one_mul]; exact line_ge hn, fun psh hpsh => ⟨by omega, by omega, ?_⟩⟩
    refine dlc_map (as := List.range n) (f := fun i => .int (i : Nat)) (v := fun _ => stepsX []) (by rw [List.length_range]; exact hn) trivial ?_ fun v R hv hR => by simp only [dseq, dasg, dasgG, dgsub, setL, dop, dun, dcb, dcons, dnil, dret, dretN, dnext, ddrop, diff, dif, dtest, dand, dor, dnot, dandV, dorV, dnotV, dchain, daug, dpar, dforS, dlc, dyes, dlst, dtup, dbm, fAppend, fPop, dvar, dc, fIx, fSl, dsl, dpart, dno, fI, fI0, fU, fAdd, fMul, fInt, fAbs, fLen, fMin2, fList, fEq, fIsN, gI, gB, lstOf, lstO, newl, dgname, dgtup, dgcons, dgnil, dirng1, dirng2, dilst, ditup, dienum, dizip, stays, startD, endD, dcallP, dcallN, fS, dfz, fzK, dbreak, dcont, wipeD, List.map_cons, List.map_nil, List.length_cons, List.length_nil, List.replicate, List.cons_append, List.nil_append, List.getElem?_cons_zero, List.getElem?_cons_succ, List.set_cons_zero, List.set_cons_succ, atI_zero, atI_one, atI_two, atI_three, ixN_zero, ixN_one, mset_same, mset_mset, mdel_mset, List.length_map, vw_one, Option.isSome_some, true_and, and_true, dmk, dmk0, dxf, disx, mkS, okX]; exact ⟨Nat.zero_le _, hR⟩
    intro pc hpc
    have hpp : psh ≠ pc := fun e => by rw [e, mset_same] at hpc; cases hpc
    refine ⟨Nat.le_of_lt (line_gt (by decide)), ?_⟩
    simp only [dseq, dasg, dasgG, dgsub, setL, dop, dun, dcb, dcons, dnil, dret, dretN, dnext, ddrop, diff, dif, dtest, dand, dor, dnot, dandV, dorV, dnotV, dchain, daug, dpar, dforS, dlc, dyes, dlst, dtup, dbm, fAppend, fPop, dvar, dc, fIx, fSl, dsl, dpart, dno, fI, fI0, fU, fAdd, fMul, fInt, fAbs, fLen, fMin2, fList, fEq, fIsN, gI, gB, lstOf, lstO, newl, dgname, dgtup, dgcons, dgnil, dirng1, dirng2, dilst, ditup, dienum, dizip, stays, startD, endD, dcallP, dcallN, fS, dfz, fzK, dbreak, dcont, wipeD, List.map_cons, List.map_nil, List.length_cons, List.length_nil, List.replicate, List.cons_append, List.nil_append, List.getElem?_cons_zero, List.getElem?_cons_succ, List.set_cons_zero, List.set_cons_succ, atI_zero, atI_one, atI_two, atI_three, ixN_zero, ixN_one, mset_same, mset_mset, mdel_mset, List.length_map, vw_one, Option.isSome_some, true_and, and_true, dmk, dmk0, dxf, disx, mkS, okX, dlenO, lenV hm, flat_one]
    rw [Int.toNat_natCast]
    refine ⟨by omega, by omega, by rw [Nat.zero_add, Nat.one_mul]; exact line_ge hm, ?_⟩
    refine ⟨true, List.replicate ps.length true, by rw [vw_lst, List.map_replicate], by rw [List.length_replicate]; exact hm, ?_⟩
    rw [both_rep, rowX_rep]
    refine ⟨by omega, by omega, ?_⟩
    refine dfor_rng (fun i δ M => ∃ (f : Nat → Option Nat) (cm : Nat → List Fl.St) (rt : Nat → Nat) (dn : List Nat) (y4 y5 y6 y7 y8 : Option X), δ = [some (gX C n ps), some (.ptr psh), some (.ptr pc), some (.lst true ((List.replicate ps.length [true, false]).map sgX)), y4, y5, y6, y7, y8, none] ∧
      M psh = some (.lst (rowX n fun v => shX (f v))) ∧ M pc = some (.lst (rowX n fun v => stepsX (cm v))) ∧ SS n ps f cm rt dn ∧ Cl n ps f rt [] ∧ ∀ v, v < i → f v ≠ none)
      ⟨fun _ => none, fun _ => [], fun _ => 0, [], none, none, none, none, none, rfl, by rw [mset_ne hpp, mset_same]; rfl, mset_same, ⟨fun v s _ h => (nomatch h), fun v _ => .inl rfl, fun v _ _ => rfl, List.nodup_nil, fun v hv => (nomatch hv), fun v _ => ⟨fun h => absurd rfl h, fun h => (nomatch h)⟩, fun v _ => Nat.zero_le _⟩, fun p _ h => absurd rfl h, fun v hv => absurd hv (Nat.not_lt_zero _)⟩ ?_ ?_
    · rintro δ M ⟨f, cm, rt, dn, y4, y5, y6, y7, y8, rfl, hM1, hM2, S, cl, hall⟩
      refine ⟨trivial, ?_⟩
      have hM3 : mdel M psh pc = some (.lst (rowX n fun v => stepsX (cm v))) := by unfold mdel; rw [if_neg (Ne.symm hpp)]; exact hM2
      simp only [dseq, dasg, dasgG, dgsub, setL, dop, dun, dcb, dcons, dnil, dret, dretN, dnext, ddrop, diff, dif, dtest, dand, dor, dnot, dandV, dorV, dnotV, dchain, daug, dpar, dforS, dlc, dyes, dlst, dtup, dbm, fAppend, fPop, dvar, dc, fIx, fSl, dsl, dpart, dno, fI, fI0, fU, fAdd, fMul, fInt, fAbs, fLen, fMin2, fList, fEq, fIsN, gI, gB, lstOf, lstO, newl, dgname, dgtup, dgcons, dgnil, dirng1, dirng2, dilst, ditup, dienum, dizip, stays, startD, endD, dcallP, dcallN, fS, dfz, fzK, dbreak, dcont, wipeD, List.map_cons, List.map_nil, List.length_cons, List.length_nil, List.replicate, List.cons_append, List.nil_append, List.getElem?_cons_zero, List.getElem?_cons_succ, List.set_cons_zero, List.set_cons_succ, atI_zero, atI_one, atI_two, atI_three, ixN_zero, ixN_one, mset_same, mset_mset, mdel_mset, List.length_map, vw_one, Option.isSome_some, true_and, and_true, dmk, dmk0, dxf, disx, mkS, okX, hM1, hM3]
      refine ⟨line_ge (by decide), ?_⟩
      have e1 : (rowX n fun v => shX (f v)) = rowX n fun v => nX ((f v).getD 0) := rowX_congr fun v hv => by
        cases h : f v with
        | none => exact absurd h (hall v hv)
        | some s => rfl
      rw [e1]
      refine rt_pure ?_ (q (fun v => (f v).getD 0) cm rt ⟨fun v hv => ?_, fun v hv => ?_, fun v hv => ?_, fun e he => ?_, fun v hv => Nat.le_trans (S.g v hv) S.le⟩)
      · simp only [own, ownA, Bool.and_true, Bool.true_and]
        rw [show ownA (rowX n fun v => nX ((f v).getD 0)) = true from ownA_map _ (fun _ => rfl) _, show ownA (rowX n fun v => stepsX (cm v)) = true from ownA_map _ (fun v => by simp only [stepsX, own, own_sX, Bool.and_self]) _]
        rfl
      · cases h : f v with
        | none => exact absurd h (hall v hv)
        | some s => exact (S.a v s hv h).1
      · cases h : f v with
        | none => exact absurd h (hall v hv)
        | some s => exact (S.a v s hv h).2
      · rcases S.u v hv with h | ⟨u, s, h1, _, h3, h4, h5, h6⟩
        · exact .inl h
        · exact .inr ⟨u, s, h1, h3, h4, h5, h6⟩
      · have h := cl (tl ps e) (wf.tl he) (hall _ (wf.tl he)) (by simp) (e, true) he rfl
        exact h.2.symm
    · rintro i δ M R hi ⟨f, cm, rt, dn, y4, y5, y6, y7, y8, rfl, hM1, hM2, S, cl, hall⟩ k
      refine ⟨trivial, ?_⟩
      simp only [dseq, dasg, dasgG, dgsub, setL, dop, dun, dcb, dcons, dnil, dret, dretN, dnext, ddrop, diff, dif, dtest, dand, dor, dnot, dandV, dorV, dnotV, dchain, daug, dpar, dforS, dlc, dyes, dlst, dtup, dbm, fAppend, fPop, dvar, dc, fIx, fSl, dsl, dpart, dno, fI, fI0, fU, fAdd, fMul, fInt, fAbs, fLen, fMin2, fList, fEq, fIsN, gI, gB, lstOf, lstO, newl, dgname, dgtup, dgcons, dgnil, dirng1, dirng2, dilst, ditup, dienum, dizip, stays, startD, endD, dcallP, dcallN, fS, dfz, fzK, dbreak, dcont, wipeD, List.map_cons, List.map_nil, List.length_cons, List.length_nil, List.replicate, List.cons_append, List.nil_append, List.getElem?_cons_zero, List.getElem?_cons_succ, List.set_cons_zero, List.set_cons_succ, atI_zero, atI_one, atI_two, atI_three, ixN_zero, ixN_one, mset_same, mset_mset, mdel_mset, List.length_map, vw_one, Option.isSome_some, true_and, and_true, dmk, dmk0, dxf, disx, mkS, okX, hM1, rowX_at hi]
      cases hfi : f i with
      | some s =>
        refine k _ _ ⟨f, cm, rt, dn, _, _, _, _, _, rfl, hM1, hM2, S, cl, fun v hv => ?_⟩
        by_cases e : v = i
        · rw [e, hfi]; exact fun z => nomatch z
        · exact hall v (by omega)
      | none =>
        rw [show shX none = X.non from rfl]
        simp only [dseq, dasg, dasgG, dgsub, setL, dop, dun, dcb, dcons, dnil, dret, dretN, dnext, ddrop, diff, dif, dtest, dand, dor, dnot, dandV, dorV, dnotV, dchain, daug, dpar, dforS, dlc, dyes, dlst, dtup, dbm, fAppend, fPop, dvar, dc, fIx, fSl, dsl, dpart, dno, fI, fI0, fU, fAdd, fMul, fInt, fAbs, fLen, fMin2, fList, fEq, fIsN, gI, gB, lstOf, lstO, newl, dgname, dgtup, dgcons, dgnil, dirng1, dirng2, dilst, ditup, dienum, dizip, stays, startD, endD, dcallP, dcallN, fS, dfz, fzK, dbreak, dcont, wipeD, List.map_cons, List.map_nil, List.length_cons, List.length_nil, List.replicate, List.cons_append, List.nil_append, List.getElem?_cons_zero, List.getElem?_cons_succ, List.set_cons_zero, List.set_cons_succ, atI_zero, atI_one, atI_two, atI_three, ixN_zero, ixN_one, mset_same, mset_mset, mdel_mset, List.length_map, vw_one, Option.isSome_some, true_and, and_true, dmk, dmk0, dxf, disx, mkS, okX, Bool.not_false]
        rw [rowX_len, ixN_of (show (0 : Int) ≤ (i : Int) by omega) (show (i : Int) < (n : Int) by omega), Int.toNat_natCast]
        simp only [dseq, dasg, dasgG, dgsub, setL, dop, dun, dcb, dcons, dnil, dret, dretN, dnext, ddrop, diff, dif, dtest, dand, dor, dnot, dandV, dorV, dnotV, dchain, daug, dpar, dforS, dlc, dyes, dlst, dtup, dbm, fAppend, fPop, dvar, dc, fIx, fSl, dsl, dpart, dno, fI, fI0, fU, fAdd, fMul, fInt, fAbs, fLen, fMin2, fList, fEq, fIsN, gI, gB, lstOf, lstO, newl, dgname, dgtup, dgcons, dgnil, dirng1, dirng2, dilst, ditup, dienum, dizip, stays, startD, endD, dcallP, dcallN, fS, dfz, fzK, dbreak, dcont, wipeD, List.map_cons, List.map_nil, List.length_cons, List.length_nil, List.replicate, List.cons_append, List.nil_append, List.getElem?_cons_zero, List.getElem?_cons_succ, List.set_cons_zero, List.set_cons_succ, atI_zero, atI_one, atI_two, atI_three, ixN_zero, ixN_one, mset_same, mset_mset, mdel_mset, List.length_map, vw_one, Option.isSome_some, true_and, and_true, dmk, dmk0, dxf, disx, mkS, okX, rowX_set]
        refine ⟨line_ge (by decide), fun pw hpw => ?_⟩
        have hMs : mset M psh (.lst (rowX n fun u => if u = i then X.int 0 else shX (f u))) psh = some (.lst (rowX n fun v => shX (up f i (some 0) v))) := by
          rw [mset_same]
          exact congrArg (fun l => some (Cell.lst l)) (rowX_congr fun v hv => by
            unfold up
            by_cases e : v = i
            · rw [if_pos e, if_pos e]; rfl
            · rw [if_neg e, if_neg e])
        generalize hM' : mset M psh (.lst (rowX n fun u => if u = i then X.int 0 else shX (f u))) = M' at hpw hMs ⊢
        have hMc : M' pc = some (.lst (rowX n fun v => stepsX (cm v))) := by rw [← hM', mset_ne (Ne.symm hpp)]; exact hM2
        have w1 : pw ≠ psh := fun e => by rw [e, hMs] at hpw; cases hpw
        have w2 : pw ≠ pc := fun e => by rw [e, hMc] at hpw; cases hpw
        have S1 := S.root hi hfi
        have cl1 : Cl n ps (up f i (some 0)) (up rt i i) [i] := fun p hp hf hex s hs hb => by
          have hpi : p ≠ i := fun e => hex (by rw [e]; exact List.mem_cons_self)
          rw [up_ne hpi] at hf
          obtain ⟨h1, h2⟩ := cl p hp hf (by simp) s hs hb
          have hei : en ps s ≠ i := fun e => h1 (by rw [e]; exact hfi)
          exact ⟨by rw [up_ne hei]; exact h1, by rw [up_ne hei, up_ne hpi]; exact h2⟩
        have all1 : ∀ v, v < i + 1 → up f i (some 0) v ≠ none := fun v hv => by
          by_cases e : v = i
          · rw [e, up_same]; exact fun z => (nomatch z)
          · rw [up_ne e]; exact hall v (by omega)
        generalize hf' : up f i (some 0) = f1 at S1 cl1 all1 hMs
        have wt1 : Wt n f1 (up rt i i) i [i] := ⟨by simp, fun v hv => by
          rw [List.mem_singleton.mp hv]
          exact ⟨hi, all1 i (by omega), up_same⟩⟩
        generalize hrt : up rt i i = rt1 at S1 cl1 wt1
        unfold dwhile
        refine ⟨fun t δ M => ∃ (f : Nat → Option Nat) (cm : Nat → List Fl.St) (rt : Nat → Nat) (dn wt : List Nat) (y6 y7 y8 : Option X), δ = [some (gX C n ps), some (.ptr psh), some (.ptr pc), some (.lst true ((List.replicate ps.length [true, false]).map sgX)), some (.int (i : Int)), some (.ptr pw), y6, y7, y8, none] ∧
          M psh = some (.lst (rowX n fun v => shX (f v))) ∧ M pc = some (.lst (rowX n fun v => stepsX (cm v))) ∧ M pw = some (.lst (wt.map nX)) ∧ SS n ps f cm rt dn ∧ Cl n ps f rt wt ∧ Wt n f rt i wt ∧ (∀ v, v < i + 1 → f v ≠ none) ∧ t = (n - dn.length) + wt.length,
          ⟨_, f1, cm, rt1, _, [i], _, _, _, rfl, by rw [mset_ne (Ne.symm w1)]; exact hMs, by rw [mset_ne (Ne.symm w2)]; exact hMc, mset_same, S1, cl1, wt1, all1, rfl⟩, ?_⟩
        clear hM1 hM2 S cl hall hfi hMs hMc S1 cl1 wt1 all1 hM' hpw hf' hrt
        rintro t δ M ⟨f, cm, rt, dn, wt, y6, y7, y8, rfl, hM1, hM2, hM3, S, cl, ⟨wnd, wtr⟩, hall, rfl⟩
        rcases List.eq_nil_or_concat wt with rfl | ⟨wt, here, rfl⟩
        · simp only [dseq, dasg, dasgG, dgsub, setL, dop, dun, dcb, dcons, dnil, dret, dretN, dnext, ddrop, diff, dif, dtest, dand, dor, dnot, dandV, dorV, dnotV, dchain, daug, dpar, dforS, dlc, dyes, dlst, dtup, dbm, fAppend, fPop, dvar, dc, fIx, fSl, dsl, dpart, dno, fI, fI0, fU, fAdd, fMul, fInt, fAbs, fLen, fMin2, fList, fEq, fIsN, gI, gB, lstOf, lstO, newl, dgname, dgtup, dgcons, dgnil, dirng1, dirng2, dilst, ditup, dienum, dizip, stays, startD, endD, dcallP, dcallN, fS, dfz, fzK, dbreak, dcont, wipeD, List.map_cons, List.map_nil, List.length_cons, List.length_nil, List.replicate, List.cons_append, List.nil_append, List.getElem?_cons_zero, List.getElem?_cons_succ, List.set_cons_zero, List.set_cons_succ, atI_zero, atI_one, atI_two, atI_three, ixN_zero, ixN_one, mset_same, mset_mset, mdel_mset, List.length_map, vw_one, Option.isSome_some, true_and, and_true, dmk, dmk0, dxf, disx, mkS, okX, dtru, truX, hM3]
          exact k _ _ ⟨f, cm, rt, dn, _, _, _, _, _, rfl, hM1, hM2, S, cl, hall⟩
        · rw [List.concat_eq_append] at *
          have hdl := S.le
          have hlast : ((wt ++ [here]).map nX)[((wt ++ [here]).map nX).length - 1]? = some (nX here) := by
            rw [List.length_map, List.length_append, List.length_singleton, Nat.add_sub_cancel]
            exact lookM nX (by rw [List.getElem?_append_right (Nat.le_refl _), Nat.sub_self]; rfl)
          have hdrop : ((wt ++ [here]).map nX).dropLast = wt.map nX := by rw [List.map_append]; exact List.dropLast_concat
          have hemp : (!((wt ++ [here]).map nX).isEmpty) = true := by simp
          simp only [dseq, dasg, dasgG, dgsub, setL, dop, dun, dcb, dcons, dnil, dret, dretN, dnext, ddrop, diff, dif, dtest, dand, dor, dnot, dandV, dorV, dnotV, dchain, daug, dpar, dforS, dlc, dyes, dlst, dtup, dbm, fAppend, fPop, dvar, dc, fIx, fSl, dsl, dpart, dno, fI, fI0, fU, fAdd, fMul, fInt, fAbs, fLen, fMin2, fList, fEq, fIsN, gI, gB, lstOf, lstO, newl, dgname, dgtup, dgcons, dgnil, dirng1, dirng2, dilst, ditup, dienum, dizip, stays, startD, endD, dcallP, dcallN, fS, dfz, fzK, dbreak, dcont, wipeD, List.map_cons, List.map_nil, List.length_cons, List.length_nil, List.replicate, List.cons_append, List.nil_append, List.getElem?_cons_zero, List.getElem?_cons_succ, List.set_cons_zero, List.set_cons_succ, atI_zero, atI_one, atI_two, atI_three, ixN_zero, ixN_one, mset_same, mset_mset, mdel_mset, List.length_map, vw_one, Option.isSome_some, true_and, and_true, dmk, dmk0, dxf, disx, mkS, okX, dtru, truX, hM3, hemp]
          rw [List.length_map] at hlast
          refine ⟨fun δ' M' => ∃ (f : Nat → Option Nat) (cm : Nat → List Fl.St) (rt : Nat → Nat) (dn' ext : List Nat) (y6 y7 y8 : Option X), δ' = [some (gX C n ps), some (.ptr psh), some (.ptr pc), some (.lst true ((List.replicate ps.length [true, false]).map sgX)), some (.int (i : Int)), some (.ptr pw), y6, y7, y8, none] ∧
            M' psh = some (.lst (rowX n fun v => shX (f v))) ∧ M' pc = some (.lst (rowX n fun v => stepsX (cm v))) ∧ M' pw = some (.lst ((wt ++ ext).map nX)) ∧ SS n ps f cm rt dn' ∧ Cl n ps f rt (wt ++ ext) ∧ Wt n f rt i (wt ++ ext) ∧ (∀ v, v < i + 1 → f v ≠ none) ∧ (n - dn'.length) + (wt ++ ext).length < (n - dn.length) + (wt ++ [here]).length, ?_, ?_⟩
          · rintro δ' M' ⟨f', cm', rt', dn', ext, y6, y7, y8, rfl, h1, h2, h3, h4, h5, h6, h7, h8⟩
            exact ⟨_, h8, f', cm', rt', dn', wt ++ ext, _, _, _, rfl, h1, h2, h3, h4, h5, h6, h7, rfl⟩
          · rw [hlast]
            simp only [dseq, dasg, dasgG, dgsub, setL, dop, dun, dcb, dcons, dnil, dret, dretN, dnext, ddrop, diff, dif, dtest, dand, dor, dnot, dandV, dorV, dnotV, dchain, daug, dpar, dforS, dlc, dyes, dlst, dtup, dbm, fAppend, fPop, dvar, dc, fIx, fSl, dsl, dpart, dno, fI, fI0, fU, fAdd, fMul, fInt, fAbs, fLen, fMin2, fList, fEq, fIsN, gI, gB, lstOf, lstO, newl, dgname, dgtup, dgcons, dgnil, dirng1, dirng2, dilst, ditup, dienum, dizip, stays, startD, endD, dcallP, dcallN, fS, dfz, fzK, dbreak, dcont, wipeD, List.map_cons, List.map_nil, List.length_cons, List.length_nil, List.replicate, List.cons_append, List.nil_append, List.getElem?_cons_zero, List.getElem?_cons_succ, List.set_cons_zero, List.set_cons_succ, atI_zero, atI_one, atI_two, atI_three, ixN_zero, ixN_one, mset_same, mset_mset, mdel_mset, List.length_map, vw_one, Option.isSome_some, true_and, and_true, dmk, dmk0, dxf, disx, mkS, okX, hdrop]
            obtain ⟨hhn, hhf, hhr⟩ := wtr here (List.mem_append_right _ List.mem_cons_self)
            obtain ⟨s0, hs0⟩ := Option.ne_none_iff_exists'.mp hhf
            rw [List.nodup_append] at wnd
            have hnw : here ∉ wt := fun h => wnd.2.2 here h here List.mem_cons_self rfl
            refine ⟨n, ps, here, true, List.replicate ps.length [true, false], by rw [vw_gX, vw_int, vw_lst], hhn, hm, sg_both, ?_⟩
            refine dfor_map (as := stepsF ps (List.replicate ps.length [true, false]) here) (f := stX ps) (fun j δ M => ∃ (f : Nat → Option Nat) (cm : Nat → List Fl.St) (rt : Nat → Nat) (dn' ext : List Nat) (y7 y8 : Option X), δ = [some (gX C n ps), some (.ptr psh), some (.ptr pc), some (.lst true ((List.replicate ps.length [true, false]).map sgX)), some (.int (i : Int)), some (.ptr pw), some (nX here), y7, y8, none] ∧
              M psh = some (.lst (rowX n fun v => shX (f v))) ∧ M pc = some (.lst (rowX n fun v => stepsX (cm v))) ∧ M pw = some (.lst ((wt ++ ext).map nX)) ∧ SS n ps f cm rt dn' ∧ Cl n ps f rt (here :: (wt ++ ext)) ∧ Wt n f rt i (wt ++ ext) ∧ here ∉ wt ++ ext ∧ f here = some s0 ∧ rt here = i ∧
              (∀ s ∈ (stepsF ps (List.replicate ps.length [true, false]) here).take j, f (en ps s) ≠ none ∧ rt (en ps s) = i) ∧ (∀ v, v < i + 1 → f v ≠ none) ∧ (n - dn'.length) + (wt ++ ext).length ≤ (n - dn.length) + wt.length)
              ⟨f, cm, rt, dn, [], y7, y8, rfl, by rw [mset_ne (Ne.symm w1)]; exact hM1, by rw [mset_ne (Ne.symm w2)]; exact hM2, by rw [mset_same, List.append_nil], S, fun p hp hf hex s hs hb => cl p hp hf (fun h => hex (by
                rcases List.mem_append.mp h with h | h
                · exact List.mem_cons_of_mem _ (List.mem_append_left _ h)
                · rw [List.mem_singleton.mp h]; exact List.mem_cons_self)) s hs hb, ⟨by rw [List.append_nil]; exact wnd.1, fun v hv => wtr v (List.mem_append_left _ (by rw [List.append_nil] at hv; exact hv))⟩, by rw [List.append_nil]; exact hnw, hs0, hhr, by simp, hall, by rw [List.append_nil]; exact Nat.le_refl _⟩ ?_ ?_
            · rintro δ M ⟨f, cm, rt, dn', ext, y7, y8, rfl, h1, h2, h3, h4, h5, h6, h7, h8, h9, h10, h11, h12⟩
              rw [List.take_length] at h10
              refine ⟨trivial, f, cm, rt, dn', ext, _, _, _, rfl, h1, h2, h3, h4, fun p hp hf hex s hs hb => ?_, h6, h11, by simp only [List.length_append, List.length_singleton] at h12 ⊢; omega⟩
              by_cases e : p = here
              · rw [e, h9]
                exact h10 s (from_mem.mpr ⟨may_both.mpr hs, by rw [hb, e]⟩)
              · exact h5 p hp hf (fun h => by
                  rcases List.mem_cons.mp h with h | h
                  · exact e h
                  · exact hex h) s hs hb
            · rintro j st δ M R2 hj ⟨f, cm, rt, dn', ext, y7, y8, rfl, h1, h2, h3, h4, h5, h6, h7, h8, h9, h10, h11, h12⟩ k2
              refine ⟨trivial, ?_⟩
              obtain ⟨hmay, hbg⟩ := from_mem.mp (List.mem_of_getElem? hj)
              have hsl := hmay.1
              have hln := wf.en hsl
              generalize hlst : en ps st = last at *
              simp only [dseq, dasg, dasgG, dgsub, setL, dop, dun, dcb, dcons, dnil, dret, dretN, dnext, ddrop, diff, dif, dtest, dand, dor, dnot, dandV, dorV, dnotV, dchain, daug, dpar, dforS, dlc, dyes, dlst, dtup, dbm, fAppend, fPop, dvar, dc, fIx, fSl, dsl, dpart, dno, fI, fI0, fU, fAdd, fMul, fInt, fAbs, fLen, fMin2, fList, fEq, fIsN, gI, gB, lstOf, lstO, newl, dgname, dgtup, dgcons, dgnil, dirng1, dirng2, dilst, ditup, dienum, dizip, stays, startD, endD, dcallP, dcallN, fS, dfz, fzK, dbreak, dcont, wipeD, List.map_cons, List.map_nil, List.length_cons, List.length_nil, List.replicate, List.cons_append, List.nil_append, List.getElem?_cons_zero, List.getElem?_cons_succ, List.set_cons_zero, List.set_cons_succ, atI_zero, atI_one, atI_two, atI_three, ixN_zero, ixN_one, mset_same, mset_mset, mdel_mset, List.length_map, vw_one, Option.isSome_some, true_and, and_true, dmk, dmk0, dxf, disx, mkS, okX, stX, hlst, h1, rowX_at hln]
              have handled : ∀ (f' : Nat → Option Nat) (rt' : Nat → Nat), (∀ v, f v ≠ none → f' v ≠ none ∧ rt' v = rt v) → (f' last ≠ none ∧ rt' last = i) → ∀ s ∈ (stepsF ps (List.replicate ps.length [true, false]) here).take (j + 1), f' (en ps s) ≠ none ∧ rt' (en ps s) = i := fun f' rt' hk hl s hs => by
                rw [List.take_add_one, hj] at hs
                rcases List.mem_append.mp hs with hs | hs
                · obtain ⟨a1, a2⟩ := h10 s hs
                  obtain ⟨b1, b2⟩ := hk _ a1
                  exact ⟨b1, b2.trans a2⟩
                · rw [List.mem_singleton.mp hs, hlst]; exact hl
              cases hfl : f last with
              | some sl =>
                have hrl : rt last = i := by
                  by_cases e1 : last ∈ wt ++ ext
                  · exact (h6.2 last e1).2.2
                  · by_cases e2 : last = here
                    · rw [e2]; exact h9
                    · have h := h5 last hln (by rw [hfl]; exact fun z => (nomatch z)) (fun h => by
                        rcases List.mem_cons.mp h with h | h
                        · exact e2 h
                        · exact e1 h) (st.1, !st.2) hsl (by rw [← hlst]; unfold bg en; cases st.2 <;> rfl)
                      have e3 : en ps (st.1, !st.2) = here := by rw [← hbg]; unfold bg en; cases st.2 <;> rfl
                      rw [e3, h9] at h
                      exact h.2.symm
                refine k2 _ _ ⟨f, cm, rt, dn', ext, _, _, rfl, h1, h2, h3, h4, h5, h6, h7, h8, h9, handled f rt (fun v hv => ⟨hv, rfl⟩) ⟨by rw [hfl]; exact fun z => (nomatch z), hrl⟩, h11, h12⟩
              | none =>
                rw [show shX none = X.non from rfl]
                have hhs : shX (f here) = nX s0 := by rw [h8]; rfl
                have hix : ∀ g : Nat → X, ixN (rowX n g).length ((last : Nat) : Int) = some last := fun g => by rw [rowX_len, ixN_of (by omega) (by omega), Int.toNat_natCast]
                have hMc : ∀ c, mset M psh c pc = some (.lst (rowX n fun v => stepsX (cm v))) := fun c => by rw [mset_ne (Ne.symm hpp)]; exact h2
                have hMw : ∀ c d, mset (mset M psh c) pc d pw = some (.lst ((wt ++ ext).map nX)) := fun c d => by rw [mset_ne w2, mset_ne w1]; exact h3
                have S2 := h4.push hhn h8 hsl hbg hlst hln hfl
                have hle2 := S2.le
                rw [List.length_append, List.length_singleton] at hle2
                have gl := h4.g here hhn
                have wl : (wt ++ ext).length ≤ 1000000 := by
                  have := nodup_le n h6.1 fun v hv => (h6.2 v hv).1
                  omega
                rw [List.length_append] at wl
                simp only [dseq, dasg, dasgG, dgsub, setL, dop, dun, dcb, dcons, dnil, dret, dretN, dnext, ddrop, diff, dif, dtest, dand, dor, dnot, dandV, dorV, dnotV, dchain, daug, dpar, dforS, dlc, dyes, dlst, dtup, dbm, fAppend, fPop, dvar, dc, fIx, fSl, dsl, dpart, dno, fI, fI0, fU, fAdd, fMul, fInt, fAbs, fLen, fMin2, fList, fEq, fIsN, gI, gB, lstOf, lstO, newl, dgname, dgtup, dgcons, dgnil, dirng1, dirng2, dilst, ditup, dienum, dizip, stays, startD, endD, dcallP, dcallN, fS, dfz, fzK, dbreak, dcont, wipeD, List.map_cons, List.map_nil, List.length_cons, List.length_nil, List.replicate, List.cons_append, List.nil_append, List.getElem?_cons_zero, List.getElem?_cons_succ, List.set_cons_zero, List.set_cons_succ, atI_zero, atI_one, atI_two, atI_three, ixN_zero, ixN_one, mset_same, mset_mset, mdel_mset, List.length_map, vw_one, Option.isSome_some, true_and, and_true, dmk, dmk0, dxf, disx, mkS, okX, Bool.not_false, h1, rowX_at hhn, hhs, hix, rowX_set, hMc, stepsX, hMw, List.length_append]
                have hs01 : s0 ≤ 1 := by
                  have := (h4.a here s0 hhn h8).2
                  omega
                have hnl : here ≠ last := fun e => by rw [e, hfl] at h8; cases h8
                have ne_of : ∀ {u}, f u ≠ none → u ≠ last := fun h e => h (by rw [e]; exact hfl)
                have hlw : last ∉ wt ++ ext := fun h => ne_of (h6.2 last h).2.1 rfl
                refine ⟨line_ge (by decide), line_ge (by omega), line_gt (by omega), k2 _ _ ⟨up f last (some (1 - s0)), up cm last (cm here ++ [st]), up rt last (rt here), dn' ++ [last], ext ++ [last], _, _, rfl, ?_, ?_, ?_, S2, ?_, ?_, ?_, by rw [up_ne hnl]; exact h8, by rw [up_ne hnl]; exact h9, ?_, fun v hv => ?_, ?_⟩⟩
                · rw [mset_ne (Ne.symm w1), mset_ne hpp, mset_same]
                  refine congrArg (fun l => some (Cell.lst l)) (rowX_congr fun v hv => ?_)
                  unfold up
                  by_cases e : v = last
                  · rw [if_pos e, if_pos e]
                    exact congrArg X.int (by omega)
                  · rw [if_neg e, if_neg e]
                · rw [mset_ne (Ne.symm w2), mset_same]
                  refine congrArg (fun l => some (Cell.lst l)) (rowX_congr fun v hv => ?_)
                  unfold up
                  by_cases e : v = last
                  · rw [if_pos e, if_pos e]
                    unfold stepsX
                    rw [List.map_append]; rfl
                  · rw [if_neg e, if_neg e]; rfl
                · rw [mset_same, ← List.append_assoc, List.map_append (l₁ := wt ++ ext)]; rfl
                · intro p hp hf hex s hs hb
                  have hpl : p ≠ last := fun e => hex (by rw [e]; exact List.mem_cons_of_mem _ (List.mem_append_right _ (List.mem_append_right _ List.mem_cons_self)))
                  rw [up_ne hpl] at hf
                  obtain ⟨a1, a2⟩ := h5 p hp hf (fun h => hex (by
                    rcases List.mem_cons.mp h with h | h
                    · rw [h]; exact List.mem_cons_self
                    · refine List.mem_cons_of_mem _ ?_
                      rw [← List.append_assoc]
                      exact List.mem_append_left _ h)) s hs hb
                  exact ⟨by rw [up_ne (ne_of a1)]; exact a1, by rw [up_ne (ne_of a1), up_ne hpl]; exact a2⟩
                · rw [← List.append_assoc]
                  refine ⟨?_, fun v hv => ?_⟩
                  · rw [List.nodup_append]
                    exact ⟨h6.1, by simp, fun a ha b hb e => hlw (by rw [List.mem_singleton.mp hb] at e; rw [← e]; exact ha)⟩
                  · rcases List.mem_append.mp hv with hv | hv
                    · obtain ⟨b1, b2, b3⟩ := h6.2 v hv
                      exact ⟨b1, by rw [up_ne (ne_of b2)]; exact b2, by rw [up_ne (ne_of b2)]; exact b3⟩
                    · rw [List.mem_singleton.mp hv, up_same, up_same]
                      exact ⟨hln, fun z => (nomatch z), h9⟩
                · rw [← List.append_assoc]
                  intro h
                  rcases List.mem_append.mp h with h | h
                  · exact h7 h
                  · exact hnl (List.mem_singleton.mp h)
                · exact handled _ _ (fun v hv => ⟨by rw [up_ne (ne_of hv)]; exact hv, up_ne (ne_of hv)⟩) ⟨by rw [up_same]; exact fun z => (nomatch z), by rw [up_same]; exact h9⟩
                · rw [up_ne (ne_of (h11 v hv))]; exact h11 v hv
                · simp only [List.length_append, List.length_singleton] at h12 ⊢
                  omega
end
end K53


set_option maxRecDepth 100000
set_option maxHeartbeats 0
namespace K53
open PySem PySem.Spec PyProof.Rows L2 DL Fl
section
variable {P : Program} {w : World} {K : PySem.W.Frag} {mg : Str → Option Value} {base : Heap} {C : Addr}
def sD (s : Fl.St) : PyData := .tuple [.int (s.1 : Nat), .int (sg s.2)]
theorem dX_sX {g : Addr → Option PyData} {s : Fl.St} : dX g (sX s) = some (sD s) := by
  simp only [sX, dX, dXs, nX, Option.map_some]
  rfl
theorem shaped_sD (s : Fl.St) : SeqAt.shaped (sD s) = true := by
  unfold sD
  rfl
theorem sg_inj {a b : Bool} (h : sg a = sg b) : a = b := by
  revert h
  cases a <;> cases b <;> decide
theorem eqv_sD {s t : Fl.St} : PyData.eqv (sD s) (sD t) = decide (s = t) := by
  by_cases h : s = t
  · rw [h, eqv_shaped (shaped_sD t), decide_eq_true rfl]
  · rw [decide_eq_false h]
    show PyData.eqvAll _ _ = false
    simp only [PyData.eqvAll, PyData.eqv, Bool.and_true]
    cases h1 : ((s.1 : Nat) : Int) == ((t.1 : Nat) : Int) with
    | false => rfl
    | true =>
      have e1 : s.1 = t.1 := by have := eq_of_beq h1; omega
      cases h2 : sg s.2 == sg t.2 with
      | false => rfl
      | true => exact absurd (Prod.ext e1 (sg_inj (eq_of_beq h2))) h
def g_odd : PF := fun xs P _ => ∃ (n e t h : Nat) (b : Bool) (cm : Nat → List Fl.St), xs = [.lst b (rowX n fun v => stepsX (cm v)), nX e, nX t, nX h] ∧ t < n ∧ h < n ∧ (∀ v, v < n → (cm v).length ≤ 1000000) ∧
  ∀ k, k ≤ (cm t).length → k ≤ (cm h).length → (∀ i, i < k → (cm t)[i]? = (cm h)[i]?) → (k < (cm t).length → k < (cm h).length → (cm t)[k]? ≠ (cm h)[k]?) → P (stepsX ((e, true) :: ((((cm h).drop k).reverse.map Fl.flip) ++ (cm t).drop k)))
abbrev s_odd_cycle : Stmt := topS 32
theorem sc_odd_cycle : FnScope ["came", "edge", "tail", "head", "to_tail", "to_head", "common", "back", "other", "sign"] ["came", "edge", "tail", "head"] (defScope s_odd_cycle) := ⟨rfl, rfl, rfl, by decide +kernel, rfl, by decide +kernel, by decide +kernel⟩
theorem cal_odd_cycle (B : Blt2 mg) (D : Def K mg "_odd_cycle" s_odd_cycle) : Cal false P w K mg base CX0 "_odd_cycle" 1 ["came", "edge", "tail", "head"] (PFd g_odd) := by
  refine Cal.mk' D (fun _ _ _ _ _ _ us hl => match us, hl with | [_, _, _, _], _ => rfl) fun f fdt F => fnD F sc_odd_cycle (fun xs M Q E h => ?len) fun cdv A outer s H E hr => ⟨_,
    ((pssd_cons (psd_set 4 sc_odd_cycle.nd (pd_ix (pd_var 0) (pd_var 2)))
(pssd_cons (psd_set 5 sc_odd_cycle.nd (pd_ix (pd_var 0) (pd_var 3)))
(pssd_cons (psd_set 6 sc_odd_cycle.nd pd_int)
(pssd_cons (psd_while PassesOwn.never (pwd_and (ptd_cmp op_lt snd_B (pd_var 6) (pd_callB (call_min2 rfl) snd_min2 (by rfl) B.min (by decide +kernel) (pad_cons (pd_callB call_len_seq snd_len (by rfl) B.len PySem.boot_len (pad_cons (pd_var 4) pad_nil)) (pad_cons (pd_callB call_len_seq snd_len (by rfl) B.len PySem.boot_len (pad_cons (pd_var 5) pad_nil)) pad_nil))) (nomark _)) (pwd_and1 (ptd_cmp (op_eqD hr.units) snd_eqD (pd_ix (pd_var 4) (pd_var 6)) (pd_ix (pd_var 5) (pd_var 6)) (nomark _)))).pt
(pssd_one (psd_aug 6 sc_odd_cycle.nd ip_add snd_ip pd_int)))
(pssd_cons (psd_setLc false 7 [("other", 8), ("sign", 9)] anti0 sc_odd_cycle.nd (sw_true rfl rfl rfl (by decide +kernel)) (pid_list (pd_rev false (pd_slice false (pd_var 5) (pod_some (pd_var 6)) pod_none))) (blkOk_by (own := [("other", 8), ("sign", 9)]) (N := ["came", "edge", "tail", "head", "to_tail", "to_head", "common", "back", "other", "sign"]) (sc := defScope s_odd_cycle) (by decide +kernel)) (fun _ _ _ _ _ => (pgl_tup (n := 2) rfl (pgsl_cons (pgl_name 8 sc_odd_cycle.nd) (pgsl_cons (pgl_name 9 sc_odd_cycle.nd) pgsl_nil)))) (fun _ _ _ _ _ => ptsd_nil) (fun _ _ _ _ _ => (pd_tup (pad_cons (pd_var 8) (pad_cons (pd_sub pd_int (pd_var 9)) pad_nil)))))
(pssd_one (psd_ret (pd_add false (pd_add false (pd_lst false (pad_cons (pd_tup (pad_cons (pd_var 1) (pad_cons pd_int pad_nil))) pad_nil)) (pd_var 7)) (pd_slice false (pd_var 4) (pod_some (pd_var 6)) pod_none)))))))))), fun xs M Qd Ed h => ?rd⟩
  case len =>
    obtain ⟨_, n, e, t, h, b, cm, rfl, _⟩ := h
    rfl
  case rd =>
    obtain ⟨rfl, n, e, t, h, b, cm, rfl, ht, hh, hl, q⟩ := h
    simp only [dseq, dasg, dasgG, dgsub, setL, dop, dun, dcb, dcons, dnil, dret, dretN, dnext, ddrop, diff, dif, dtest, dand, dor, dnot, dandV, dorV, dnotV, dchain, daug, dpar, dforS, dlc, dyes, dlst, dtup, dbm, fAppend, fPop, dvar, dc, fIx, fSl, dsl, dpart, dno, fI, fI0, fU, fAdd, fMul, fInt, fAbs, fLen, fMin2, fList, fEq, fIsN, gI, gB, lstOf, lstO, newl, dgname, dgtup, dgcons, dgnil, dirng1, dirng2, dilst, ditup, dienum, dizip, stays, startD, endD, dcallP, dcallN, fS, dfz, fzK, dbreak, dcont, wipeD, List.map_cons, List.map_nil, List.length_cons, List.length_nil, List.replicate, List.cons_append, List.nil_append, List.getElem?_cons_zero, List.getElem?_cons_succ, List.set_cons_zero, List.set_cons_succ, atI_zero, atI_one, atI_two, atI_three, ixN_zero, ixN_one, mset_same, mset_mset, mdel_mset, List.length_map, vw_one, Option.isSome_some, true_and, and_true, dmk, dmk0, dxf, disx, mkS, okX, rowX_at ht, rowX_at hh]
    unfold dwhile
    have lt_ := hl t ht
    have lh_ := hl h hh
    generalize cm t = T at q lt_ ⊢
    generalize cm h = H at q lh_ ⊢
    refine ⟨fun m δ M => ∃ k : Nat, δ = [some (.lst b (rowX n fun v => stepsX (cm v))), some (nX e), some (nX t), some (nX h), some (stepsX T), some (stepsX H), some (nX k), none, none, none] ∧ M = m0 ∧ k ≤ T.length ∧ k ≤ H.length ∧ (∀ i, i < k → T[i]? = H[i]?) ∧ m + k = T.length, ⟨T.length, 0, rfl, rfl, Nat.zero_le _, Nat.zero_le _, fun i hi => absurd hi (Nat.not_lt_zero _), rfl⟩, ?_⟩
    rintro m δ M ⟨k, rfl, rfl, h1, h2, heq, hm⟩
    by_cases hk : (k < T.length ∧ k < H.length) ∧ T[k]? = H[k]?
    · obtain ⟨⟨k1, k2⟩, k3⟩ := hk
      refine (show EvT (dand _ _) _ m0 true m0 from fun Q hQ => ?_) _ ?_
      · simp only [dseq, dasg, dasgG, dgsub, setL, dop, dun, dcb, dcons, dnil, dret, dretN, dnext, ddrop, diff, dif, dtest, dand, dor, dnot, dandV, dorV, dnotV, dchain, daug, dpar, dforS, dlc, dyes, dlst, dtup, dbm, fAppend, fPop, dvar, dc, fIx, fSl, dsl, dpart, dno, fI, fI0, fU, fAdd, fMul, fInt, fAbs, fLen, fMin2, fList, fEq, fIsN, gI, gB, lstOf, lstO, newl, dgname, dgtup, dgcons, dgnil, dirng1, dirng2, dilst, ditup, dienum, dizip, stays, startD, endD, dcallP, dcallN, fS, dfz, fzK, dbreak, dcont, wipeD, List.map_cons, List.map_nil, List.length_cons, List.length_nil, List.replicate, List.cons_append, List.nil_append, List.getElem?_cons_zero, List.getElem?_cons_succ, List.set_cons_zero, List.set_cons_succ, atI_zero, atI_one, atI_two, atI_three, ixN_zero, ixN_one, mset_same, mset_mset, mdel_mset, List.length_map, vw_one, Option.isSome_some, true_and, and_true, dmk, dmk0, dxf, disx, mkS, okX, stepsX]
        rw [tt (show (k : Int) < (if ((H.length : Nat) : Int) < ((T.length : Nat) : Int) then ((H.length : Nat) : Int) else ((T.length : Nat) : Int)) by split <;> omega)]
        have a1 : atI (T.map sX) (k : Int) = some (sX T[k]) := atI_nat (lookM sX (List.getElem?_eq_getElem k1))
        have a2 : atI (H.map sX) (k : Int) = some (sX H[k]) := atI_nat (lookM sX (List.getElem?_eq_getElem k2))
        simp only [dseq, dasg, dasgG, dgsub, setL, dop, dun, dcb, dcons, dnil, dret, dretN, dnext, ddrop, diff, dif, dtest, dand, dor, dnot, dandV, dorV, dnotV, dchain, daug, dpar, dforS, dlc, dyes, dlst, dtup, dbm, fAppend, fPop, dvar, dc, fIx, fSl, dsl, dpart, dno, fI, fI0, fU, fAdd, fMul, fInt, fAbs, fLen, fMin2, fList, fEq, fIsN, gI, gB, lstOf, lstO, newl, dgname, dgtup, dgcons, dgnil, dirng1, dirng2, dilst, ditup, dienum, dizip, stays, startD, endD, dcallP, dcallN, fS, dfz, fzK, dbreak, dcont, wipeD, List.map_cons, List.map_nil, List.length_cons, List.length_nil, List.replicate, List.cons_append, List.nil_append, List.getElem?_cons_zero, List.getElem?_cons_succ, List.set_cons_zero, List.set_cons_succ, atI_zero, atI_one, atI_two, atI_three, ixN_zero, ixN_one, mset_same, mset_mset, mdel_mset, List.length_map, vw_one, Option.isSome_some, true_and, and_true, dmk, dmk0, dxf, disx, mkS, okX, a1, a2, fEqD, dX_sX]
        refine ⟨shaped_sD _, shaped_sD _, ?_⟩
        rw [eqv_sD, tt (by rw [List.getElem?_eq_getElem k1, List.getElem?_eq_getElem k2] at k3; exact Option.some.inj k3)]
        exact hQ
      · simp only [dseq, dasg, dasgG, dgsub, setL, dop, dun, dcb, dcons, dnil, dret, dretN, dnext, ddrop, diff, dif, dtest, dand, dor, dnot, dandV, dorV, dnotV, dchain, daug, dpar, dforS, dlc, dyes, dlst, dtup, dbm, fAppend, fPop, dvar, dc, fIx, fSl, dsl, dpart, dno, fI, fI0, fU, fAdd, fMul, fInt, fAbs, fLen, fMin2, fList, fEq, fIsN, gI, gB, lstOf, lstO, newl, dgname, dgtup, dgcons, dgnil, dirng1, dirng2, dilst, ditup, dienum, dizip, stays, startD, endD, dcallP, dcallN, fS, dfz, fzK, dbreak, dcont, wipeD, List.map_cons, List.map_nil, List.length_cons, List.length_nil, List.replicate, List.cons_append, List.nil_append, List.getElem?_cons_zero, List.getElem?_cons_succ, List.set_cons_zero, List.set_cons_succ, atI_zero, atI_one, atI_two, atI_three, ixN_zero, ixN_one, mset_same, mset_mset, mdel_mset, List.length_map, vw_one, Option.isSome_some, true_and, and_true, dmk, dmk0, dxf, disx, mkS, okX]
        refine ⟨fun δ' M' => δ' = [some (.lst b (rowX n fun v => stepsX (cm v))), some (nX e), some (nX t), some (nX h), some (stepsX T), some (stepsX H), some (nX (k + 1)), none, none, none] ∧ M' = m0, ?_, ?_, rfl⟩
        · rintro δ' M' ⟨rfl, rfl⟩
          refine ⟨m - 1, by omega, k + 1, rfl, rfl, by omega, by omega, fun i hi => ?_, by omega⟩
          by_cases e : i = k
          · rw [e]; exact k3
          · exact heq i (by omega)
        · simp [nX]
    · refine (show EvT (dand _ _) _ m0 false m0 from fun Q hQ => ?_) _ ?_
      · simp only [dseq, dasg, dasgG, dgsub, setL, dop, dun, dcb, dcons, dnil, dret, dretN, dnext, ddrop, diff, dif, dtest, dand, dor, dnot, dandV, dorV, dnotV, dchain, daug, dpar, dforS, dlc, dyes, dlst, dtup, dbm, fAppend, fPop, dvar, dc, fIx, fSl, dsl, dpart, dno, fI, fI0, fU, fAdd, fMul, fInt, fAbs, fLen, fMin2, fList, fEq, fIsN, gI, gB, lstOf, lstO, newl, dgname, dgtup, dgcons, dgnil, dirng1, dirng2, dilst, ditup, dienum, dizip, stays, startD, endD, dcallP, dcallN, fS, dfz, fzK, dbreak, dcont, wipeD, List.map_cons, List.map_nil, List.length_cons, List.length_nil, List.replicate, List.cons_append, List.nil_append, List.getElem?_cons_zero, List.getElem?_cons_succ, List.set_cons_zero, List.set_cons_succ, atI_zero, atI_one, atI_two, atI_three, ixN_zero, ixN_one, mset_same, mset_mset, mdel_mset, List.length_map, vw_one, Option.isSome_some, true_and, and_true, dmk, dmk0, dxf, disx, mkS, okX, stepsX]
        by_cases hk2 : k < T.length ∧ k < H.length
        · obtain ⟨k1, k2⟩ := hk2
          rw [tt (show (k : Int) < (if ((H.length : Nat) : Int) < ((T.length : Nat) : Int) then ((H.length : Nat) : Int) else ((T.length : Nat) : Int)) by split <;> omega)]
          have a1 : atI (T.map sX) (k : Int) = some (sX T[k]) := atI_nat (lookM sX (List.getElem?_eq_getElem k1))
          have a2 : atI (H.map sX) (k : Int) = some (sX H[k]) := atI_nat (lookM sX (List.getElem?_eq_getElem k2))
          simp only [dseq, dasg, dasgG, dgsub, setL, dop, dun, dcb, dcons, dnil, dret, dretN, dnext, ddrop, diff, dif, dtest, dand, dor, dnot, dandV, dorV, dnotV, dchain, daug, dpar, dforS, dlc, dyes, dlst, dtup, dbm, fAppend, fPop, dvar, dc, fIx, fSl, dsl, dpart, dno, fI, fI0, fU, fAdd, fMul, fInt, fAbs, fLen, fMin2, fList, fEq, fIsN, gI, gB, lstOf, lstO, newl, dgname, dgtup, dgcons, dgnil, dirng1, dirng2, dilst, ditup, dienum, dizip, stays, startD, endD, dcallP, dcallN, fS, dfz, fzK, dbreak, dcont, wipeD, List.map_cons, List.map_nil, List.length_cons, List.length_nil, List.replicate, List.cons_append, List.nil_append, List.getElem?_cons_zero, List.getElem?_cons_succ, List.set_cons_zero, List.set_cons_succ, atI_zero, atI_one, atI_two, atI_three, ixN_zero, ixN_one, mset_same, mset_mset, mdel_mset, List.length_map, vw_one, Option.isSome_some, true_and, and_true, dmk, dmk0, dxf, disx, mkS, okX, a1, a2, fEqD, dX_sX]
          refine ⟨shaped_sD _, shaped_sD _, ?_⟩
          rw [eqv_sD, ff (fun z => hk ⟨⟨k1, k2⟩, by rw [List.getElem?_eq_getElem k1, List.getElem?_eq_getElem k2, z]⟩)]
          exact hQ
        · rw [ff (show ¬ (k : Int) < (if ((H.length : Nat) : Int) < ((T.length : Nat) : Int) then ((H.length : Nat) : Int) else ((T.length : Nat) : Int)) by split <;> omega)]
          exact hQ
      · have sl : ∀ Z : List Fl.St, k ≤ Z.length → ((Z.map sX).drop (HT.sIx Z.length 0 (some (k : Int)))).take (HT.sIx Z.length Z.length none - HT.sIx Z.length 0 (some (k : Int))) = (Z.drop k).map sX := fun Z hz => by
          rw [HT.sIx_nat, HT.sIx_none, Nat.min_eq_left hz, List.take_of_length_le (by rw [List.length_drop, List.length_map]; omega), List.map_drop]
        simp only [dseq, dasg, dasgG, dgsub, setL, dop, dun, dcb, dcons, dnil, dret, dretN, dnext, ddrop, diff, dif, dtest, dand, dor, dnot, dandV, dorV, dnotV, dchain, daug, dpar, dforS, dlc, dyes, dlst, dtup, dbm, fAppend, fPop, dvar, dc, fIx, fSl, dsl, dpart, dno, fI, fI0, fU, fAdd, fMul, fInt, fAbs, fLen, fMin2, fList, fEq, fIsN, gI, gB, lstOf, lstO, newl, dgname, dgtup, dgcons, dgnil, dirng1, dirng2, dilst, ditup, dienum, dizip, stays, startD, endD, dcallP, dcallN, fS, dfz, fzK, dbreak, dcont, wipeD, List.map_cons, List.map_nil, List.length_cons, List.length_nil, List.replicate, List.cons_append, List.nil_append, List.getElem?_cons_zero, List.getElem?_cons_succ, List.set_cons_zero, List.set_cons_succ, atI_zero, atI_one, atI_two, atI_three, ixN_zero, ixN_one, mset_same, mset_mset, mdel_mset, List.length_map, vw_one, Option.isSome_some, true_and, and_true, dmk, dmk0, dxf, disx, mkS, okX, stepsX, drev, sl H h2, sl T h1]
        have ld : (H.drop k).length ≤ 1000000 := by rw [List.length_drop]; omega
        have ld2 : (T.drop k).length ≤ 1000000 := by rw [List.length_drop]; omega
        rw [← List.map_reverse]
        refine dlc_map (as := (H.drop k).reverse) (f := sX) (v := fun s => sX (Fl.flip s)) (by rw [List.length_reverse]; exact ld) trivial ?_ fun s R hs hR => ?_
        · refine ⟨line_ge (by decide), line_ge (by decide), ?_, ?_, ?_⟩
          · rw [List.length_map, List.length_reverse, sizeLine_eq]; omega
          · rw [List.length_map, List.length_reverse, sizeLine_eq]; omega
          · refine rt_pure ?_ ?_
            · have e1 : (X.tup [nX e, X.int 1] :: (((H.drop k).reverse.map fun s => sX (Fl.flip s)) ++ (T.drop k).map sX)) = (((e, true) :: ((H.drop k).reverse.map Fl.flip ++ T.drop k)).map sX) := by
                rw [List.map_cons, List.map_append, List.map_map]; rfl
              rw [e1]
              simp only [own, own_sX, Bool.and_self]
            · have h3 := q k h1 h2 heq fun a1 a2 a3 => hk ⟨⟨a1, a2⟩, a3⟩
              unfold stepsX at h3
              rw [List.map_cons, List.map_append, List.map_map] at h3
              exact h3
        · have e2 : (0 : Int) - sg s.2 = sg (!s.2) := by cases s.2 <;> rfl
          simp only [dseq, dasg, dasgG, dgsub, setL, dop, dun, dcb, dcons, dnil, dret, dretN, dnext, ddrop, diff, dif, dtest, dand, dor, dnot, dandV, dorV, dnotV, dchain, daug, dpar, dforS, dlc, dyes, dlst, dtup, dbm, fAppend, fPop, dvar, dc, fIx, fSl, dsl, dpart, dno, fI, fI0, fU, fAdd, fMul, fInt, fAbs, fLen, fMin2, fList, fEq, fIsN, gI, gB, lstOf, lstO, newl, dgname, dgtup, dgcons, dgnil, dirng1, dirng2, dilst, ditup, dienum, dizip, stays, startD, endD, dcallP, dcallN, fS, dfz, fzK, dbreak, dcont, wipeD, List.map_cons, List.map_nil, List.length_cons, List.length_nil, List.replicate, List.cons_append, List.nil_append, List.getElem?_cons_zero, List.getElem?_cons_succ, List.set_cons_zero, List.set_cons_succ, atI_zero, atI_one, atI_two, atI_three, ixN_zero, ixN_one, mset_same, mset_mset, mdel_mset, List.length_map, vw_one, Option.isSome_some, true_and, and_true, dmk, dmk0, dxf, disx, mkS, okX, sX]
          rw [e2]
          exact ⟨line_ge (by decide), hR⟩
theorem filt_sum (p : Nat → Bool) : ∀ m : Nat, (((List.range m).filter p).length : Int) = sumN (fun e => iv (p e)) m
  | 0 => rfl
  | m + 1 => by
    rw [List.range_succ, List.filter_append, List.length_append]
    show _ = sumN (fun e => iv (p e)) m + iv (p m)
    rw [← filt_sum p m]
    cases h : p m with
    | true => rw [List.filter_cons_of_pos h]; rfl
    | false => rw [List.filter_cons_of_neg (by rw [h]; exact Bool.false_ne_true)]; rfl
theorem deg_sum {ps : List E2} {v : Nat} : ((deg ps v : Nat) : Int) = sumN (fun e => Fl.dl (hd ps e) v + Fl.dl (tl ps e) v) ps.length := by
  unfold deg inc
  rw [Int.natCast_add, List.filter_filter, filt_sum, filt_sum, ← sumN_add]
  refine sumN_congr fun e he => ?_
  unfold iv Fl.dl
  by_cases h1 : tl ps e = v <;> by_cases h2 : hd ps e = v <;> by_cases h3 : tl ps e = hd ps e <;> simp_all
def g_three (K : PySem.W.Frag) (C : Addr) : PF := fun xs P E => ∃ (n : Nat) (ps : List E2), xs = [gX C n ps] ∧ n ≤ 1000000 ∧ ps.length ≤ 1000000 ∧ WF n ps ∧
  ((∀ v, v < n → deg ps v = 3) → (∀ c, CycOk ps c → (∀ col : Nat → Bool, ∃ e, e < ps.length ∧ col (tl ps e) = col (hd ps e)) → P (.tup [.str "cycle", stepsX c])) ∧
    (∀ out : List Int, out.length = ps.length → (∀ e, e < ps.length → amt out e = 1 ∨ amt out e = 2 ∨ amt out e = -1 ∨ amt out e = -2) → (∀ v, v < n → imb ps (amt out) v = 0) → P (.tup [.str "flow", .lst true (out.map X.int)]))) ∧
  (∀ v, v < n → deg ps v ≠ 3 → (∀ u, u < v → deg ps u = 3) → E (He.ga K "NotCubic") ["vertex"] [nX v])
abbrev s_three_flow : Stmt := topS 30
theorem sc_three_flow : FnScope ["graph", "shades", "came", "edge", "tail", "head", "row", "_"] ["graph"] (defScope s_three_flow) := ⟨rfl, rfl, rfl, by decide +kernel, rfl, by decide +kernel, by decide +kernel⟩
theorem cal_three_flow (B : Blt2 mg) (D : Def K mg "three_flow" s_three_flow) (c_refuse_other : Cal false P w K mg base (L2.CX P w) "_refuse_other" 3 ["graph"] (PFd (g_other K C))) (c_shades : Cal false P w K mg base CX0 "_shades" 4 ["graph"] (PFd (g_shades C))) (c_odd_cycle : Cal false P w K mg base CX0 "_odd_cycle" 1 ["came", "edge", "tail", "head"] (PFd g_odd)) (c_lift : CalK P w K mg base CX0 "lift" 6 ["graph", "row", "modulus"] ["modulus"] 2 1 (NFd (g_lift C))) (i_graph : CalIt P w K mg base C "_pairs" 1) : Cal false P w K mg base (L2.CX P w) "three_flow" 7 ["graph"] (PFd (g_three K C)) := by
  refine Cal.mk' D (fun _ _ _ _ _ _ us hl => match us, hl with | [_], _ => rfl) fun f fdt F => fnDX F sc_three_flow (fun xs M Q E h => ?len) fun cdv A outer s H E Ed hr => ⟨_,
    ((pssd_cons (psd_expr (pd_cP 2 c_refuse_other (hr.mono (by decide)) (passes_call (takes_of rfl rfl rfl rfl) (fun _ _ _ _ h => h)) (fun _ w => w) (pad_cons (pd_var 0) pad_nil)))
(pssd_cons (psd_asg (pd_cP 2 c_shades (hr.mono (by decide)) pass0 we0 (pad_cons (pd_var 0) pad_nil)) (pgd_tup (n := 2) rfl (pgsd_cons (pgd_name 1 sc_three_flow.nd) (pgsd_cons (pgd_name 2 sc_three_flow.nd) pgsd_nil))))
(pssd_cons (psd_for antiE (passes_of rfl) rfl (pid_enumO i_graph (hr.mono (by decide)).toRoom (by rfl) B.enumerate (pad_cons (pd_var 0) pad_nil)) (pgd_tup (n := 2) rfl (pgsd_cons (pgd_name 3 sc_three_flow.nd) (pgsd_cons (pgd_tup (n := 2) rfl (pgsd_cons (pgd_name 4 sc_three_flow.nd) (pgsd_cons (pgd_name 5 sc_three_flow.nd) pgsd_nil))) pgsd_nil)))
(pssd_one (psd_if (ptd_cmp op_eq snd_eq (pd_ix (pd_var 1) (pd_var 4)) (pd_ix (pd_var 1) (pd_var 5)) (nomark _))
(pssd_one (psd_ret (pd_tup (pad_cons pd_str (pad_cons (pd_cP 2 c_odd_cycle (hr.mono (by decide)) pass0 we0 (pad_cons (pd_var 2) (pad_cons (pd_var 3) (pad_cons (pd_var 4) (pad_cons (pd_var 5) pad_nil))))) pad_nil)))))
pssd_nil)))
(pssd_cons (psd_setLc false 6 [("tail", 4), ("_", 7)] antiE sc_three_flow.nd (sw_true rfl rfl rfl (by decide +kernel)) (pid_own i_graph (hr.mono (by decide)).toRoom (pd_var 0)) (blkOk_by (own := [("tail", 4), ("_", 7)]) (N := ["graph", "shades", "came", "edge", "tail", "head", "row", "_"]) (sc := defScope s_three_flow) (by decide +kernel)) (fun _ _ _ _ _ => (pgl_tup (n := 2) rfl (pgsl_cons (pgl_name 4 sc_three_flow.nd) (pgsl_cons (pgl_name 7 sc_three_flow.nd) pgsl_nil)))) (fun _ _ _ _ _ => ptsd_nil) (fun _ _ _ _ _ => (pd_if (ptd_cmp op_eq snd_eq (pd_ix (pd_var 1) (pd_var 4)) pd_int (nomark _)) pd_int pd_int)))
(pssd_one (psd_ret (pd_tup (pad_cons pd_str (pad_cons (pd_cKN 3 false mono_lift c_lift (hr.mono (by decide)).toRoom pass0 we0 (pad_cons (pd_var 0) (pad_cons (pd_var 6) pad_nil)) ((pkd_cons pd_int pkd_nil)) (fun _ _ _ h => by simpa only [dcons, dnil, List.length_cons, List.length_nil, Nat.zero_add, Nat.reduceAdd, true_and] using h) (fun _ _ _ h => by simpa only [dcons, dnil, List.length_cons, List.length_nil, Nat.zero_add, Nat.reduceAdd, true_and] using h)) pad_nil)))))))))), fun xs M Qd h => ?rd⟩
  case len =>
    obtain ⟨_, n, ps, rfl, _⟩ := h
    rfl
  case rd =>
    obtain ⟨rfl, n, ps, rfl, hn, hm, wf, q1, q2⟩ := h
    simp only [dseq, dasg, dasgG, dgsub, setL, dop, dun, dcb, dcons, dnil, dret, dretN, dnext, ddrop, diff, dif, dtest, dand, dor, dnot, dandV, dorV, dnotV, dchain, daug, dpar, dforS, dlc, dyes, dlst, dtup, dbm, fAppend, fPop, dvar, dc, fIx, fSl, dsl, dpart, dno, fI, fI0, fU, fAdd, fMul, fInt, fAbs, fLen, fMin2, fList, fEq, fIsN, gI, gB, lstOf, lstO, newl, dgname, dgtup, dgcons, dgnil, dirng1, dirng2, dilst, ditup, dienum, dizip, stays, startD, endD, dcallP, dcallN, fS, dfz, fzK, dbreak, dcont, wipeD, List.map_cons, List.map_nil, List.length_cons, List.length_nil, List.replicate, List.cons_append, List.nil_append, List.getElem?_cons_zero, List.getElem?_cons_succ, List.set_cons_zero, List.set_cons_succ, atI_zero, atI_one, atI_two, atI_three, ixN_zero, ixN_one, mset_same, mset_mset, mdel_mset, List.length_map, vw_one, Option.isSome_some, true_and, and_true, dmk, dmk0, dxf, disx, mkS, okX]
    refine ⟨n, ps, by rw [vw_gX], hn, hm, fun h3 => ?_, fun v hv hd hu => ⟨m0, fun _ _ z => z, rfl, fun _ _ z => (nomatch z), q2 v hv hd hu⟩⟩
    obtain ⟨qc, qf⟩ := q1 h3
    refine ⟨n, ps, by rw [vw_gX], hn, hm, wf, fun sh cm rt S => ?_⟩
    refine ⟨rfl, ?_⟩
    simp only [dseq, dasg, dasgG, dgsub, setL, dop, dun, dcb, dcons, dnil, dret, dretN, dnext, ddrop, diff, dif, dtest, dand, dor, dnot, dandV, dorV, dnotV, dchain, daug, dpar, dforS, dlc, dyes, dlst, dtup, dbm, fAppend, fPop, dvar, dc, fIx, fSl, dsl, dpart, dno, fI, fI0, fU, fAdd, fMul, fInt, fAbs, fLen, fMin2, fList, fEq, fIsN, gI, gB, lstOf, lstO, newl, dgname, dgtup, dgcons, dgnil, dirng1, dirng2, dilst, ditup, dienum, dizip, stays, startD, endD, dcallP, dcallN, fS, dfz, fzK, dbreak, dcont, wipeD, List.map_cons, List.map_nil, List.length_cons, List.length_nil, List.replicate, List.cons_append, List.nil_append, List.getElem?_cons_zero, List.getElem?_cons_succ, List.set_cons_zero, List.set_cons_succ, atI_zero, atI_one, atI_two, atI_three, ixN_zero, ixN_one, mset_same, mset_mset, mdel_mset, List.length_map, vw_one, Option.isSome_some, true_and, and_true, dmk, dmk0, dxf, disx, mkS, okX, dienumO, itV]
    refine dfor_enum (as := ps) (f := pX) (fun i δ M => ∃ y3 y4 y5, δ = [some (gX C n ps), some (.lst true (rowX n fun v => nX (sh v))), some (.lst true (rowX n fun v => stepsX (cm v))), y3, y4, y5, none, none] ∧ M = m0 ∧ ∀ e, e < i → sh (tl ps e) ≠ sh (hd ps e)) ⟨none, none, none, rfl, rfl, fun e he => absurd he (Nat.not_lt_zero _)⟩ ?_ ?_
    · rintro δ M ⟨y3, y4, y5, rfl, rfl, hall⟩
      refine ⟨trivial, ?_⟩
      simp only [dseq, dasg, dasgG, dgsub, setL, dop, dun, dcb, dcons, dnil, dret, dretN, dnext, ddrop, diff, dif, dtest, dand, dor, dnot, dandV, dorV, dnotV, dchain, daug, dpar, dforS, dlc, dyes, dlst, dtup, dbm, fAppend, fPop, dvar, dc, fIx, fSl, dsl, dpart, dno, fI, fI0, fU, fAdd, fMul, fInt, fAbs, fLen, fMin2, fList, fEq, fIsN, gI, gB, lstOf, lstO, newl, dgname, dgtup, dgcons, dgnil, dirng1, dirng2, dilst, ditup, dienum, dizip, stays, startD, endD, dcallP, dcallN, fS, dfz, fzK, dbreak, dcont, wipeD, List.map_cons, List.map_nil, List.length_cons, List.length_nil, List.replicate, List.cons_append, List.nil_append, List.getElem?_cons_zero, List.getElem?_cons_succ, List.set_cons_zero, List.set_cons_succ, atI_zero, atI_one, atI_two, atI_three, ixN_zero, ixN_one, mset_same, mset_mset, mdel_mset, List.length_map, vw_one, Option.isSome_some, true_and, and_true, dmk, dmk0, dxf, disx, mkS, okX, diown, itV]
      refine dlc_map (as := ps) (f := pX) (v := fun q => .int (if sh q.1 = 0 then 1 else 2)) hm trivial ?_ fun q R hq hR => ?_
      · have er : ps.map (fun q => X.int (if sh q.1 = 0 then 1 else 2)) = (ps.map fun q => if sh q.1 = 0 then (1 : Int) else 2).map X.int := by rw [List.map_map]; rfl
        rw [er]
        have ea : ∀ e, e < ps.length → amt (ps.map fun q => if sh q.1 = 0 then (1 : Int) else 2) e = if sh (tl ps e) = 0 then 1 else 2 := fun e he => by
          unfold amt tl
          rw [List.getD_eq_getElem?_getD, List.getElem?_map, List.getElem?_eq_getElem he, List.getD_eq_getElem?_getD, List.getElem?_eq_getElem he]
          rfl
        have h01 : ∀ e, e < ps.length → sh (tl ps e) ≠ sh (hd ps e) ∧ sh (tl ps e) < 2 ∧ sh (hd ps e) < 2 := fun e he => ⟨hall e he, by rw [S.par _ (wf.tl he)]; omega, by rw [S.par _ (wf.hd he)]; omega⟩
        simp only [dseq, dasg, dasgG, dgsub, setL, dop, dun, dcb, dcons, dnil, dret, dretN, dnext, ddrop, diff, dif, dtest, dand, dor, dnot, dandV, dorV, dnotV, dchain, daug, dpar, dforS, dlc, dyes, dlst, dtup, dbm, fAppend, fPop, dvar, dc, fIx, fSl, dsl, dpart, dno, fI, fI0, fU, fAdd, fMul, fInt, fAbs, fLen, fMin2, fList, fEq, fIsN, gI, gB, lstOf, lstO, newl, dgname, dgtup, dgcons, dgnil, dirng1, dirng2, dilst, ditup, dienum, dizip, stays, startD, endD, dcallP, dcallN, fS, dfz, fzK, dbreak, dcont, wipeD, List.map_cons, List.map_nil, List.length_cons, List.length_nil, List.replicate, List.cons_append, List.nil_append, List.getElem?_cons_zero, List.getElem?_cons_succ, List.set_cons_zero, List.set_cons_succ, atI_zero, atI_one, atI_two, atI_three, ixN_zero, ixN_one, mset_same, mset_mset, mdel_mset, List.length_map, vw_one, Option.isSome_some, true_and, and_true, dmk, dmk0, dxf, disx, mkS, okX, dcallKN]
        refine ⟨n, ps, true, _, by rw [vw_gX, vw_lst, vw_int], hn, hm, by rw [List.length_map], wf, fun e he => ?_, fun v hv => shade_flow h01 ea v ?_, fun out ho hin hz => ?_⟩
        · rw [ea e he]
          split
          · exact .inl rfl
          · exact .inr rfl
        · rw [← deg_sum, h3 v hv]; rfl
        · refine ⟨line_ge (by decide), rt_pure ?_ (qf out ho (fun e he => ?_) hz)⟩
          · simp only [own, ownA, Bool.and_true, Bool.true_and]
            exact ownA_map _ (fun _ => rfl) _
          · obtain ⟨a1, a2⟩ := hin e he
            omega
      · have hq1 := (wf q hq).1
        simp only [dseq, dasg, dasgG, dgsub, setL, dop, dun, dcb, dcons, dnil, dret, dretN, dnext, ddrop, diff, dif, dtest, dand, dor, dnot, dandV, dorV, dnotV, dchain, daug, dpar, dforS, dlc, dyes, dlst, dtup, dbm, fAppend, fPop, dvar, dc, fIx, fSl, dsl, dpart, dno, fI, fI0, fU, fAdd, fMul, fInt, fAbs, fLen, fMin2, fList, fEq, fIsN, gI, gB, lstOf, lstO, newl, dgname, dgtup, dgcons, dgnil, dirng1, dirng2, dilst, ditup, dienum, dizip, stays, startD, endD, dcallP, dcallN, fS, dfz, fzK, dbreak, dcont, wipeD, List.map_cons, List.map_nil, List.length_cons, List.length_nil, List.replicate, List.cons_append, List.nil_append, List.getElem?_cons_zero, List.getElem?_cons_succ, List.set_cons_zero, List.set_cons_succ, atI_zero, atI_one, atI_two, atI_three, ixN_zero, ixN_one, mset_same, mset_mset, mdel_mset, List.length_map, vw_one, Option.isSome_some, true_and, and_true, dmk, dmk0, dxf, disx, mkS, okX, pX, rowX_at hq1]
        by_cases h0 : sh q.1 = 0
        · rw [if_pos h0] at hR
          have e1 : (false != decide (((sh q.1 : Nat) : Int) = 0)) = true := by rw [tt (by omega)]; rfl
          rw [e1]
          exact hR
        · rw [if_neg h0] at hR
          have e1 : (false != decide (((sh q.1 : Nat) : Int) = 0)) = false := by rw [ff (by omega)]; rfl
          rw [e1]
          exact hR
    · rintro i ⟨u, v⟩ δ M R hi ⟨y3, y4, y5, rfl, rfl, hall⟩ k
      refine ⟨trivial, ?_⟩
      obtain ⟨hiL, hie⟩ := List.getElem?_eq_some_iff.mp hi
      have huv := wf (u, v) (List.mem_of_getElem? hi)
      have hu : u < n := huv.1
      have hv : v < n := huv.2
      have et : tl ps i = u := by unfold tl; rw [List.getD_eq_getElem?_getD, hi]; rfl
      have eh : hd ps i = v := by unfold hd; rw [List.getD_eq_getElem?_getD, hi]; rfl
      simp only [dseq, dasg, dasgG, dgsub, setL, dop, dun, dcb, dcons, dnil, dret, dretN, dnext, ddrop, diff, dif, dtest, dand, dor, dnot, dandV, dorV, dnotV, dchain, daug, dpar, dforS, dlc, dyes, dlst, dtup, dbm, fAppend, fPop, dvar, dc, fIx, fSl, dsl, dpart, dno, fI, fI0, fU, fAdd, fMul, fInt, fAbs, fLen, fMin2, fList, fEq, fIsN, gI, gB, lstOf, lstO, newl, dgname, dgtup, dgcons, dgnil, dirng1, dirng2, dilst, ditup, dienum, dizip, stays, startD, endD, dcallP, dcallN, fS, dfz, fzK, dbreak, dcont, wipeD, List.map_cons, List.map_nil, List.length_cons, List.length_nil, List.replicate, List.cons_append, List.nil_append, List.getElem?_cons_zero, List.getElem?_cons_succ, List.set_cons_zero, List.set_cons_succ, atI_zero, atI_one, atI_two, atI_three, ixN_zero, ixN_one, mset_same, mset_mset, mdel_mset, List.length_map, vw_one, Option.isSome_some, true_and, and_true, dmk, dmk0, dxf, disx, mkS, okX, pX, rowX_at hu, rowX_at hv]
      by_cases hs : sh u = sh v
      · have e1 : (false != decide (((sh u : Nat) : Int) = ((sh v : Nat) : Int))) = true := by rw [tt (by omega)]; rfl
        rw [e1]
        refine ⟨n, i, u, v, true, cm, by rw [vw_lst, vw_int, vw_int, vw_int], hu, hv, fun w hw => Nat.le_trans (S.len w hw) hn, fun k' k1 k2 k3 k4 => ?_⟩
        refine ⟨line_ge (by decide), rt_pure ?_ ?_⟩
        · simp only [stepsX, own, ownA, own_sX, Bool.and_self]
        · have hs' : sh (tl ps i) = sh (hd ps i) := by rw [et, eh]; exact hs
          have hc := odd_cycle wf S hiL hs' (k := k') (by rw [et]; exact k1) (by rw [eh]; exact k2) (by rw [et, eh]; exact k3) (by rw [et, eh]; exact k4)
          rw [et, eh] at hc
          exact qc _ hc (no_halves wf S hiL hs')
      · have e1 : (false != decide (((sh u : Nat) : Int) = ((sh v : Nat) : Int))) = false := by rw [ff (by omega)]; rfl
        rw [e1]
        refine k _ _ ⟨_, _, _, rfl, rfl, fun e he => ?_⟩
        by_cases h : e = i
        · rw [h, et, eh]; exact hs
        · exact hall e (by omega)
end
end K53


set_option maxRecDepth 100000
set_option maxHeartbeats 0
namespace K53
open PySem PySem.Spec PyProof.Rows L2 DL Fl
section
variable {P : Program} {w : World} {K : PySem.W.Frag} {mg : Str → Option Value} {base : Heap} {C : Addr}
/-! ### the law's own helpers: the state, the next number -/
theorem pow10_18 : (10 : Int) ^ (18 : Int).toNat = 1000000000000000000 := by decide
def f_cell : PF := fun xs Q _ => ∃ (ns : List Int) (k : Int), xs = [.scr ns, .int k] ∧ 0 ≤ k ∧ ∀ c, Q (.int c)
abbrev s_law_cell : Stmt := topS 34
theorem sc_law_cell : FnScope ["script", "k"] ["script", "k"] (defScope s_law_cell) := ⟨rfl, rfl, rfl, by decide +kernel, rfl, by decide +kernel, by decide +kernel⟩
theorem cal_law_cell (B : Blt2 mg) (D : Def K mg "_law_cell" s_law_cell) : Cal true P w K mg base CX0 "_law_cell" 1 ["script", "k"] (PFd f_cell) := by
  refine Cal.mk' D (fun _ _ _ _ _ _ us hl => match us, hl with | [_, _], _ => rfl) fun f fdt F => fnD F sc_law_cell (fun xs M Q E h => ?len) fun cdv A outer s H E hr => ⟨_,
    ((pssd_cons (psd_if (ptd_cmp op_lt snd_B (pd_var 1) (pd_callB call_len_seq snd_len (by rfl) B.len PySem.boot_len (pad_cons (pd_var 0) pad_nil)) (nomark _))
(pssd_one (psd_ret (pd_ix (pd_var 0) (pd_var 1))))
pssd_nil)
(pssd_one (psd_ret pd_int)))), fun xs M Qd Ed h => ?rd⟩
  case len =>
    obtain ⟨_, ns, k, rfl, _⟩ := h
    rfl
  case rd =>
    obtain ⟨rfl, ns, k, rfl, hk, q⟩ := h
    simp only [dseq, dasg, dasgG, dgsub, setL, dop, dun, dcb, dcons, dnil, dret, dretN, dnext, ddrop, diff, dif, dtest, dand, dor, dnot, dandV, dorV, dnotV, dchain, daug, dpar, dforS, dlc, dyes, dlst, dtup, dbm, fAppend, fPop, dvar, dc, fIx, fSl, dsl, dpart, dno, fI, fI0, fU, fAdd, fMul, fInt, fAbs, fLen, fMin2, fList, fEq, fIsN, gI, gB, lstOf, lstO, newl, dgname, dgtup, dgcons, dgnil, dirng1, dirng2, dilst, ditup, dienum, dizip, stays, startD, endD, dcallP, dcallN, fS, dfz, fzK, dbreak, dcont, wipeD, List.map_cons, List.map_nil, List.length_cons, List.length_nil, List.replicate, List.cons_append, List.nil_append, List.getElem?_cons_zero, List.getElem?_cons_succ, List.set_cons_zero, List.set_cons_succ, atI_zero, atI_one, atI_two, atI_three, ixN_zero, ixN_one, mset_same, mset_mset, mdel_mset, List.length_map, vw_one, Option.isSome_some, true_and, and_true, dmk, dmk0, dxf, disx, mkS, okX]
    by_cases hl : k < ns.length
    · rw [decide_eq_true hl]
      simp only [dseq, dasg, dasgG, dgsub, setL, dop, dun, dcb, dcons, dnil, dret, dretN, dnext, ddrop, diff, dif, dtest, dand, dor, dnot, dandV, dorV, dnotV, dchain, daug, dpar, dforS, dlc, dyes, dlst, dtup, dbm, fAppend, fPop, dvar, dc, fIx, fSl, dsl, dpart, dno, fI, fI0, fU, fAdd, fMul, fInt, fAbs, fLen, fMin2, fList, fEq, fIsN, gI, gB, lstOf, lstO, newl, dgname, dgtup, dgcons, dgnil, dirng1, dirng2, dilst, ditup, dienum, dizip, stays, startD, endD, dcallP, dcallN, fS, dfz, fzK, dbreak, dcont, wipeD, List.map_cons, List.map_nil, List.length_cons, List.length_nil, List.replicate, List.cons_append, List.nil_append, List.getElem?_cons_zero, List.getElem?_cons_succ, List.set_cons_zero, List.set_cons_succ, atI_zero, atI_one, atI_two, atI_three, ixN_zero, ixN_one, mset_same, mset_mset, mdel_mset, List.length_map, vw_one, Option.isSome_some, true_and, and_true, dmk, dmk0, dxf, disx, mkS, okX, atI_map X.int hk hl 0]
      exact rt_pure rfl (q _)
    · rw [decide_eq_false hl]
      exact rt_pure rfl (q _)
def f_numbers : NF := fun xs Q _ => ∃ (c m : Int), xs = [.int c, .int m] ∧ 0 ≤ m ∧ m ≤ 1000 ∧ ∀ zs : List Int, zs.length = m.toNat → (∀ z ∈ zs, 0 ≤ z ∧ z < 1000) → Q (zs.map .int)
theorem mono_law_numbers : MonoN f_numbers := fun _ _ _ _ h ⟨c, m, e, h0, h1, q⟩ => ⟨c, m, e, h0, h1, fun zs a b => h _ (q zs a b)⟩
theorem cdiv_k {rest : Int} : CDiv rest 1000 := ⟨by decide, by decide⟩
theorem cpow18 : CPow 10 18 := ⟨by decide, by decide, by decide⟩
theorem cmul_r {a b : Int} (h : b.natAbs < 1000000000000) : CMul a b := .inr ⟨by omega, by omega⟩
theorem cmul_l {a b : Int} (h : a.natAbs < 1000000000000) : CMul a b := .inl ⟨by omega, by omega⟩
theorem emod_small {x m : Int} (h : 0 < m) (h2 : m < 1000000000000) : (x % m).natAbs < 1000000000000 := by
  have h3 := Int.emod_nonneg x (show m ≠ 0 by omega)
  have h4 := Int.emod_lt_of_pos x h
  omega
abbrev s_law_numbers : Stmt := topS 35
theorem sc_law_numbers : FnScope ["cell", "many", "rest", "whole", "numbers", "k", "mixed"] ["cell", "many"] (defScope s_law_numbers) := ⟨rfl, rfl, rfl, by decide +kernel, rfl, by decide +kernel, by decide +kernel⟩
theorem cal_law_numbers (B : Blt2 mg) (D : Def K mg "_law_numbers" s_law_numbers) : Cal true P w K mg base CX0 "_law_numbers" 1 ["cell", "many"] (NFd f_numbers) := by
  refine Cal.mk' D (fun _ _ _ _ _ _ us hl => match us, hl with | [_, _], _ => rfl) fun f fdt F => fnD F sc_law_numbers (fun xs M Q E h => ?len) fun cdv A outer s H E hr => ⟨_,
    ((pssd_cons (psd_set 2 sc_law_numbers.nd (pd_callB call_abs snd_abs (by rfl) B.abs (by decide +kernel) (pad_cons (pd_var 0) pad_nil)))
(pssd_cons (psd_set 3 sc_law_numbers.nd (pd_var 2))
(pssd_cons (psd_set 4 sc_law_numbers.nd (pd_lst true pad_nil))
(pssd_cons (psd_for anti0 PassesOwn.never rfl (pid_range1 (by rfl) B.range (pad_cons (pd_var 1) pad_nil)) (pgd_name 5 sc_law_numbers.nd)
(pssd_one (psd_if (pwd_and (ptd_cmp op_ge snd_B (pd_var 3) (pd_pow pd_int pd_int) (nomark _)) (pwd_and1 (ptd_cmp op_gt snd_B (pd_var 2) pd_int (nomark _)))).pt
(pssd_cons (psd_expr (pd_bm PySem.F.slot_list_append PySem.F.type_list_append mt_append snd_append (pd_var 4) (pad_cons (pd_mod (pd_callTy call_int1 snd_int (by rfl) B.int (by decide +kernel) (pad_cons (pd_var 2) pad_nil)) pd_int) pad_nil)))
(pssd_one (psd_set 2 sc_law_numbers.nd (pd_fdiv (pd_var 2) pd_int))))
(pssd_cons (psd_set 6 sc_law_numbers.nd (pd_mod (pd_callTy call_int1 snd_int (by rfl) B.int (by decide +kernel) (pad_cons (pd_add false (pd_add false (pd_mul false (pd_var 3) pd_int) (pd_mul false (pd_var 5) pd_int)) pd_int) pad_nil)) pd_int))
(pssd_cons (psd_set 6 sc_law_numbers.nd (pd_mod (pd_callTy call_int1 snd_int (by rfl) B.int (by decide +kernel) (pad_cons (pd_add false (pd_add false (pd_mul false (pd_var 6) (pd_var 6)) (pd_mul false pd_int (pd_var 5))) pd_int) pad_nil)) pd_int))
(pssd_one (psd_expr (pd_bm PySem.F.slot_list_append PySem.F.type_list_append mt_append snd_append (pd_var 4) (pad_cons (pd_mod (pd_callTy call_int1 snd_int (by rfl) B.int (by decide +kernel) (pad_cons (pd_fdiv (pd_var 6) pd_int) pad_nil)) pd_int) pad_nil)))))))))
(pssd_one (psd_ret (pd_var 4)))))))), fun xs M Qd Ed h => ?rd⟩
  case len =>
    obtain ⟨_, c, m, rfl, _⟩ := h
    rfl
  case rd =>
    obtain ⟨rfl, c, m, rfl, h0, h1, q⟩ := h
    simp only [dseq, dasg, dasgG, dgsub, setL, dop, dun, dcb, dcons, dnil, dret, dretN, dnext, ddrop, diff, dif, dtest, dand, dor, dnot, dandV, dorV, dnotV, dchain, daug, dpar, dforS, dlc, dyes, dlst, dtup, dbm, fAppend, fPop, dvar, dc, fIx, fSl, dsl, dpart, dno, fI, fI0, fU, fAdd, fMul, fInt, fAbs, fLen, fMin2, fList, fEq, fIsN, gI, gB, lstOf, lstO, newl, dgname, dgtup, dgcons, dgnil, dirng1, dirng2, dilst, ditup, dienum, dizip, stays, startD, endD, dcallP, dcallN, fS, dfz, fzK, dbreak, dcont, wipeD, List.map_cons, List.map_nil, List.length_cons, List.length_nil, List.replicate, List.cons_append, List.nil_append, List.getElem?_cons_zero, List.getElem?_cons_succ, List.set_cons_zero, List.set_cons_succ, atI_zero, atI_one, atI_two, atI_three, ixN_zero, ixN_one, mset_same, mset_mset, mdel_mset, List.length_map, vw_one, Option.isSome_some, true_and, and_true, dmk, dmk0, dxf, disx, mkS, okX]
    refine ⟨Nat.zero_le _, fun p hp => ⟨by omega, by omega, ?_⟩⟩
    generalize (if c < 0 then -c else c) = a
    refine dfor_rng (fun i δ M => ∃ (rest : Int) (y5 y6 : Option X) (zs : List Int), δ = [some (.int c), some (.int m), some (.int rest), some (.int a), some (.ptr p), y5, y6] ∧ zs.length = i ∧ (∀ z ∈ zs, 0 ≤ z ∧ z < 1000) ∧ M = mset m0 p (.lst (zs.map .int)))
      ⟨a, none, none, [], rfl, rfl, by simp, rfl⟩ ?_ ?_
    · rintro δ M ⟨rest, y5, y6, zs, rfl, hl, hz, rfl⟩
      simp only [dseq, dasg, dasgG, dgsub, setL, dop, dun, dcb, dcons, dnil, dret, dretN, dnext, ddrop, diff, dif, dtest, dand, dor, dnot, dandV, dorV, dnotV, dchain, daug, dpar, dforS, dlc, dyes, dlst, dtup, dbm, fAppend, fPop, dvar, dc, fIx, fSl, dsl, dpart, dno, fI, fI0, fU, fAdd, fMul, fInt, fAbs, fLen, fMin2, fList, fEq, fIsN, gI, gB, lstOf, lstO, newl, dgname, dgtup, dgcons, dgnil, dirng1, dirng2, dilst, ditup, dienum, dizip, stays, startD, endD, dcallP, dcallN, fS, dfz, fzK, dbreak, dcont, wipeD, List.map_cons, List.map_nil, List.length_cons, List.length_nil, List.replicate, List.cons_append, List.nil_append, List.getElem?_cons_zero, List.getElem?_cons_succ, List.set_cons_zero, List.set_cons_succ, atI_zero, atI_one, atI_two, atI_three, ixN_zero, ixN_one, mset_same, mset_mset, mdel_mset, List.length_map, vw_one, Option.isSome_some, true_and, and_true, dmk, dmk0, dxf, disx, mkS, okX]
      exact rt_new mset_same (ownA_map _ (fun _ => rfl) _) (q zs hl hz p rfl)
    · rintro i δ M R hi ⟨rest, y5, y6, zs, rfl, hl, hz, rfl⟩ k
      simp only [dseq, dasg, dasgG, dgsub, setL, dop, dun, dcb, dcons, dnil, dret, dretN, dnext, ddrop, diff, dif, dtest, dand, dor, dnot, dandV, dorV, dnotV, dchain, daug, dpar, dforS, dlc, dyes, dlst, dtup, dbm, fAppend, fPop, dvar, dc, fIx, fSl, dsl, dpart, dno, fI, fI0, fU, fAdd, fMul, fInt, fAbs, fLen, fMin2, fList, fEq, fIsN, gI, gB, lstOf, lstO, newl, dgname, dgtup, dgcons, dgnil, dirng1, dirng2, dilst, ditup, dienum, dizip, stays, startD, endD, dcallP, dcallN, fS, dfz, fzK, dbreak, dcont, wipeD, List.map_cons, List.map_nil, List.length_cons, List.length_nil, List.replicate, List.cons_append, List.nil_append, List.getElem?_cons_zero, List.getElem?_cons_succ, List.set_cons_zero, List.set_cons_succ, atI_zero, atI_one, atI_two, atI_three, ixN_zero, ixN_one, mset_same, mset_mset, mdel_mset, List.length_map, vw_one, Option.isSome_some, true_and, and_true, dmk, dmk0, dxf, disx, mkS, okX]
      have app : ∀ v : Int, 0 ≤ v → v < 1000 → ∀ z ∈ zs ++ [v], 0 ≤ z ∧ z < 1000 := fun v h1 h2 z hm => by
        rcases List.mem_append.mp hm with h | h
        · exact hz z h
        · rw [List.mem_singleton.mp h]; exact ⟨h1, h2⟩
      refine ⟨cpow18, ?_⟩
      have other : ∀ v1 v2 : Int, CMul a 48271 ∧ CMul (↑i) 69621 ∧ (0 : Int) < 2147483647 ∧ CMul ((a * 48271 + ↑i * 69621 + 11) % 2147483647) ((a * 48271 + ↑i * 69621 + 11) % 2147483647) ∧ CMul 40692 ↑i ∧ (0 : Int) < 2147483629 ∧ CDiv v1 7 ∧ (0 : Int) < 1000 ∧ zs.length < sizeLine ∧
          R [some (X.int c), some (X.int m), some (X.int rest), some (X.int a), some (X.ptr p), some (X.int ↑i), some (X.int v1)] (mset m0 p (Cell.lst (List.map X.int zs ++ [X.int (v2 % 1000)]))) := fun v1 v2 =>
        ⟨cmul_r (by decide), cmul_r (by decide), by decide, cmul_l (emod_small (by decide) (by decide)), cmul_l (by decide), by decide, ⟨by decide, by decide⟩, by decide, line_gt (by omega), k _ _ ⟨rest, _, _, zs ++ [v2 % 1000], rfl, by simp [hl], app _ (Int.emod_nonneg _ (by decide)) (Int.emod_lt_of_pos _ (by decide)), by rw [List.map_append]; rfl⟩⟩
      generalize (decide ((10 : Int) ^ (18 : Int).toNat ≤ a)) = b1
      cases b1 with
      | true =>
        generalize (decide (0 < rest)) = b2
        simp only [dseq, dasg, dasgG, dgsub, setL, dop, dun, dcb, dcons, dnil, dret, dretN, dnext, ddrop, diff, dif, dtest, dand, dor, dnot, dandV, dorV, dnotV, dchain, daug, dpar, dforS, dlc, dyes, dlst, dtup, dbm, fAppend, fPop, dvar, dc, fIx, fSl, dsl, dpart, dno, fI, fI0, fU, fAdd, fMul, fInt, fAbs, fLen, fMin2, fList, fEq, fIsN, gI, gB, lstOf, lstO, newl, dgname, dgtup, dgcons, dgnil, dirng1, dirng2, dilst, ditup, dienum, dizip, stays, startD, endD, dcallP, dcallN, fS, dfz, fzK, dbreak, dcont, wipeD, List.map_cons, List.map_nil, List.length_cons, List.length_nil, List.replicate, List.cons_append, List.nil_append, List.getElem?_cons_zero, List.getElem?_cons_succ, List.set_cons_zero, List.set_cons_succ, atI_zero, atI_one, atI_two, atI_three, ixN_zero, ixN_one, mset_same, mset_mset, mdel_mset, List.length_map, vw_one, Option.isSome_some, true_and, and_true, dmk, dmk0, dxf, disx, mkS, okX]
        cases b2 with
        | true =>
          refine ⟨by decide, line_gt (by omega), cdiv_k, k _ _ ⟨rest / 1000, _, _, zs ++ [rest % 1000], rfl, by simp [hl], app _ (Int.emod_nonneg _ (by decide)) (Int.emod_lt_of_pos _ (by decide)), ?_⟩⟩
          rw [List.map_append]; rfl
        | false => exact other _ _
      | false => exact other _ _
/-- a state as it is made -/
def NumsOk (nums : List Int) : Prop := 0 < nums.length ∧ nums.length ≤ 100000
def f_state : NF := fun xs Q _ => ∃ (ns : List Int) (a m : Int), xs = [.scr ns, .int a, .int m] ∧ 0 ≤ a ∧ a ≤ 1000 ∧ 0 < m ∧ m ≤ 1000 ∧ ∀ nums : List Int, NumsOk nums → Q [.lst true (nums.map .int), .int 0]
theorem mono_law_state : MonoN f_state := fun _ _ _ _ h ⟨ns, a, m, e, h0, h1, h2, h3, q⟩ => ⟨ns, a, m, e, h0, h1, h2, h3, fun zs a => h _ (q zs a)⟩
abbrev s_law_state : Stmt := topS 36
theorem sc_law_state : FnScope ["script", "start", "many", "numbers", "k", "cell"] ["script", "start", "many"] (defScope s_law_state) := ⟨rfl, rfl, rfl, by decide +kernel, rfl, by decide +kernel, by decide +kernel⟩
theorem cal_law_state (B : Blt2 mg) (D : Def K mg "_law_state" s_law_state) (c_law_cell : Cal true P w K mg base CX0 "_law_cell" 1 ["script", "k"] (PFd f_cell)) (c_law_numbers : Cal true P w K mg base CX0 "_law_numbers" 1 ["cell", "many"] (NFd f_numbers)) : Cal true P w K mg base CX0 "_law_state" 2 ["script", "start", "many"] (NFd f_state) := by
  refine Cal.mk' D (fun _ _ _ _ _ _ us hl => match us, hl with | [_, _, _], _ => rfl) fun f fdt F => fnD F sc_law_state (fun xs M Q E h => ?len) fun cdv A outer s H E hr => ⟨_,
    ((pssd_cons (psd_set 3 sc_law_state.nd (pd_lst false pad_nil))
(pssd_cons (psd_for anti0 PassesOwn.never rfl (pid_range2 (by rfl) B.range (pad_cons (pd_var 1) (pad_cons (pd_add false (pd_var 1) (pd_var 2)) pad_nil))) (pgd_name 4 sc_law_state.nd)
(pssd_cons (psd_set 5 sc_law_state.nd (pd_cP 2 c_law_cell (hr.mono (by decide)) pass0 we0 (pad_cons (pd_var 0) (pad_cons (pd_var 4) pad_nil))))
(pssd_cons (psd_if (ptd_cmp op_lt snd_B (pd_callB call_abs snd_abs (by rfl) B.abs (by decide +kernel) (pad_cons (pd_var 5) pad_nil)) (pd_pow pd_int pd_int) (nomark _))
(pssd_one (psd_set 5 sc_law_state.nd (pd_add false (pd_mul false (pd_var 5) pd_int) (pd_var 4))))
pssd_nil)
(pssd_one (psd_set 3 sc_law_state.nd (pd_add false (pd_var 3) (pd_cNF 2 mono_law_numbers c_law_numbers (hr.mono (by decide)) pass0 we0 (pad_cons (pd_var 5) (pad_cons pd_int pad_nil)))))))))
(pssd_one (psd_ret (pd_lst true (pad_cons (pd_var 3) (pad_cons pd_int pad_nil)))))))), fun xs M Qd Ed h => ?rd⟩
  case len =>
    obtain ⟨_, ns, a, m, rfl, _⟩ := h
    rfl
  case rd =>
    obtain ⟨rfl, ns, a, m, rfl, h0, h1, h2, h3, q⟩ := h
    simp only [dseq, dasg, dasgG, dgsub, setL, dop, dun, dcb, dcons, dnil, dret, dretN, dnext, ddrop, diff, dif, dtest, dand, dor, dnot, dandV, dorV, dnotV, dchain, daug, dpar, dforS, dlc, dyes, dlst, dtup, dbm, fAppend, fPop, dvar, dc, fIx, fSl, dsl, dpart, dno, fI, fI0, fU, fAdd, fMul, fInt, fAbs, fLen, fMin2, fList, fEq, fIsN, gI, gB, lstOf, lstO, newl, dgname, dgtup, dgcons, dgnil, dirng1, dirng2, dilst, ditup, dienum, dizip, stays, startD, endD, dcallP, dcallN, fS, dfz, fzK, dbreak, dcont, wipeD, List.map_cons, List.map_nil, List.length_cons, List.length_nil, List.replicate, List.cons_append, List.nil_append, List.getElem?_cons_zero, List.getElem?_cons_succ, List.set_cons_zero, List.set_cons_succ, atI_zero, atI_one, atI_two, atI_three, ixN_zero, ixN_one, mset_same, mset_mset, mdel_mset, List.length_map, vw_one, Option.isSome_some, true_and, and_true, dmk, dmk0, dxf, disx, mkS, okX]
    refine ⟨Nat.zero_le _, ⟨by omega, by omega, by omega, by omega⟩, ?_⟩
    refine dfor_rng (fun i δ M => ∃ (y4 y5 : Option X) (zs : List Int), δ = [some (.scr ns), some (.int a), some (.int m), some (.lst true (zs.map .int)), y4, y5] ∧ zs.length = i * 20 ∧ M = m0)
      ⟨none, none, [], rfl, rfl, rfl⟩ ?_ ?_
    · rintro δ M ⟨y4, y5, zs, rfl, hl, rfl⟩
      simp only [dseq, dasg, dasgG, dgsub, setL, dop, dun, dcb, dcons, dnil, dret, dretN, dnext, ddrop, diff, dif, dtest, dand, dor, dnot, dandV, dorV, dnotV, dchain, daug, dpar, dforS, dlc, dyes, dlst, dtup, dbm, fAppend, fPop, dvar, dc, fIx, fSl, dsl, dpart, dno, fI, fI0, fU, fAdd, fMul, fInt, fAbs, fLen, fMin2, fList, fEq, fIsN, gI, gB, lstOf, lstO, newl, dgname, dgtup, dgcons, dgnil, dirng1, dirng2, dilst, ditup, dienum, dizip, stays, startD, endD, dcallP, dcallN, fS, dfz, fzK, dbreak, dcont, wipeD, List.map_cons, List.map_nil, List.length_cons, List.length_nil, List.replicate, List.cons_append, List.nil_append, List.getElem?_cons_zero, List.getElem?_cons_succ, List.set_cons_zero, List.set_cons_succ, atI_zero, atI_one, atI_two, atI_three, ixN_zero, ixN_one, mset_same, mset_mset, mdel_mset, List.length_map, vw_one, Option.isSome_some, true_and, and_true, dmk, dmk0, dxf, disx, mkS, okX]
      refine ⟨by decide, fun p hp => rt_new mset_same ?_ (q zs ?_ p rfl)⟩
      · simp only [ownA, own, ownA_map X.int (fun _ => rfl), Bool.and_self]
      · have : (a + m - a).toNat = m.toNat := by rw [Int.add_comm, Int.add_sub_cancel]
        rw [this] at hl
        constructor <;> omega
    · rintro i δ M R hi ⟨y4, y5, zs, rfl, hl, rfl⟩ k
      have hi' : i < 1000 := by omega
      simp only [dseq, dasg, dasgG, dgsub, setL, dop, dun, dcb, dcons, dnil, dret, dretN, dnext, ddrop, diff, dif, dtest, dand, dor, dnot, dandV, dorV, dnotV, dchain, daug, dpar, dforS, dlc, dyes, dlst, dtup, dbm, fAppend, fPop, dvar, dc, fIx, fSl, dsl, dpart, dno, fI, fI0, fU, fAdd, fMul, fInt, fAbs, fLen, fMin2, fList, fEq, fIsN, gI, gB, lstOf, lstO, newl, dgname, dgtup, dgcons, dgnil, dirng1, dirng2, dilst, ditup, dienum, dizip, stays, startD, endD, dcallP, dcallN, fS, dfz, fzK, dbreak, dcont, wipeD, List.map_cons, List.map_nil, List.length_cons, List.length_nil, List.replicate, List.cons_append, List.nil_append, List.getElem?_cons_zero, List.getElem?_cons_succ, List.set_cons_zero, List.set_cons_succ, atI_zero, atI_one, atI_two, atI_three, ixN_zero, ixN_one, mset_same, mset_mset, mdel_mset, List.length_map, vw_one, Option.isSome_some, true_and, and_true, dmk, dmk0, dxf, disx, mkS, okX, vw]
      refine ⟨ns, a + i, rfl, by omega, fun c => ⟨cpow18, ?_⟩⟩
      generalize (if c < 0 then -c else c) = d
      have fin : ∀ c' : Int, f_numbers [.int c', .int 20] (fun zs_1 => (zs.map X.int).length + zs_1.length ≤ sizeLine ∧ R [some (.scr ns), some (.int a), some (.int m), some (.lst true (zs.map X.int ++ zs_1)), some (.int (a + i)), some (.int c')] m0) (fun _ _ _ => False) := fun c' => by
        refine ⟨c', 20, rfl, by decide, by decide, fun ws hw _ => ⟨?_, ?_⟩⟩
        · rw [List.length_map, List.length_map, hw, sizeLine_eq]
          show zs.length + 20 ≤ 16777216
          omega
        · rw [← List.map_append]
          refine k _ _ ⟨_, _, zs ++ ws, rfl, ?_, rfl⟩
          rw [List.length_append, hl, hw]
          show i * 20 + 20 = _
          omega
      rw [List.length_map] at fin
      generalize (decide (d < (10 : Int) ^ (18 : Int).toNat)) = b1
      cases b1 with
      | true =>
        refine ⟨cmul_r (by decide), fin _⟩
      | false => exact fin _
/-- the next number -/
def nxt (nums : List Int) (k n : Int) : Int := (nums.getD (k % nums.length).toNat 0 + k / nums.length * 7) % n
theorem nxt_ge {nums : List Int} {k n : Int} (h : 0 < n) : 0 ≤ nxt nums k n := Int.emod_nonneg _ (by omega)
theorem nxt_lt {nums : List Int} {k n : Int} (h : 0 < n) : nxt nums k n < n := Int.emod_lt_of_pos _ h
def f_next : SF := fun nums k r P => ∃ n : Int, r = [.int n] ∧ 0 < n ∧ NumsOk nums ∧ P (.int (nxt nums k n)) (k + 1)
abbrev s_law_next : Stmt := topS 37
theorem sc_law_next : FnScope ["state", "many", "numbers", "place"] ["state", "many"] (defScope s_law_next) := ⟨rfl, rfl, rfl, by decide +kernel, rfl, by decide +kernel, by decide +kernel⟩
theorem cal_law_next (B : Blt2 mg) (D : Def K mg "_law_next" s_law_next) : Cal true P w K mg base CX0 "_law_next" 1 ["state", "many"] (SFd f_next) := by
  refine Cal.mk' D (fun _ _ _ _ _ _ us hl => match us, hl with | [_, _], _ => rfl) fun f fdt F => fnD F sc_law_next (fun xs M Q E h => ?len) fun cdv A outer s H E hr => ⟨_,
    ((pssd_cons (psd_set 2 sc_law_next.nd (pd_ix (pd_var 0) pd_int))
(pssd_cons (psd_set 3 sc_law_next.nd (pd_ix (pd_var 0) pd_int))
(pssd_cons (psd_asg (pd_add false (pd_var 3) pd_int) (pgd_sub (pd_var 0) pd_int))
(pssd_one (psd_ret (pd_mod (pd_callTy call_int1 snd_int (by rfl) B.int (by decide +kernel) (pad_cons (pd_add false (pd_ix (pd_var 2) (pd_mod (pd_var 3) (pd_callB call_len_seq snd_len (by rfl) B.len PySem.boot_len (pad_cons (pd_var 2) pad_nil)))) (pd_mul false (pd_fdiv (pd_var 3) (pd_callB call_len_seq snd_len (by rfl) B.len PySem.boot_len (pad_cons (pd_var 2) pad_nil))) pd_int)) pad_nil)) (pd_var 1)))))))), fun xs M Qd Ed h => ?rd⟩
  case len =>
    obtain ⟨st, nums, k, r, rfl, _, _, n, rfl, _⟩ := h
    rfl
  case rd =>
    obtain ⟨st, nums, k, r, rfl, h0, hM, n, rfl, hn, ⟨hl, hl2⟩, q⟩ := h
    have hk : atI (nums.map X.int) (k % nums.length) = some (.int (nums.getD (k % nums.length).toNat 0)) := atI_map X.int (Int.emod_nonneg _ (by omega)) (Int.emod_lt_of_pos _ (by omega)) 0
    simp only [DL.stC] at hM
    simp only [dseq, dasg, dasgG, dgsub, setL, dop, dun, dcb, dcons, dnil, dret, dretN, dnext, ddrop, diff, dif, dtest, dand, dor, dnot, dandV, dorV, dnotV, dchain, daug, dpar, dforS, dlc, dyes, dlst, dtup, dbm, fAppend, fPop, dvar, dc, fIx, fSl, dsl, dpart, dno, fI, fI0, fU, fAdd, fMul, fInt, fAbs, fLen, fMin2, fList, fEq, fIsN, gI, gB, lstOf, lstO, newl, dgname, dgtup, dgcons, dgnil, dirng1, dirng2, dilst, ditup, dienum, dizip, stays, startD, endD, dcallP, dcallN, fS, dfz, fzK, dbreak, dcont, wipeD, List.map_cons, List.map_nil, List.length_cons, List.length_nil, List.replicate, List.cons_append, List.nil_append, List.getElem?_cons_zero, List.getElem?_cons_succ, List.set_cons_zero, List.set_cons_succ, atI_zero, atI_one, atI_two, atI_three, ixN_zero, ixN_one, mset_same, mset_mset, mdel_mset, List.length_map, vw_one, Option.isSome_some, true_and, and_true, dmk, dmk0, dxf, disx, mkS, okX, hM, hk]
    exact ⟨by omega, ⟨by omega, by omega⟩, cmul_r (by decide), hn, rt_st h0 mset_same rfl q⟩

/-! ### the law's helpers -/
def f_shuf : SF := fun nums k r P => ∃ m : Nat, r = [nX m] ∧ m ≤ 1000 ∧ NumsOk nums ∧ ∀ (row : List Nat) (k' : Int), row.Perm (List.range m) → P (.lst true (row.map nX)) k'
theorem nxtN {nums : List Int} {k : Int} {m : Nat} (h : 0 < m) : ∃ j : Nat, j < m ∧ nxt nums k (m : Int) = (j : Int) := by
  have h1 := nxt_ge (nums := nums) (k := k) (n := (m : Int)) (by omega)
  have h2 := nxt_lt (nums := nums) (k := k) (n := (m : Int)) (by omega)
  exact ⟨(nxt nums k (m : Int)).toNat, by omega, by omega⟩
abbrev s_law_shuffled : Stmt := topS 38
theorem sc_law_shuffled : FnScope ["state", "many", "row", "k", "other", "kept"] ["state", "many"] (defScope s_law_shuffled) := ⟨rfl, rfl, rfl, by decide +kernel, rfl, by decide +kernel, by decide +kernel⟩
theorem cal_law_shuffled (B : Blt2 mg) (D : Def K mg "_law_shuffled" s_law_shuffled) (c_law_next : Cal true P w K mg base CX0 "_law_next" 1 ["state", "many"] (SFd f_next)) : Cal true P w K mg base CX0 "_law_shuffled" 2 ["state", "many"] (SFd f_shuf) := by
  refine Cal.mk' D (fun _ _ _ _ _ _ us hl => match us, hl with | [_, _], _ => rfl) fun f fdt F => fnD F sc_law_shuffled (fun xs M Q E h => ?len) fun cdv A outer s H E hr => ⟨_,
    ((pssd_cons (psd_set 2 sc_law_shuffled.nd (pd_listrange true rfl B.list B.range (pd_var 1)))
(pssd_cons (psd_for anti0 PassesOwn.never rfl (pid_range1 (by rfl) B.range (pad_cons (pd_var 1) pad_nil)) (pgd_name 3 sc_law_shuffled.nd)
(pssd_cons (psd_set 4 sc_law_shuffled.nd (pd_cS 2 c_law_next (hr.mono (by decide)) pass0 (pad_cons (pd_var 0) (pad_cons (pd_add false (pd_var 3) pd_int) pad_nil))))
(pssd_cons (psd_set 5 sc_law_shuffled.nd (pd_ix (pd_var 2) (pd_var 3)))
(pssd_cons (psd_asg (pd_ix (pd_var 2) (pd_var 4)) (pgd_sub (pd_var 2) (pd_var 3)))
(pssd_one (psd_asg (pd_var 5) (pgd_sub (pd_var 2) (pd_var 4))))))))
(pssd_one (psd_ret (pd_fz (pd_var 2))))))), fun xs M Qd Ed h => ?rd⟩
  case len =>
    obtain ⟨st, nums, k, r, rfl, _, _, m, rfl, _⟩ := h
    rfl
  case rd =>
    obtain ⟨st, nums, k, r, rfl, h0, hM, m, rfl, hm, hn, q⟩ := h
    simp only [dseq, dasg, dasgG, dgsub, setL, dop, dun, dcb, dcons, dnil, dret, dretN, dnext, ddrop, diff, dif, dtest, dand, dor, dnot, dandV, dorV, dnotV, dchain, daug, dpar, dforS, dlc, dyes, dlst, dtup, dbm, fAppend, fPop, dvar, dc, fIx, fSl, dsl, dpart, dno, fI, fI0, fU, fAdd, fMul, fInt, fAbs, fLen, fMin2, fList, fEq, fIsN, gI, gB, lstOf, lstO, newl, dgname, dgtup, dgcons, dgnil, dirng1, dirng2, dilst, ditup, dienum, dizip, stays, startD, endD, dcallP, dcallN, fS, dfz, fzK, dbreak, dcont, wipeD, List.map_cons, List.map_nil, List.length_cons, List.length_nil, List.replicate, List.cons_append, List.nil_append, List.getElem?_cons_zero, List.getElem?_cons_succ, List.set_cons_zero, List.set_cons_succ, atI_zero, atI_one, atI_two, atI_three, ixN_zero, ixN_one, mset_same, mset_mset, mdel_mset, List.length_map, vw_one, Option.isSome_some, true_and, and_true, dmk, dmk0, dxf, disx, mkS, okX, dlistRg]
    rw [Int.toNat_natCast]
    refine ⟨by omega, by omega, fun p hp => ⟨by omega, by omega, ?_⟩⟩
    have hne : p ≠ st := fun e => by rw [e, hM] at hp; cases hp
    refine dfor_rng (fun i δ M' => ∃ (row : List Nat) (k' : Int) (y3 y4 y5 : Option X), δ = [some (.ptr st), some (nX m), some (.ptr p), y3, y4, y5] ∧ M' = mset (mset M st (DL.stC nums k')) p (.lst (row.map nX)) ∧ row.Perm (List.range m))
      ⟨List.range m, k, none, none, none, rfl, by rw [mset_self hM], .refl _⟩ ?_ ?_
    · rintro δ M' ⟨row, k', y3, y4, y5, rfl, rfl, hp2⟩
      refine ⟨trivial, ?_⟩
      simp only [dseq, dasg, dasgG, dgsub, setL, dop, dun, dcb, dcons, dnil, dret, dretN, dnext, ddrop, diff, dif, dtest, dand, dor, dnot, dandV, dorV, dnotV, dchain, daug, dpar, dforS, dlc, dyes, dlst, dtup, dbm, fAppend, fPop, dvar, dc, fIx, fSl, dsl, dpart, dno, fI, fI0, fU, fAdd, fMul, fInt, fAbs, fLen, fMin2, fList, fEq, fIsN, gI, gB, lstOf, lstO, newl, dgname, dgtup, dgcons, dgnil, dirng1, dirng2, dilst, ditup, dienum, dizip, stays, startD, endD, dcallP, dcallN, fS, dfz, fzK, dbreak, dcont, wipeD, List.map_cons, List.map_nil, List.length_cons, List.length_nil, List.replicate, List.cons_append, List.nil_append, List.getElem?_cons_zero, List.getElem?_cons_succ, List.set_cons_zero, List.set_cons_succ, atI_zero, atI_one, atI_two, atI_three, ixN_zero, ixN_one, mset_same, mset_mset, mdel_mset, List.length_map, vw_one, Option.isSome_some, true_and, and_true, dmk, dmk0, dxf, disx, mkS, okX]
      refine rt_st (k := k') h0 ?_ ?_ (q row k' hp2)
      · unfold mdel
        rw [if_neg (Ne.symm hne), mset_same]
      · simp only [own, own_nX, Bool.and_self]
    · rintro i δ M' R hi ⟨row, k', y3, y4, y5, rfl, rfl, hp2⟩ kk
      refine ⟨trivial, ?_⟩
      have hl : row.length = m := by rw [hp2.length_eq, List.length_range]
      simp only [dseq, dasg, dasgG, dgsub, setL, dop, dun, dcb, dcons, dnil, dret, dretN, dnext, ddrop, diff, dif, dtest, dand, dor, dnot, dandV, dorV, dnotV, dchain, daug, dpar, dforS, dlc, dyes, dlst, dtup, dbm, fAppend, fPop, dvar, dc, fIx, fSl, dsl, dpart, dno, fI, fI0, fU, fAdd, fMul, fInt, fAbs, fLen, fMin2, fList, fEq, fIsN, gI, gB, lstOf, lstO, newl, dgname, dgtup, dgcons, dgnil, dirng1, dirng2, dilst, ditup, dienum, dizip, stays, startD, endD, dcallP, dcallN, fS, dfz, fzK, dbreak, dcont, wipeD, List.map_cons, List.map_nil, List.length_cons, List.length_nil, List.replicate, List.cons_append, List.nil_append, List.getElem?_cons_zero, List.getElem?_cons_succ, List.set_cons_zero, List.set_cons_succ, atI_zero, atI_one, atI_two, atI_three, ixN_zero, ixN_one, mset_same, mset_mset, mdel_mset, List.length_map, vw_one, Option.isSome_some, true_and, and_true, dmk, dmk0, dxf, disx, mkS, okX]
      refine ⟨nums, k', by rw [mset_ne (Ne.symm hne), mset_same], ((i : Int) + 1), rfl, by omega, hn, ?_⟩
      obtain ⟨j, hj, ej⟩ := nxtN (nums := nums) (k := k') (m := i + 1) (by omega)
      rw [show ((i + 1 : Nat) : Int) = (i : Int) + 1 by omega] at ej
      rw [ej]
      have hMp : ∀ c, mset (mset (mset M st (DL.stC nums k')) p (.lst (row.map nX))) st c p = some (.lst (row.map nX)) := fun c => by rw [mset_ne hne, mset_same]
      have ai : atI (row.map nX) (i : Int) = some (nX row[i]) := atI_nat (lookM nX (List.getElem?_eq_getElem (by omega)))
      have aj : atI (row.map nX) (j : Int) = some (nX row[j]) := atI_nat (lookM nX (List.getElem?_eq_getElem (by omega)))
      simp only [dseq, dasg, dasgG, dgsub, setL, dop, dun, dcb, dcons, dnil, dret, dretN, dnext, ddrop, diff, dif, dtest, dand, dor, dnot, dandV, dorV, dnotV, dchain, daug, dpar, dforS, dlc, dyes, dlst, dtup, dbm, fAppend, fPop, dvar, dc, fIx, fSl, dsl, dpart, dno, fI, fI0, fU, fAdd, fMul, fInt, fAbs, fLen, fMin2, fList, fEq, fIsN, gI, gB, lstOf, lstO, newl, dgname, dgtup, dgcons, dgnil, dirng1, dirng2, dilst, ditup, dienum, dizip, stays, startD, endD, dcallP, dcallN, fS, dfz, fzK, dbreak, dcont, wipeD, List.map_cons, List.map_nil, List.length_cons, List.length_nil, List.replicate, List.cons_append, List.nil_append, List.getElem?_cons_zero, List.getElem?_cons_succ, List.set_cons_zero, List.set_cons_succ, atI_zero, atI_one, atI_two, atI_three, ixN_zero, ixN_one, mset_same, mset_mset, mdel_mset, List.length_map, vw_one, Option.isSome_some, true_and, and_true, dmk, dmk0, dxf, disx, mkS, okX, hMp, ai, aj]
      rw [ixN_of (show (0 : Int) ≤ (i : Int) by omega) (show (i : Int) < ((row.length : Nat) : Int) by omega), Int.toNat_natCast]
      simp only [dseq, dasg, dasgG, dgsub, setL, dop, dun, dcb, dcons, dnil, dret, dretN, dnext, ddrop, diff, dif, dtest, dand, dor, dnot, dandV, dorV, dnotV, dchain, daug, dpar, dforS, dlc, dyes, dlst, dtup, dbm, fAppend, fPop, dvar, dc, fIx, fSl, dsl, dpart, dno, fI, fI0, fU, fAdd, fMul, fInt, fAbs, fLen, fMin2, fList, fEq, fIsN, gI, gB, lstOf, lstO, newl, dgname, dgtup, dgcons, dgnil, dirng1, dirng2, dilst, ditup, dienum, dizip, stays, startD, endD, dcallP, dcallN, fS, dfz, fzK, dbreak, dcont, wipeD, List.map_cons, List.map_nil, List.length_cons, List.length_nil, List.replicate, List.cons_append, List.nil_append, List.getElem?_cons_zero, List.getElem?_cons_succ, List.set_cons_zero, List.set_cons_succ, atI_zero, atI_one, atI_two, atI_three, ixN_zero, ixN_one, mset_same, mset_mset, mdel_mset, List.length_map, vw_one, Option.isSome_some, true_and, and_true, dmk, dmk0, dxf, disx, mkS, okX, List.length_set]
      rw [ixN_of (show (0 : Int) ≤ (j : Int) by omega) (show (j : Int) < ((row.length : Nat) : Int) by omega), Int.toNat_natCast]
      have sw := swap_perm (l := row) (i := i) (j := j) (by omega) (by omega)
      refine kk _ _ ⟨(row.set i row[j]).set j row[i], k' + 1, _, _, _, rfl, ?_, sw.trans hp2⟩
      rw [mset_comm hne, mset_mset, mset_mset, List.map_set, List.map_set]
def f_any : SF := fun nums k r P => ∃ m t : Nat, r = [nX m, nX t] ∧ m ≤ 1000 ∧ t ≤ 1000 ∧ NumsOk nums ∧ ∀ (ps : List E2) (k' : Int), ps.length ≤ t → WF m ps → P (.lst true (ps.map pX)) k'
abbrev s_law_any_pairs : Stmt := topS 39
theorem sc_law_any_pairs : FnScope ["state", "many", "most", "k"] ["state", "many", "most"] (defScope s_law_any_pairs) := ⟨rfl, rfl, rfl, by decide +kernel, rfl, by decide +kernel, by decide +kernel⟩
theorem cal_law_any_pairs (B : Blt2 mg) (D : Def K mg "_law_any_pairs" s_law_any_pairs) (c_law_next : Cal true P w K mg base CX0 "_law_next" 1 ["state", "many"] (SFd f_next)) : Cal true P w K mg base CX0 "_law_any_pairs" 2 ["state", "many", "most"] (SFd f_any) := by
  refine Cal.mk' D (fun _ _ _ _ _ _ us hl => match us, hl with | [_, _, _], _ => rfl) fun f fdt F => fnD F sc_law_any_pairs (fun xs M Q E h => ?len) fun cdv A outer s H E hr => ⟨_,
    ((pssd_cons (psd_if (ptd_cmp op_eq snd_eq (pd_var 1) pd_int (nomark _))
(pssd_one (psd_ret (pd_lst false pad_nil)))
pssd_nil)
(pssd_one (psd_ret (pd_lc false [("k", 3)] anti0 sc_law_any_pairs.nd (pid_range1 (by rfl) B.range (pad_cons (pd_cS 2 c_law_next (hr.mono (by decide)) pass0 (pad_cons (pd_var 0) (pad_cons (pd_add false (pd_var 2) pd_int) pad_nil))) pad_nil)) (blkOk_by (own := [("k", 3)]) (N := ["state", "many", "most", "k"]) (sc := defScope s_law_any_pairs) (by decide +kernel)) (fun _ _ _ _ _ => (pgl_name 3 sc_law_any_pairs.nd)) (fun _ _ _ _ _ => ptsd_nil) (fun _ _ _ _ _ => (pd_tup (pad_cons (pd_cS 2 c_law_next (hr.mono (by decide)) pass0 (pad_cons (pd_var 0) (pad_cons (pd_var 1) pad_nil))) (pad_cons (pd_cS 2 c_law_next (hr.mono (by decide)) pass0 (pad_cons (pd_var 0) (pad_cons (pd_var 1) pad_nil))) pad_nil))))))))), fun xs M Qd Ed h => ?rd⟩
  case len =>
    obtain ⟨st, nums, k, r, rfl, _, _, m, t, rfl, _⟩ := h
    rfl
  case rd =>
    obtain ⟨st, nums, k, r, rfl, h0, hM, m, t, rfl, hm, ht, hn, q⟩ := h
    simp only [dseq, dasg, dasgG, dgsub, setL, dop, dun, dcb, dcons, dnil, dret, dretN, dnext, ddrop, diff, dif, dtest, dand, dor, dnot, dandV, dorV, dnotV, dchain, daug, dpar, dforS, dlc, dyes, dlst, dtup, dbm, fAppend, fPop, dvar, dc, fIx, fSl, dsl, dpart, dno, fI, fI0, fU, fAdd, fMul, fInt, fAbs, fLen, fMin2, fList, fEq, fIsN, gI, gB, lstOf, lstO, newl, dgname, dgtup, dgcons, dgnil, dirng1, dirng2, dilst, ditup, dienum, dizip, stays, startD, endD, dcallP, dcallN, fS, dfz, fzK, dbreak, dcont, wipeD, List.map_cons, List.map_nil, List.length_cons, List.length_nil, List.replicate, List.cons_append, List.nil_append, List.getElem?_cons_zero, List.getElem?_cons_succ, List.set_cons_zero, List.set_cons_succ, atI_zero, atI_one, atI_two, atI_three, ixN_zero, ixN_one, mset_same, mset_mset, mdel_mset, List.length_map, vw_one, Option.isSome_some, true_and, and_true, dmk, dmk0, dxf, disx, mkS, okX]
    by_cases hm0 : m = 0
    · have e1 : (false != decide (((m : Nat) : Int) = 0)) = true := by rw [tt (by omega)]; rfl
      rw [e1]
      exact ⟨Nat.zero_le _, rt_st h0 hM rfl (q [] k (Nat.zero_le _) (fun p hp => nomatch hp))⟩
    · have e1 : (false != decide (((m : Nat) : Int) = 0)) = false := by rw [ff (by omega)]; rfl
      rw [e1]
      refine ⟨nums, k, hM, ((t : Int) + 1), by rw [vw_int], by omega, hn, ?_⟩
      obtain ⟨j, hj, ej⟩ := nxtN (nums := nums) (k := k) (m := t + 1) (by omega)
      rw [show ((t + 1 : Nat) : Int) = (t : Int) + 1 by omega] at ej
      rw [ej]
      refine ⟨by omega, by omega, ?_⟩
      rw [Int.toNat_natCast]
      refine dlc_rngI (fun i acc M' => ∃ (ps : List E2) (k' : Int), acc = ps.map pX ∧ ps.length = i ∧ WF m ps ∧ M' = mset M st (DL.stC nums k')) ⟨[], k + 1, rfl, rfl, fun p hp => (nomatch hp), rfl⟩ ?_ ?_
      · rintro acc M' ⟨ps, k', rfl, hl, wf, rfl⟩
        refine ⟨trivial, rt_st (k := k') h0 mset_same ?_ (q ps k' (by omega) wf)⟩
        simp only [own, own_pX, Bool.and_self]
      · rintro i acc M' R hi ⟨ps, k', rfl, hl, wf, rfl⟩ kk
        simp only [dseq, dasg, dasgG, dgsub, setL, dop, dun, dcb, dcons, dnil, dret, dretN, dnext, ddrop, diff, dif, dtest, dand, dor, dnot, dandV, dorV, dnotV, dchain, daug, dpar, dforS, dlc, dyes, dlst, dtup, dbm, fAppend, fPop, dvar, dc, fIx, fSl, dsl, dpart, dno, fI, fI0, fU, fAdd, fMul, fInt, fAbs, fLen, fMin2, fList, fEq, fIsN, gI, gB, lstOf, lstO, newl, dgname, dgtup, dgcons, dgnil, dirng1, dirng2, dilst, ditup, dienum, dizip, stays, startD, endD, dcallP, dcallN, fS, dfz, fzK, dbreak, dcont, wipeD, List.map_cons, List.map_nil, List.length_cons, List.length_nil, List.replicate, List.cons_append, List.nil_append, List.getElem?_cons_zero, List.getElem?_cons_succ, List.set_cons_zero, List.set_cons_succ, atI_zero, atI_one, atI_two, atI_three, ixN_zero, ixN_one, mset_same, mset_mset, mdel_mset, List.length_map, vw_one, Option.isSome_some, true_and, and_true, dmk, dmk0, dxf, disx, mkS, okX]
        obtain ⟨a, ha, ea⟩ := nxtN (nums := nums) (k := k') (m := m) (by omega)
        obtain ⟨b, hb, eb⟩ := nxtN (nums := nums) (k := k' + 1) (m := m) (by omega)
        refine ⟨nums, k', rfl, (m : Int), by rw [vw_int], by omega, hn, ?_⟩
        rw [ea]
        refine ⟨nums, k' + 1, rfl, (m : Int), by rw [vw_int], by omega, hn, ?_⟩
        rw [eb]
        refine ⟨line_ge (by decide), line_gt (by omega), kk _ _ ⟨ps ++ [(a, b)], k' + 1 + 1, by rw [List.map_append]; rfl, by rw [List.length_append, List.length_singleton, hl], fun p hp => ?_, rfl⟩⟩
        rcases List.mem_append.mp hp with hp | hp
        · exact wf p hp
        · rw [List.mem_singleton.mp hp]; exact ⟨ha, hb⟩
/-! ### what is judged -/
theorem ev_append {δ : Dl} {M : Mu} {i j : Nat} {p : Addr} {zs : List X} {x : X} (hi : δ[i]? = some (some (.ptr p))) (hj : δ[j]? = some (some x)) (h : M p = some (.lst zs)) (hl : zs.length < sizeLine) : Ev (dbm fAppend (dvar i) (dcons (dvar j) dnil)) δ M .non (mset M p (.lst (zs ++ [x]))) := fun Q q => by
  simp only [dseq, dasg, dasgG, dgsub, setL, dop, dun, dcb, dcons, dnil, dret, dretN, dnext, ddrop, diff, dif, dtest, dand, dor, dnot, dandV, dorV, dnotV, dchain, daug, dpar, dforS, dlc, dyes, dlst, dtup, dbm, fAppend, fPop, dvar, dc, fIx, fSl, dsl, dpart, dno, fI, fI0, fU, fAdd, fMul, fInt, fAbs, fLen, fMin2, fList, fEq, fIsN, gI, gB, lstOf, lstO, newl, dgname, dgtup, dgcons, dgnil, dirng1, dirng2, dilst, ditup, dienum, dizip, stays, startD, endD, dcallP, dcallN, fS, dfz, fzK, dbreak, dcont, wipeD, List.map_cons, List.map_nil, List.length_cons, List.length_nil, List.replicate, List.cons_append, List.nil_append, List.getElem?_cons_zero, List.getElem?_cons_succ, List.set_cons_zero, List.set_cons_succ, atI_zero, atI_one, atI_two, atI_three, ixN_zero, ixN_one, mset_same, mset_mset, mdel_mset, List.length_map, vw_one, Option.isSome_some, true_and, and_true, dmk, dmk0, dxf, disx, mkS, okX, hi, hj, h]
  exact ⟨hl, q⟩
theorem in_sg (b : Bool) : (true != inV (toV (X.int (sg b))) ([X.int 1, X.int (-1)].map toV)) = false := by cases b <;> rfl
theorem dXs_nats (g : Addr → Option PyData) (l : List Nat) : dXs g (l.map nX) = some (l.map fun k : Nat => PyData.int (k : Int)) := dXs_map g nX _ (fun _ => by simp only [dX]) l
def g_stops : PF := fun xs P _ => ∃ (ps : List E2) (c : List Fl.St) (b1 b2 : Bool) (u v : Nat), xs = [.lst b1 (ps.map pX), .lst b2 (c.map sX)] ∧ c ≠ [] ∧ c.length ≤ 1000 ∧ Wk ps u c v ∧ P (.lst true ((u :: c.map (en ps)).map nX))
abbrev s_law_stops : Stmt := topS 40
theorem sc_law_stops : FnScope ["pairs", "steps", "met", "edge", "sign", "first", "last"] ["pairs", "steps"] (defScope s_law_stops) := ⟨rfl, rfl, rfl, by decide +kernel, rfl, by decide +kernel, by decide +kernel⟩
theorem cal_law_stops (B : Blt2 mg) (D : Def K mg "_law_stops" s_law_stops) : Cal true P w K mg base CX0 "_law_stops" 1 ["pairs", "steps"] (PFd g_stops) := by
  refine Cal.mk' D (fun _ _ _ _ _ _ us hl => match us, hl with | [_, _], _ => rfl) fun f fdt F => fnD F sc_law_stops (fun xs M Q E h => ?len) fun cdv A outer s H E hr => ⟨_,
    ((pssd_cons (psd_set 2 sc_law_stops.nd (pd_lst true pad_nil))
(pssd_cons (psd_for anti0 PassesOwn.never rfl (pid_list (pd_var 1)) (pgd_tup (n := 2) rfl (pgsd_cons (pgd_name 3 sc_law_stops.nd) (pgsd_cons (pgd_name 4 sc_law_stops.nd) pgsd_nil)))
(pssd_cons (psd_if (pwd_or (ptd_not (ptd_chain op_le snd_B op_lt snd_B pd_int (pd_var 3) (pd_callB call_len_seq snd_len (by rfl) B.len PySem.boot_len (pad_cons (pd_var 0) pad_nil)))) (pwd_or1 (ptd_cmp op_notIn_seq (snd_in true) (pd_var 4) (pd_lst false (pad_cons pd_int (pad_cons (pd_neg pd_int) pad_nil))) (by rfl)))).pt
(pssd_one (psd_ret (pd_lst false pad_nil)))
pssd_nil)
(pssd_cons (psd_set 5 sc_law_stops.nd (pd_if (ptd_cmp op_eq snd_eq (pd_var 4) pd_int (nomark _)) (pd_ix (pd_ix (pd_var 0) (pd_var 3)) pd_int) (pd_ix (pd_ix (pd_var 0) (pd_var 3)) pd_int)))
(pssd_cons (psd_set 6 sc_law_stops.nd (pd_if (ptd_cmp op_eq snd_eq (pd_var 4) pd_int (nomark _)) (pd_ix (pd_ix (pd_var 0) (pd_var 3)) pd_int) (pd_ix (pd_ix (pd_var 0) (pd_var 3)) pd_int)))
(pssd_cons (psd_if (ptd_cmp (op_eqD hr.units) snd_eqD (pd_var 2) (pd_lst false pad_nil) (nomark _))
(pssd_one (psd_expr (pd_bm PySem.F.slot_list_append PySem.F.type_list_append mt_append snd_append (pd_var 2) (pad_cons (pd_var 5) pad_nil))))
pssd_nil)
(pssd_cons (psd_if (ptd_cmp op_ne snd_ne (pd_ix (pd_var 2) (pd_sub (pd_callB call_len_seq snd_len (by rfl) B.len PySem.boot_len (pad_cons (pd_var 2) pad_nil)) pd_int)) (pd_var 5) (nomark _))
(pssd_one (psd_ret (pd_lst false pad_nil)))
pssd_nil)
(pssd_one (psd_expr (pd_bm PySem.F.slot_list_append PySem.F.type_list_append mt_append snd_append (pd_var 2) (pad_cons (pd_var 6) pad_nil))))))))))
(pssd_one (psd_ret (pd_fz (pd_var 2))))))), fun xs M Qd Ed h => ?rd⟩
  case len =>
    obtain ⟨_, ps, c, b1, b2, u, v, rfl, _⟩ := h
    rfl
  case rd =>
    obtain ⟨rfl, ps, c, b1, b2, u, v, rfl, hne, hcl, hw, q⟩ := h
    simp only [dseq, dasg, dasgG, dgsub, setL, dop, dun, dcb, dcons, dnil, dret, dretN, dnext, ddrop, diff, dif, dtest, dand, dor, dnot, dandV, dorV, dnotV, dchain, daug, dpar, dforS, dlc, dyes, dlst, dtup, dbm, fAppend, fPop, dvar, dc, fIx, fSl, dsl, dpart, dno, fI, fI0, fU, fAdd, fMul, fInt, fAbs, fLen, fMin2, fList, fEq, fIsN, gI, gB, lstOf, lstO, newl, dgname, dgtup, dgcons, dgnil, dirng1, dirng2, dilst, ditup, dienum, dizip, stays, startD, endD, dcallP, dcallN, fS, dfz, fzK, dbreak, dcont, wipeD, List.map_cons, List.map_nil, List.length_cons, List.length_nil, List.replicate, List.cons_append, List.nil_append, List.getElem?_cons_zero, List.getElem?_cons_succ, List.set_cons_zero, List.set_cons_succ, atI_zero, atI_one, atI_two, atI_three, ixN_zero, ixN_one, mset_same, mset_mset, mdel_mset, List.length_map, vw_one, Option.isSome_some, true_and, and_true, dmk, dmk0, dxf, disx, mkS, okX]
    refine ⟨Nat.zero_le _, fun p hp => ?_⟩
    refine dfor_map (as := c) (f := sX) (fun j δ M => ∃ (y3 y4 y5 y6 : Option X) (zs : List Nat), δ = [some (.lst b1 (ps.map pX)), some (.lst b2 (c.map sX)), some (.ptr p), y3, y4, y5, y6] ∧ M = mset m0 p (.lst (zs.map nX)) ∧ ((j = 0 ∧ zs = []) ∨ (0 < j ∧ zs = u :: (c.take j).map (en ps)))) ⟨none, none, none, none, [], rfl, rfl, .inl ⟨rfl, rfl⟩⟩ ?_ ?_
    · rintro δ M ⟨y3, y4, y5, y6, zs, rfl, rfl, hz⟩
      refine ⟨trivial, ?_⟩
      have e1 : zs = u :: c.map (en ps) := by
        rcases hz with ⟨h0, _⟩ | ⟨_, h1⟩
        · exact absurd (List.eq_nil_of_length_eq_zero h0) hne
        · rw [h1, List.take_length]
      subst e1
      simp only [dseq, dasg, dasgG, dgsub, setL, dop, dun, dcb, dcons, dnil, dret, dretN, dnext, ddrop, diff, dif, dtest, dand, dor, dnot, dandV, dorV, dnotV, dchain, daug, dpar, dforS, dlc, dyes, dlst, dtup, dbm, fAppend, fPop, dvar, dc, fIx, fSl, dsl, dpart, dno, fI, fI0, fU, fAdd, fMul, fInt, fAbs, fLen, fMin2, fList, fEq, fIsN, gI, gB, lstOf, lstO, newl, dgname, dgtup, dgcons, dgnil, dirng1, dirng2, dilst, ditup, dienum, dizip, stays, startD, endD, dcallP, dcallN, fS, dfz, fzK, dbreak, dcont, wipeD, List.map_cons, List.map_nil, List.length_cons, List.length_nil, List.replicate, List.cons_append, List.nil_append, List.getElem?_cons_zero, List.getElem?_cons_succ, List.set_cons_zero, List.set_cons_succ, atI_zero, atI_one, atI_two, atI_three, ixN_zero, ixN_one, mset_same, mset_mset, mdel_mset, List.length_map, vw_one, Option.isSome_some, true_and, and_true, dmk, dmk0, dxf, disx, mkS, okX]
      refine rt_pure ?_ q
      simp only [own, Bool.true_and]
      exact own_nX _
    · rintro j ⟨e0, b0⟩ δ M R hj ⟨y3, y4, y5, y6, zs, rfl, rfl, hz⟩ k
      refine ⟨trivial, ?_⟩
      obtain ⟨hjl, hje⟩ := List.getElem?_eq_some_iff.mp hj
      obtain ⟨x, w1, w2⟩ : ∃ x, Wk ps u (c.take j) x ∧ Wk ps x (c.drop j) v := Wk.of_append (by rw [List.take_append_drop]; exact hw)
      rw [List.drop_eq_getElem_cons hjl, hje] at w2
      obtain ⟨hbg, hlt, _⟩ := w2
      have hlt : e0 < ps.length := hlt
      have zl : zs.length ≤ 1001 := by
        rcases hz with ⟨_, h1⟩ | ⟨_, h1⟩
        · rw [h1]; exact Nat.zero_le _
        · rw [h1, List.length_cons, List.length_map, List.length_take]; omega
      have apx : atI (ps.map pX) (e0 : Int) = some (pX (tl ps e0, hd ps e0)) := atM pX hlt (0, 0)
      have tk : c.take (j + 1) = c.take j ++ [(e0, b0)] := by rw [List.take_add_one, hj]; rfl
      -- what is appended in the end
      have fin : ∀ y3 y4 y5 y6, R [some (.lst b1 (ps.map pX)), some (.lst b2 (c.map sX)), some (.ptr p), y3, y4, y5, y6] (mset m0 p (.lst ((u :: (c.take (j + 1)).map (en ps)).map nX))) := fun y3 y4 y5 y6 => k _ _ ⟨y3, y4, y5, y6, _, rfl, rfl, .inr ⟨Nat.succ_pos _, rfl⟩⟩
      rw [tk, List.map_append] at fin
      have mid : ∀ (f l : Nat), f = x → l = en ps (e0, b0) → ∀ DD : EndsD, DD.nx = R →
          dseq (diff (dtest (dop (fEqD false) (dvar 2) (dlst false dnil))) (ddrop (dbm fAppend (dvar 2) (dcons (dvar 5) dnil))) dnext)
            (dseq (diff (dtest (dop (fEq true) (dop fIx (dvar 2) (dop (fI0 (gI fun i j => i - j)) (dcb fLen (dcons (dvar 2) dnil)) (dc (.int 1)))) (dvar 5))) (dret (dlst false dnil)) dnext)
              (ddrop (dbm fAppend (dvar 2) (dcons (dvar 6) dnil)))) DD [some (.lst b1 (ps.map pX)), some (.lst b2 (c.map sX)), some (.ptr p), some (nX e0), some (.int (sg b0)), some (nX f), some (nX l)] (mset m0 p (.lst (zs.map nX))) := by
        rintro f l rfl rfl DD hDD
        have last : ∀ (ys : List Nat), ys ≠ [] → ys.length ≤ 1001 → (∃ z, ys = z ++ [f]) → DD.nx = R → (ys ++ [en ps (e0, b0)] = u :: ((c.take j).map (en ps) ++ [en ps (e0, b0)])) →
            dseq (diff (dtest (dop (fEq true) (dop fIx (dvar 2) (dop (fI0 (gI fun i j => i - j)) (dcb fLen (dcons (dvar 2) dnil)) (dc (.int 1)))) (dvar 5))) (dret (dlst false dnil)) dnext)
              (ddrop (dbm fAppend (dvar 2) (dcons (dvar 6) dnil))) DD [some (.lst b1 (ps.map pX)), some (.lst b2 (c.map sX)), some (.ptr p), some (nX e0), some (.int (sg b0)), some (nX f), some (nX (en ps (e0, b0)))] (mset m0 p (.lst (ys.map nX))) := by
          rintro ys hy hyl ⟨z, rfl⟩ hDD hfin
          have al : atI ((z ++ [f]).map nX) ((((z ++ [f]).length : Nat) : Int) - 1) = some (nX f) := by
            have e : (((z ++ [f]).length : Nat) : Int) - 1 = ((z.length : Nat) : Int) := by rw [List.length_append, List.length_singleton]; omega
            rw [e]
            exact atI_nat (lookM nX (by rw [List.getElem?_append_right (Nat.le_refl _), Nat.sub_self]; rfl))
          simp only [dseq, dasg, dasgG, dgsub, setL, dop, dun, dcb, dcons, dnil, dret, dretN, dnext, ddrop, diff, dif, dtest, dand, dor, dnot, dandV, dorV, dnotV, dchain, daug, dpar, dforS, dlc, dyes, dlst, dtup, dbm, fAppend, fPop, dvar, dc, fIx, fSl, dsl, dpart, dno, fI, fI0, fU, fAdd, fMul, fInt, fAbs, fLen, fMin2, fList, fEq, fIsN, gI, gB, lstOf, lstO, newl, dgname, dgtup, dgcons, dgnil, dirng1, dirng2, dilst, ditup, dienum, dizip, stays, startD, endD, dcallP, dcallN, fS, dfz, fzK, dbreak, dcont, wipeD, List.map_cons, List.map_nil, List.length_cons, List.length_nil, List.replicate, List.cons_append, List.nil_append, List.getElem?_cons_zero, List.getElem?_cons_succ, List.set_cons_zero, List.set_cons_succ, atI_zero, atI_one, atI_two, atI_three, ixN_zero, ixN_one, mset_same, mset_mset, mdel_mset, List.length_map, vw_one, Option.isSome_some, true_and, and_true, dmk, dmk0, dxf, disx, mkS, okX, al]
          have e1 : ∀ d : Decidable True, (true != @decide True d) = false := fun d => by rw [@decide_eq_true _ d trivial]; rfl
          rw [e1]
          refine ⟨line_gt (by omega), ?_⟩
          rw [hDD]
          have f2 := fin (some (nX e0)) (some (.int (sg b0))) (some (nX f)) (some (nX (en ps (e0, b0))))
          rw [show (c.take j).map (en ps) ++ [(e0, b0)].map (en ps) = (c.take j).map (en ps) ++ [en ps (e0, b0)] from rfl, ← hfin, List.map_append (l₁ := z ++ [f])] at f2
          exact f2
        rcases hz with ⟨h0, rfl⟩ | ⟨h0, hz⟩
        · subst h0
          have hxu : u = f := w1
          refine step_if1 (M1 := mset m0 p (.lst (([] : List Nat).map nX))) (fun Q hQ => ?_) ?_
          · simp only [dseq, dasg, dasgG, dgsub, setL, dop, dun, dcb, dcons, dnil, dret, dretN, dnext, ddrop, diff, dif, dtest, dand, dor, dnot, dandV, dorV, dnotV, dchain, daug, dpar, dforS, dlc, dyes, dlst, dtup, dbm, fAppend, fPop, dvar, dc, fIx, fSl, dsl, dpart, dno, fI, fI0, fU, fAdd, fMul, fInt, fAbs, fLen, fMin2, fList, fEq, fIsN, gI, gB, lstOf, lstO, newl, dgname, dgtup, dgcons, dgnil, dirng1, dirng2, dilst, ditup, dienum, dizip, stays, startD, endD, dcallP, dcallN, fS, dfz, fzK, dbreak, dcont, wipeD, List.map_cons, List.map_nil, List.length_cons, List.length_nil, List.replicate, List.cons_append, List.nil_append, List.getElem?_cons_zero, List.getElem?_cons_succ, List.set_cons_zero, List.set_cons_succ, atI_zero, atI_one, atI_two, atI_three, ixN_zero, ixN_one, mset_same, mset_mset, mdel_mset, List.length_map, vw_one, Option.isSome_some, true_and, and_true, dmk, dmk0, dxf, disx, mkS, okX, fEqD, dX, dXs, gM, Option.map_some]
            exact ⟨Nat.zero_le _, rfl, rfl, hQ⟩
          refine ev_append (p := p) (zs := []) (x := nX f) rfl rfl mset_same (line_gt (Nat.zero_le _)) _ ?_
          show dseq _ _ _ _ _
          rw [mset_mset]
          refine last [f] (fun z => nomatch z) (by simp) ⟨[], rfl⟩ hDD ?_
          rw [hxu]; rfl
        · have hsh : ∃ z, zs = z ++ [f] := by
            rcases List.eq_nil_or_concat (c.take j) with h1 | ⟨t, s, h1⟩
            · have := congrArg List.length h1
              rw [List.length_take, List.length_nil] at this
              omega
            · rw [List.concat_eq_append] at h1
              refine ⟨u :: t.map (en ps), ?_⟩
              rw [h1] at w1
              obtain ⟨x', _, w4⟩ := Wk.of_append w1
              have : en ps s = f := w4.2.2
              rw [hz, h1, List.map_append, ← this]
              rfl
          have hz' : ∃ a l, zs = a :: l := ⟨_, _, hz⟩
          have e2 : (false != PyData.eqv (.list (zs.map fun k : Nat => PyData.int (k : Int))) (.list [])) = false := by
            obtain ⟨a, l, e⟩ := hz'
            rw [e]; rfl
          refine step_if0 (M1 := mset m0 p (.lst (zs.map nX))) (fun Q hQ => ?_) ?_
          · simp only [dseq, dasg, dasgG, dgsub, setL, dop, dun, dcb, dcons, dnil, dret, dretN, dnext, ddrop, diff, dif, dtest, dand, dor, dnot, dandV, dorV, dnotV, dchain, daug, dpar, dforS, dlc, dyes, dlst, dtup, dbm, fAppend, fPop, dvar, dc, fIx, fSl, dsl, dpart, dno, fI, fI0, fU, fAdd, fMul, fInt, fAbs, fLen, fMin2, fList, fEq, fIsN, gI, gB, lstOf, lstO, newl, dgname, dgtup, dgcons, dgnil, dirng1, dirng2, dilst, ditup, dienum, dizip, stays, startD, endD, dcallP, dcallN, fS, dfz, fzK, dbreak, dcont, wipeD, List.map_cons, List.map_nil, List.length_cons, List.length_nil, List.replicate, List.cons_append, List.nil_append, List.getElem?_cons_zero, List.getElem?_cons_succ, List.set_cons_zero, List.set_cons_succ, atI_zero, atI_one, atI_two, atI_three, ixN_zero, ixN_one, mset_same, mset_mset, mdel_mset, List.length_map, vw_one, Option.isSome_some, true_and, and_true, dmk, dmk0, dxf, disx, mkS, okX, fEqD, dX, dXs, gM, dXs_nats, Option.map_some]
            refine ⟨Nat.zero_le _, shaped_map (fun k : Nat => PyData.int (k : Int)) (fun _ => ⟨rfl, rfl⟩) _, rfl, ?_⟩
            rw [e2]
            exact hQ
          refine last zs (by rw [hz]; exact fun z => nomatch z) zl hsh hDD ?_
          rw [hz]; rfl
      refine ⟨rfl, ?_⟩
      simp only [dgcons, dgname, dgnil, List.set_cons_succ, List.set_cons_zero]
      refine step_if0 (M1 := mset m0 p (.lst (zs.map nX))) (fun Q hQ => ?_) ?_
      · simp only [dseq, dasg, dasgG, dgsub, setL, dop, dun, dcb, dcons, dnil, dret, dretN, dnext, ddrop, diff, dif, dtest, dand, dor, dnot, dandV, dorV, dnotV, dchain, daug, dpar, dforS, dlc, dyes, dlst, dtup, dbm, fAppend, fPop, dvar, dc, fIx, fSl, dsl, dpart, dno, fI, fI0, fU, fAdd, fMul, fInt, fAbs, fLen, fMin2, fList, fEq, fIsN, gI, gB, lstOf, lstO, newl, dgname, dgtup, dgcons, dgnil, dirng1, dirng2, dilst, ditup, dienum, dizip, stays, startD, endD, dcallP, dcallN, fS, dfz, fzK, dbreak, dcont, wipeD, List.map_cons, List.map_nil, List.length_cons, List.length_nil, List.replicate, List.cons_append, List.nil_append, List.getElem?_cons_zero, List.getElem?_cons_succ, List.set_cons_zero, List.set_cons_succ, atI_zero, atI_one, atI_two, atI_three, ixN_zero, ixN_one, mset_same, mset_mset, mdel_mset, List.length_map, vw_one, Option.isSome_some, true_and, and_true, dmk, dmk0, dxf, disx, mkS, okX]
        rw [tt (show (0 : Int) ≤ (e0 : Int) by omega), tt (show (e0 : Int) < ((ps.length : Nat) : Int) by omega)]
        simp only [dseq, dasg, dasgG, dgsub, setL, dop, dun, dcb, dcons, dnil, dret, dretN, dnext, ddrop, diff, dif, dtest, dand, dor, dnot, dandV, dorV, dnotV, dchain, daug, dpar, dforS, dlc, dyes, dlst, dtup, dbm, fAppend, fPop, dvar, dc, fIx, fSl, dsl, dpart, dno, fI, fI0, fU, fAdd, fMul, fInt, fAbs, fLen, fMin2, fList, fEq, fIsN, gI, gB, lstOf, lstO, newl, dgname, dgtup, dgcons, dgnil, dirng1, dirng2, dilst, ditup, dienum, dizip, stays, startD, endD, dcallP, dcallN, fS, dfz, fzK, dbreak, dcont, wipeD, List.map_cons, List.map_nil, List.length_cons, List.length_nil, List.replicate, List.cons_append, List.nil_append, List.getElem?_cons_zero, List.getElem?_cons_succ, List.set_cons_zero, List.set_cons_succ, atI_zero, atI_one, atI_two, atI_three, ixN_zero, ixN_one, mset_same, mset_mset, mdel_mset, List.length_map, vw_one, Option.isSome_some, true_and, and_true, dmk, dmk0, dxf, disx, mkS, okX, Bool.not_true]
        refine ⟨line_ge (by decide), rfl, rfl, ?_⟩
        show Q (true != inV (toV (X.int (sg b0))) ([X.int 1, X.int (-1)].map toV)) _
        rw [in_sg]
        exact hQ
      refine ev_step (x := nX (bg ps (e0, b0))) (M1 := mset m0 p (.lst (zs.map nX))) (fun Q hQ => ?_) ?_
      · simp only [dseq, dasg, dasgG, dgsub, setL, dop, dun, dcb, dcons, dnil, dret, dretN, dnext, ddrop, diff, dif, dtest, dand, dor, dnot, dandV, dorV, dnotV, dchain, daug, dpar, dforS, dlc, dyes, dlst, dtup, dbm, fAppend, fPop, dvar, dc, fIx, fSl, dsl, dpart, dno, fI, fI0, fU, fAdd, fMul, fInt, fAbs, fLen, fMin2, fList, fEq, fIsN, gI, gB, lstOf, lstO, newl, dgname, dgtup, dgcons, dgnil, dirng1, dirng2, dilst, ditup, dienum, dizip, stays, startD, endD, dcallP, dcallN, fS, dfz, fzK, dbreak, dcont, wipeD, List.map_cons, List.map_nil, List.length_cons, List.length_nil, List.replicate, List.cons_append, List.nil_append, List.getElem?_cons_zero, List.getElem?_cons_succ, List.set_cons_zero, List.set_cons_succ, atI_zero, atI_one, atI_two, atI_three, ixN_zero, ixN_one, mset_same, mset_mset, mdel_mset, List.length_map, vw_one, Option.isSome_some, true_and, and_true, dmk, dmk0, dxf, disx, mkS, okX, apx, pX]
        cases b0
        · exact hQ
        · exact hQ
      refine ev_step (x := nX (en ps (e0, b0))) (M1 := mset m0 p (.lst (zs.map nX))) (fun Q hQ => ?_) ?_
      · simp only [dseq, dasg, dasgG, dgsub, setL, dop, dun, dcb, dcons, dnil, dret, dretN, dnext, ddrop, diff, dif, dtest, dand, dor, dnot, dandV, dorV, dnotV, dchain, daug, dpar, dforS, dlc, dyes, dlst, dtup, dbm, fAppend, fPop, dvar, dc, fIx, fSl, dsl, dpart, dno, fI, fI0, fU, fAdd, fMul, fInt, fAbs, fLen, fMin2, fList, fEq, fIsN, gI, gB, lstOf, lstO, newl, dgname, dgtup, dgcons, dgnil, dirng1, dirng2, dilst, ditup, dienum, dizip, stays, startD, endD, dcallP, dcallN, fS, dfz, fzK, dbreak, dcont, wipeD, List.map_cons, List.map_nil, List.length_cons, List.length_nil, List.replicate, List.cons_append, List.nil_append, List.getElem?_cons_zero, List.getElem?_cons_succ, List.set_cons_zero, List.set_cons_succ, atI_zero, atI_one, atI_two, atI_three, ixN_zero, ixN_one, mset_same, mset_mset, mdel_mset, List.length_map, vw_one, Option.isSome_some, true_and, and_true, dmk, dmk0, dxf, disx, mkS, okX, apx, pX]
        cases b0
        · exact hQ
        · exact hQ
      exact mid _ _ hbg rfl _ rfl
end
end K53


set_option maxRecDepth 100000
set_option maxHeartbeats 0
namespace K53
open PySem PySem.Spec PyProof.Rows L2 DL Fl
section
variable {P : Program} {w : World} {K : PySem.W.Frag} {mg : Str → Option Value} {base : Heap} {C : Addr}
def g_unlike : PF := fun xs P _ => ∃ (b : Bool) (l : List Nat), xs = [.lst b (l.map nX)] ∧ l.Nodup ∧ l.length ≤ 1000 ∧ P (.bl true)
theorem nodup_int {l : List Nat} (h : l.Nodup) : (l.map fun k : Nat => (k : Int)).Nodup := List.pairwise_map.mpr (List.Pairwise.imp (fun {a b} h e => h (by omega)) h)
abbrev s_law_unlike : Stmt := topS 41
theorem sc_law_unlike : FnScope ["row"] ["row"] (defScope s_law_unlike) := ⟨rfl, rfl, rfl, by decide +kernel, rfl, by decide +kernel, by decide +kernel⟩
theorem cal_law_unlike (B : Blt2 mg) (D : Def K mg "_law_unlike" s_law_unlike) : Cal true P w K mg base CX0 "_law_unlike" 1 ["row"] (PFd g_unlike) := by
  refine Cal.mk' D (fun _ _ _ _ _ _ us hl => match us, hl with | [_], _ => rfl) fun f fdt F => fnD F sc_law_unlike (fun xs M Q E h => ?len) fun cdv A outer s H E hr => ⟨_,
    ((pssd_one (psd_ret (pd_cmp op_eq snd_eq (pd_lenSet B.len B.set (pd_var 0)) (pd_callB call_len_seq snd_len (by rfl) B.len PySem.boot_len (pad_cons (pd_var 0) pad_nil)) (nomark _))))), fun xs M Qd Ed h => ?rd⟩
  case len =>
    obtain ⟨_, b, l, rfl, _⟩ := h
    rfl
  case rd =>
    obtain ⟨rfl, b, l, rfl, hnd, hl, q⟩ := h
    simp only [dseq, dasg, dasgG, dgsub, setL, dop, dun, dcb, dcons, dnil, dret, dretN, dnext, ddrop, diff, dif, dtest, dand, dor, dnot, dandV, dorV, dnotV, dchain, daug, dpar, dforS, dlc, dyes, dlst, dtup, dbm, fAppend, fPop, dvar, dc, fIx, fSl, dsl, dpart, dno, fI, fI0, fU, fAdd, fMul, fInt, fAbs, fLen, fMin2, fList, fEq, fIsN, gI, gB, lstOf, lstO, newl, dgname, dgtup, dgcons, dgnil, dirng1, dirng2, dilst, ditup, dienum, dizip, stays, startD, endD, dcallP, dcallN, fS, dfz, fzK, dbreak, dcont, wipeD, List.map_cons, List.map_nil, List.length_cons, List.length_nil, List.replicate, List.cons_append, List.nil_append, List.getElem?_cons_zero, List.getElem?_cons_succ, List.set_cons_zero, List.set_cons_succ, atI_zero, atI_one, atI_two, atI_three, ixN_zero, ixN_one, mset_same, mset_mset, mdel_mset, List.length_map, vw_one, Option.isSome_some, true_and, and_true, dmk, dmk0, dxf, disx, mkS, okX, dlenSet]
    refine ⟨l.map fun k : Nat => (k : Int), by rw [List.map_map]; rfl, nodup_int hnd, by rw [List.length_map]; omega, ?_⟩
    rw [List.length_map]
    have e1 : ∀ d : Decidable (((l.length : Nat) : Int) = ((l.length : Nat) : Int)), (false != @decide _ d) = true := fun d => by rw [@decide_eq_true _ d rfl]; rfl
    first | rw [e1] | skip
    exact rt_pure rfl q
def g_iscyc : PF := fun xs P _ => ∃ (ps : List E2) (c : List Fl.St) (b1 b2 : Bool), xs = [.lst b1 (ps.map pX), .lst b2 (c.map sX)] ∧ c.length ≤ 1000 ∧ CycOk ps c ∧ P (.bl true)
abbrev s_law_is_cycle : Stmt := topS 42
theorem sc_law_is_cycle : FnScope ["pairs", "steps", "met", "step"] ["pairs", "steps"] (defScope s_law_is_cycle) := ⟨rfl, rfl, rfl, by decide +kernel, rfl, by decide +kernel, by decide +kernel⟩
theorem cal_law_is_cycle (B : Blt2 mg) (D : Def K mg "_law_is_cycle" s_law_is_cycle) (c_law_stops : Cal true P w K mg base CX0 "_law_stops" 1 ["pairs", "steps"] (PFd g_stops)) (c_law_unlike : Cal true P w K mg base CX0 "_law_unlike" 1 ["row"] (PFd g_unlike)) : Cal true P w K mg base CX0 "_law_is_cycle" 2 ["pairs", "steps"] (PFd g_iscyc) := by
  refine Cal.mk' D (fun _ _ _ _ _ _ us hl => match us, hl with | [_, _], _ => rfl) fun f fdt F => fnD F sc_law_is_cycle (fun xs M Q E h => ?len) fun cdv A outer s H E hr => ⟨_,
    ((pssd_cons (psd_set 2 sc_law_is_cycle.nd (pd_cP 2 c_law_stops (hr.mono (by decide)) pass0 we0 (pad_cons (pd_var 0) (pad_cons (pd_var 1) pad_nil))))
(pssd_cons (psd_if (pwd_or (ptd_cmp (op_eqD hr.units) snd_eqD (pd_var 2) (pd_lst false pad_nil) (nomark _)) (pwd_or1 (ptd_cmp op_ne snd_ne (pd_ix (pd_var 2) pd_int) (pd_ix (pd_var 2) (pd_sub (pd_callB call_len_seq snd_len (by rfl) B.len PySem.boot_len (pad_cons (pd_var 2) pad_nil)) pd_int)) (nomark _)))).pt
(pssd_one (psd_ret pd_bl))
pssd_nil)
(pssd_one (psd_ret (pd_and (pd_cP 2 c_law_unlike (hr.mono (by decide)) pass0 we0 (pad_cons (pd_slice false (pd_var 2) (pod_some pd_int) pod_none) pad_nil)) (pd_one (pd_cP 2 c_law_unlike (hr.mono (by decide)) pass0 we0 (pad_cons (pd_lc false [("step", 3)] anti0 sc_law_is_cycle.nd (pid_list (pd_var 1)) (blkOk_by (own := [("step", 3)]) (N := ["pairs", "steps", "met", "step"]) (sc := defScope s_law_is_cycle) (by decide +kernel)) (fun _ _ _ _ _ => (pgl_name 3 sc_law_is_cycle.nd)) (fun _ _ _ _ _ => ptsd_nil) (fun _ _ _ _ _ => (pd_ix (pd_var 3) pd_int))) pad_nil))))))))), fun xs M Qd Ed h => ?rd⟩
  case len =>
    obtain ⟨_, ps, c, b1, b2, rfl, _⟩ := h
    rfl
  case rd =>
    obtain ⟨rfl, ps, c, b1, b2, rfl, hcl, hc, q⟩ := h
    obtain ⟨u, hw⟩ := hc.wk
    simp only [dseq, dasg, dasgG, dgsub, setL, dop, dun, dcb, dcons, dnil, dret, dretN, dnext, ddrop, diff, dif, dtest, dand, dor, dnot, dandV, dorV, dnotV, dchain, daug, dpar, dforS, dlc, dyes, dlst, dtup, dbm, fAppend, fPop, dvar, dc, fIx, fSl, dsl, dpart, dno, fI, fI0, fU, fAdd, fMul, fInt, fAbs, fLen, fMin2, fList, fEq, fIsN, gI, gB, lstOf, lstO, newl, dgname, dgtup, dgcons, dgnil, dirng1, dirng2, dilst, ditup, dienum, dizip, stays, startD, endD, dcallP, dcallN, fS, dfz, fzK, dbreak, dcont, wipeD, List.map_cons, List.map_nil, List.length_cons, List.length_nil, List.replicate, List.cons_append, List.nil_append, List.getElem?_cons_zero, List.getElem?_cons_succ, List.set_cons_zero, List.set_cons_succ, atI_zero, atI_one, atI_two, atI_three, ixN_zero, ixN_one, mset_same, mset_mset, mdel_mset, List.length_map, vw_one, Option.isSome_some, true_and, and_true, dmk, dmk0, dxf, disx, mkS, okX]
    refine ⟨ps, c, b1, b2, u, u, by rw [vw_lst, vw_lst], hc.ne, hcl, hw, ?_⟩
    refine ⟨Nat.zero_le _, ?_⟩
    have hmet : ∃ met : List Nat, met = u :: c.map (en ps) := ⟨_, rfl⟩
    obtain ⟨met, hmet⟩ := hmet
    have e2 : (PyData.eqv (.list (met.map fun k : Nat => PyData.int (k : Int))) (.list [])) = false := by rw [hmet]; rfl
    have a0 : atI (met.map nX) 0 = some (nX u) := atI_nat (xs := met.map nX) (j := 0) (lookM nX (i := 0) (by rw [hmet]; rfl))
    have al : atI (met.map nX) (((met.length : Nat) : Int) - 1) = some (nX u) := by
      have e : ((met.length : Nat) : Int) - 1 = ((c.length : Nat) : Int) := by rw [hmet, List.length_cons, List.length_map]; omega
      rw [e]
      refine atI_nat (lookM nX ?_)
      rw [hmet, ← Wk.bgs hw, List.getElem?_append_right (by rw [List.length_map]; exact Nat.le_refl _), List.length_map, Nat.sub_self]; rfl
    have ed : ((met.map nX).drop (HT.sIx (met.map nX).length 0 (some 1))).take (HT.sIx (met.map nX).length (met.map nX).length none - HT.sIx (met.map nX).length 0 (some 1)) = (c.map (en ps)).map nX := by
      rw [HT.sIx_none, show (some (1 : Int)) = some ((1 : Nat) : Int) from rfl, HT.sIx_nat, hmet, List.map_cons, List.length_cons, Nat.min_eq_left (by omega), List.drop_succ_cons, List.drop_zero, Nat.add_sub_cancel, List.take_length]
    rw [← hmet]
    simp only [dseq, dasg, dasgG, dgsub, setL, dop, dun, dcb, dcons, dnil, dret, dretN, dnext, ddrop, diff, dif, dtest, dand, dor, dnot, dandV, dorV, dnotV, dchain, daug, dpar, dforS, dlc, dyes, dlst, dtup, dbm, fAppend, fPop, dvar, dc, fIx, fSl, dsl, dpart, dno, fI, fI0, fU, fAdd, fMul, fInt, fAbs, fLen, fMin2, fList, fEq, fIsN, gI, gB, lstOf, lstO, newl, dgname, dgtup, dgcons, dgnil, dirng1, dirng2, dilst, ditup, dienum, dizip, stays, startD, endD, dcallP, dcallN, fS, dfz, fzK, dbreak, dcont, wipeD, List.map_cons, List.map_nil, List.length_cons, List.length_nil, List.replicate, List.cons_append, List.nil_append, List.getElem?_cons_zero, List.getElem?_cons_succ, List.set_cons_zero, List.set_cons_succ, atI_zero, atI_one, atI_two, atI_three, ixN_zero, ixN_one, mset_same, mset_mset, mdel_mset, List.length_map, vw_one, Option.isSome_some, true_and, and_true, dmk, dmk0, dxf, disx, mkS, okX, fEqD, dX, dXs, gM, dXs_nats, Option.map_some, a0]
    refine ⟨shaped_map (fun k : Nat => PyData.int (k : Int)) (fun _ => ⟨rfl, rfl⟩) _, rfl, ?_⟩
    rw [e2, al]
    simp only [dseq, dasg, dasgG, dgsub, setL, dop, dun, dcb, dcons, dnil, dret, dretN, dnext, ddrop, diff, dif, dtest, dand, dor, dnot, dandV, dorV, dnotV, dchain, daug, dpar, dforS, dlc, dyes, dlst, dtup, dbm, fAppend, fPop, dvar, dc, fIx, fSl, dsl, dpart, dno, fI, fI0, fU, fAdd, fMul, fInt, fAbs, fLen, fMin2, fList, fEq, fIsN, gI, gB, lstOf, lstO, newl, dgname, dgtup, dgcons, dgnil, dirng1, dirng2, dilst, ditup, dienum, dizip, stays, startD, endD, dcallP, dcallN, fS, dfz, fzK, dbreak, dcont, wipeD, List.map_cons, List.map_nil, List.length_cons, List.length_nil, List.replicate, List.cons_append, List.nil_append, List.getElem?_cons_zero, List.getElem?_cons_succ, List.set_cons_zero, List.set_cons_succ, atI_zero, atI_one, atI_two, atI_three, ixN_zero, ixN_one, mset_same, mset_mset, mdel_mset, List.length_map, vw_one, Option.isSome_some, true_and, and_true, dmk, dmk0, dxf, disx, mkS, okX]
    rw [List.length_map] at ed
    rw [ed]
    have e3 : ∀ d : Decidable True, (true != @decide True d) = false := fun d => by rw [@decide_eq_true _ d trivial]; rfl
    first | rw [e3] | skip
    refine ⟨true, c.map (en ps), by rw [vw_lst], hc.vs, by rw [List.length_map]; exact hcl, ?_⟩
    simp only [dseq, dasg, dasgG, dgsub, setL, dop, dun, dcb, dcons, dnil, dret, dretN, dnext, ddrop, diff, dif, dtest, dand, dor, dnot, dandV, dorV, dnotV, dchain, daug, dpar, dforS, dlc, dyes, dlst, dtup, dbm, fAppend, fPop, dvar, dc, fIx, fSl, dsl, dpart, dno, fI, fI0, fU, fAdd, fMul, fInt, fAbs, fLen, fMin2, fList, fEq, fIsN, gI, gB, lstOf, lstO, newl, dgname, dgtup, dgcons, dgnil, dirng1, dirng2, dilst, ditup, dienum, dizip, stays, startD, endD, dcallP, dcallN, fS, dfz, fzK, dbreak, dcont, wipeD, List.map_cons, List.map_nil, List.length_cons, List.length_nil, List.replicate, List.cons_append, List.nil_append, List.getElem?_cons_zero, List.getElem?_cons_succ, List.set_cons_zero, List.set_cons_succ, atI_zero, atI_one, atI_two, atI_three, ixN_zero, ixN_one, mset_same, mset_mset, mdel_mset, List.length_map, vw_one, Option.isSome_some, true_and, and_true, dmk, dmk0, dxf, disx, mkS, okX]
    refine dlc_map (as := c) (f := sX) (v := fun s => nX s.1) (by omega) trivial ?_ fun s R hs hR => by simp only [dseq, dasg, dasgG, dgsub, setL, dop, dun, dcb, dcons, dnil, dret, dretN, dnext, ddrop, diff, dif, dtest, dand, dor, dnot, dandV, dorV, dnotV, dchain, daug, dpar, dforS, dlc, dyes, dlst, dtup, dbm, fAppend, fPop, dvar, dc, fIx, fSl, dsl, dpart, dno, fI, fI0, fU, fAdd, fMul, fInt, fAbs, fLen, fMin2, fList, fEq, fIsN, gI, gB, lstOf, lstO, newl, dgname, dgtup, dgcons, dgnil, dirng1, dirng2, dilst, ditup, dienum, dizip, stays, startD, endD, dcallP, dcallN, fS, dfz, fzK, dbreak, dcont, wipeD, List.map_cons, List.map_nil, List.length_cons, List.length_nil, List.replicate, List.cons_append, List.nil_append, List.getElem?_cons_zero, List.getElem?_cons_succ, List.set_cons_zero, List.set_cons_succ, atI_zero, atI_one, atI_two, atI_three, ixN_zero, ixN_one, mset_same, mset_mset, mdel_mset, List.length_map, vw_one, Option.isSome_some, true_and, and_true, dmk, dmk0, dxf, disx, mkS, okX, sX]; exact hR
    refine ⟨true, c.map (·.1), by rw [vw_lst, List.map_map]; rfl, hc.es, by rw [List.length_map]; exact hcl, ?_⟩
    exact rt_pure rfl q
def g_rests : PF := fun xs P _ => ∃ (n : Nat) (ps : List E2) (b1 b2 : Bool) (l : List Int), xs = [nX n, .lst b1 (ps.map pX), .lst b2 (l.map X.int)] ∧ n ≤ 1000 ∧ ps.length ≤ 1000 ∧ l.length = ps.length ∧ WF n ps ∧ P (.lst true (rowI n (imb ps (amt l))))
abbrev s_law_rests : Stmt := topS 43
theorem sc_law_rests : FnScope ["many", "pairs", "row", "rests", "edge", "vertex"] ["many", "pairs", "row"] (defScope s_law_rests) := ⟨rfl, rfl, rfl, by decide +kernel, rfl, by decide +kernel, by decide +kernel⟩
theorem cal_law_rests (B : Blt2 mg) (D : Def K mg "_law_rests" s_law_rests) : Cal true P w K mg base CX0 "_law_rests" 1 ["many", "pairs", "row"] (PFd g_rests) := by
  refine Cal.mk' D (fun _ _ _ _ _ _ us hl => match us, hl with | [_, _, _], _ => rfl) fun f fdt F => fnD F sc_law_rests (fun xs M Q E h => ?len) fun cdv A outer s H E hr => ⟨_,
    ((pssd_cons (psd_setLc true 3 [("vertex", 5)] anti0 sc_law_rests.nd (sw_true rfl rfl rfl (by decide +kernel)) (pid_range1 (by rfl) B.range (pad_cons (pd_var 0) pad_nil)) (blkOk_by (own := [("vertex", 5)]) (N := ["many", "pairs", "row", "rests", "edge", "vertex"]) (sc := defScope s_law_rests) (by decide +kernel)) (fun _ _ _ _ _ => (pgl_name 5 sc_law_rests.nd)) (fun _ _ _ _ _ => ptsd_nil) (fun _ _ _ _ _ => pd_int))
(pssd_cons (psd_for anti0 PassesOwn.never rfl (pid_range1 (by rfl) B.range (pad_cons (pd_callB call_len_seq snd_len (by rfl) B.len PySem.boot_len (pad_cons (pd_var 1) pad_nil)) pad_nil)) (pgd_name 4 sc_law_rests.nd)
(pssd_cons (psd_asg (pd_add false (pd_ix (pd_var 3) (pd_ix (pd_ix (pd_var 1) (pd_var 4)) pd_int)) (pd_ix (pd_var 2) (pd_var 4))) (pgd_sub (pd_var 3) (pd_ix (pd_ix (pd_var 1) (pd_var 4)) pd_int)))
(pssd_one (psd_asg (pd_sub (pd_ix (pd_var 3) (pd_ix (pd_ix (pd_var 1) (pd_var 4)) pd_int)) (pd_ix (pd_var 2) (pd_var 4))) (pgd_sub (pd_var 3) (pd_ix (pd_ix (pd_var 1) (pd_var 4)) pd_int))))))
(pssd_one (psd_ret (pd_fz (pd_var 3))))))), fun xs M Qd Ed h => ?rd⟩
  case len =>
    obtain ⟨_, n, ps, b1, b2, l, rfl, _⟩ := h
    rfl
  case rd =>
    obtain ⟨rfl, n, ps, b1, b2, l, rfl, hn, hm, hl, wf, q⟩ := h
    simp only [dseq, dasg, dasgG, dgsub, setL, dop, dun, dcb, dcons, dnil, dret, dretN, dnext, ddrop, diff, dif, dtest, dand, dor, dnot, dandV, dorV, dnotV, dchain, daug, dpar, dforS, dlc, dyes, dlst, dtup, dbm, fAppend, fPop, dvar, dc, fIx, fSl, dsl, dpart, dno, fI, fI0, fU, fAdd, fMul, fInt, fAbs, fLen, fMin2, fList, fEq, fIsN, gI, gB, lstOf, lstO, newl, dgname, dgtup, dgcons, dgnil, dirng1, dirng2, dilst, ditup, dienum, dizip, stays, startD, endD, dcallP, dcallN, fS, dfz, fzK, dbreak, dcont, wipeD, List.map_cons, List.map_nil, List.length_cons, List.length_nil, List.replicate, List.cons_append, List.nil_append, List.getElem?_cons_zero, List.getElem?_cons_succ, List.set_cons_zero, List.set_cons_succ, atI_zero, atI_one, atI_two, atI_three, ixN_zero, ixN_one, mset_same, mset_mset, mdel_mset, List.length_map, vw_one, Option.isSome_some, true_and, and_true, dmk, dmk0, dxf, disx, mkS, okX]
    rw [Int.toNat_natCast]
    refine ⟨by omega, by omega, ?_⟩
    refine dlc_map (as := List.range n) (f := fun i => .int (i : Nat)) (v := fun _ => .int 0) (by rw [List.length_range]; omega) trivial ?_ fun v R hv hR => by simp only [dseq, dasg, dasgG, dgsub, setL, dop, dun, dcb, dcons, dnil, dret, dretN, dnext, ddrop, diff, dif, dtest, dand, dor, dnot, dandV, dorV, dnotV, dchain, daug, dpar, dforS, dlc, dyes, dlst, dtup, dbm, fAppend, fPop, dvar, dc, fIx, fSl, dsl, dpart, dno, fI, fI0, fU, fAdd, fMul, fInt, fAbs, fLen, fMin2, fList, fEq, fIsN, gI, gB, lstOf, lstO, newl, dgname, dgtup, dgcons, dgnil, dirng1, dirng2, dilst, ditup, dienum, dizip, stays, startD, endD, dcallP, dcallN, fS, dfz, fzK, dbreak, dcont, wipeD, List.map_cons, List.map_nil, List.length_cons, List.length_nil, List.replicate, List.cons_append, List.nil_append, List.getElem?_cons_zero, List.getElem?_cons_succ, List.set_cons_zero, List.set_cons_succ, atI_zero, atI_one, atI_two, atI_three, ixN_zero, ixN_one, mset_same, mset_mset, mdel_mset, List.length_map, vw_one, Option.isSome_some, true_and, and_true, dmk, dmk0, dxf, disx, mkS, okX]; exact hR
    intro p hp
    refine ⟨by omega, by omega, ?_⟩
    rw [Int.toNat_natCast]
    refine dfor_rng (fun i δ M => ∃ y4 : Option X, δ = [some (nX n), some (.lst b1 (ps.map pX)), some (.lst b2 (l.map X.int)), some (.ptr p), y4, none] ∧ M = mset m0 p (.lst (rowI n (imbT ps (amt l) i)))) ⟨none, rfl, ?_⟩ ?_ ?_
    · congr 2
    · rintro δ M ⟨y4, rfl, rfl⟩
      refine ⟨trivial, ?_⟩
      simp only [dseq, dasg, dasgG, dgsub, setL, dop, dun, dcb, dcons, dnil, dret, dretN, dnext, ddrop, diff, dif, dtest, dand, dor, dnot, dandV, dorV, dnotV, dchain, daug, dpar, dforS, dlc, dyes, dlst, dtup, dbm, fAppend, fPop, dvar, dc, fIx, fSl, dsl, dpart, dno, fI, fI0, fU, fAdd, fMul, fInt, fAbs, fLen, fMin2, fList, fEq, fIsN, gI, gB, lstOf, lstO, newl, dgname, dgtup, dgcons, dgnil, dirng1, dirng2, dilst, ditup, dienum, dizip, stays, startD, endD, dcallP, dcallN, fS, dfz, fzK, dbreak, dcont, wipeD, List.map_cons, List.map_nil, List.length_cons, List.length_nil, List.replicate, List.cons_append, List.nil_append, List.getElem?_cons_zero, List.getElem?_cons_succ, List.set_cons_zero, List.set_cons_succ, atI_zero, atI_one, atI_two, atI_three, ixN_zero, ixN_one, mset_same, mset_mset, mdel_mset, List.length_map, vw_one, Option.isSome_some, true_and, and_true, dmk, dmk0, dxf, disx, mkS, okX]
      refine rt_pure ?_ q
      simp only [own, own_rowI, Bool.and_self]
    · rintro i δ M R hi ⟨y4, rfl, rfl⟩ k
      refine ⟨trivial, ?_⟩
      have huv := wf (tl ps i, hd ps i) (by
        have : (tl ps i, hd ps i) = ps[i] := by unfold tl hd; rw [List.getD_eq_getElem?_getD, List.getElem?_eq_getElem hi]; rfl
        rw [this]; exact List.getElem_mem _)
      have at1 : atI (l.map X.int) (i : Int) = some (.int (amt l i)) := atM X.int (by omega) 0
      have apx : atI (ps.map pX) (i : Int) = some (pX (tl ps i, hd ps i)) := atM pX hi (0, 0)
      have ai : ∀ (f : Nat → Int) (v : Nat), v < n → atI (rowI n f) ((v : Nat) : Int) = some (.int (f v)) := fun f v hv => rowI_at hv
      have ix : ∀ v : Nat, v < n → ixN n ((v : Nat) : Int) = some v := fun v hv => by rw [ixN_of (by omega) (by omega), Int.toNat_natCast]
      simp only [dseq, dasg, dasgG, dgsub, setL, dop, dun, dcb, dcons, dnil, dret, dretN, dnext, ddrop, diff, dif, dtest, dand, dor, dnot, dandV, dorV, dnotV, dchain, daug, dpar, dforS, dlc, dyes, dlst, dtup, dbm, fAppend, fPop, dvar, dc, fIx, fSl, dsl, dpart, dno, fI, fI0, fU, fAdd, fMul, fInt, fAbs, fLen, fMin2, fList, fEq, fIsN, gI, gB, lstOf, lstO, newl, dgname, dgtup, dgcons, dgnil, dirng1, dirng2, dilst, ditup, dienum, dizip, stays, startD, endD, dcallP, dcallN, fS, dfz, fzK, dbreak, dcont, wipeD, List.map_cons, List.map_nil, List.length_cons, List.length_nil, List.replicate, List.cons_append, List.nil_append, List.getElem?_cons_zero, List.getElem?_cons_succ, List.set_cons_zero, List.set_cons_succ, atI_zero, atI_one, atI_two, atI_three, ixN_zero, ixN_one, mset_same, mset_mset, mdel_mset, List.length_map, vw_one, Option.isSome_some, true_and, and_true, dmk, dmk0, dxf, disx, mkS, okX, at1, apx, pX, ai _ _ huv.2, rowI_len, ix _ huv.2, rowI_set, ai _ _ huv.1, ix _ huv.1]
      refine k _ _ ⟨_, rfl, ?_⟩
      congr 2
      refine rowI_congr fun w hw => ?_
      rw [imbT_succ]
      generalize tl ps i = u
      generalize hd ps i = v
      unfold Fl.dl
      by_cases h1 : w = v
      · subst h1
        by_cases h2 : w = u
        · subst h2; simp
        · rw [if_pos rfl, if_neg (show ¬ (w = u) from h2), if_pos rfl, if_neg (show ¬ (u = w) from Ne.symm h2)]; omega
      · by_cases h2 : w = u
        · subst h2
          rw [if_neg h1, if_pos rfl, if_neg (show ¬ (v = w) from Ne.symm h1), if_pos rfl]
          rw [show amt l i * ((0 : Int) - 1) = - amt l i by rw [Int.zero_sub, Int.mul_neg, Int.mul_one]]
          first | rw [if_neg h1] | skip
          omega
        · rw [if_neg h1, if_neg h2, if_neg (show ¬ (v = w) from Ne.symm h1), if_neg (show ¬ (u = w) from Ne.symm h2)]
          simp
def g_isflow : PF := fun xs P _ => ∃ (n : Nat) (ps : List E2) (b1 b2 : Bool) (l : List Int) (most : Int), xs = [nX n, .lst b1 (ps.map pX), .lst b2 (l.map X.int), .int most] ∧ n ≤ 1000 ∧ ps.length ≤ 1000 ∧ l.length = ps.length ∧ WF n ps ∧ (∀ a ∈ l, 1 ≤ (if a < 0 then -a else a) ∧ (if a < 0 then -a else a) ≤ most) ∧ (∀ v, v < n → imb ps (amt l) v = 0) ∧ P (.bl true)
abbrev s_law_is_flow : Stmt := topS 44
theorem sc_law_is_flow : FnScope ["many", "pairs", "row", "most", "amount", "rest"] ["many", "pairs", "row", "most"] (defScope s_law_is_flow) := ⟨rfl, rfl, rfl, by decide +kernel, rfl, by decide +kernel, by decide +kernel⟩
theorem cal_law_is_flow (B : Blt2 mg) (D : Def K mg "_law_is_flow" s_law_is_flow) (c_law_rests : Cal true P w K mg base CX0 "_law_rests" 1 ["many", "pairs", "row"] (PFd g_rests)) : Cal true P w K mg base CX0 "_law_is_flow" 2 ["many", "pairs", "row", "most"] (PFd g_isflow) := by
  refine Cal.mk' D (fun _ _ _ _ _ _ us hl => match us, hl with | [_, _, _, _], _ => rfl) fun f fdt F => fnD F sc_law_is_flow (fun xs M Q E h => ?len) fun cdv A outer s H E hr => ⟨_,
    ((pssd_cons (psd_if (pwd_or (ptd_not (ptd_val (pd_isB (T := "list") (by decide) (pd_var 2) (by exact B.isinstance) B.list (by decide +kernel)))) (pwd_or1 (ptd_cmp op_ne snd_ne (pd_callB call_len_seq snd_len (by rfl) B.len PySem.boot_len (pad_cons (pd_var 2) pad_nil)) (pd_callB call_len_seq snd_len (by rfl) B.len PySem.boot_len (pad_cons (pd_var 1) pad_nil)) (nomark _)))).pt
(pssd_one (psd_ret pd_bl))
pssd_nil)
(pssd_cons (psd_for anti0 PassesOwn.never rfl (pid_list (pd_var 2)) (pgd_name 4 sc_law_is_flow.nd)
(pssd_one (psd_if (pwd_or (ptd_not (ptd_val (pd_isB (T := "int") (by decide) (pd_var 4) (by exact B.isinstance) B.int (by decide +kernel)))) (pwd_or (ptd_val (pd_isB (T := "bool") (by decide) (pd_var 4) (by exact B.isinstance) B.bool (by decide +kernel))) (pwd_or1 (ptd_not (ptd_chain op_le snd_B op_le snd_B pd_int (pd_callB call_abs snd_abs (by rfl) B.abs (by decide +kernel) (pad_cons (pd_var 4) pad_nil)) (pd_var 3)))))).pt
(pssd_one (psd_ret pd_bl))
pssd_nil)))
(pssd_one (psd_ret (pd_cmp (op_eqD hr.units) snd_eqD (pd_lc false [("rest", 5)] anti0 sc_law_is_flow.nd (pid_list (pd_cP 2 c_law_rests (hr.mono (by decide)) pass0 we0 (pad_cons (pd_var 0) (pad_cons (pd_var 1) (pad_cons (pd_var 2) pad_nil))))) (blkOk_by (own := [("rest", 5)]) (N := ["many", "pairs", "row", "most", "amount", "rest"]) (sc := defScope s_law_is_flow) (by decide +kernel)) (fun _ _ _ _ _ => (pgl_name 5 sc_law_is_flow.nd)) (fun _ _ _ _ _ => (ptsd_one (ptd_cmp op_ne snd_ne (pd_var 5) pd_int (nomark _)))) (fun _ _ _ _ _ => (pd_var 5))) (pd_lst false pad_nil) (nomark _))))))), fun xs M Qd Ed h => ?rd⟩
  case len =>
    obtain ⟨_, n, ps, b1, b2, l, most, rfl, _⟩ := h
    rfl
  case rd =>
    obtain ⟨rfl, n, ps, b1, b2, l, most, rfl, hn, hm, hl, wf, hb, hz, q⟩ := h
    simp only [dseq, dasg, dasgG, dgsub, setL, dop, dun, dcb, dcons, dnil, dret, dretN, dnext, ddrop, diff, dif, dtest, dand, dor, dnot, dandV, dorV, dnotV, dchain, daug, dpar, dforS, dlc, dyes, dlst, dtup, dbm, fAppend, fPop, dvar, dc, fIx, fSl, dsl, dpart, dno, fI, fI0, fU, fAdd, fMul, fInt, fAbs, fLen, fMin2, fList, fEq, fIsN, gI, gB, lstOf, lstO, newl, dgname, dgtup, dgcons, dgnil, dirng1, dirng2, dilst, ditup, dienum, dizip, stays, startD, endD, dcallP, dcallN, fS, dfz, fzK, dbreak, dcont, wipeD, List.map_cons, List.map_nil, List.length_cons, List.length_nil, List.replicate, List.cons_append, List.nil_append, List.getElem?_cons_zero, List.getElem?_cons_succ, List.set_cons_zero, List.set_cons_succ, atI_zero, atI_one, atI_two, atI_three, ixN_zero, ixN_one, mset_same, mset_mset, mdel_mset, List.length_map, vw_one, Option.isSome_some, true_and, and_true, dmk, dmk0, dxf, disx, mkS, okX, disB, tyX]
    rw [show isTy "list" "list" = true from rfl, tt (show ((l.length : Nat) : Int) = ((ps.length : Nat) : Int) by omega)]
    refine dfor_map (as := l) (f := X.int) (fun i δ M => ∃ y4 : Option X, δ = [some (nX n), some (.lst b1 (ps.map pX)), some (.lst b2 (l.map X.int)), some (.int most), y4, none] ∧ M = m0) ⟨none, rfl, rfl⟩ ?_ ?_
    · rintro δ M ⟨y4, rfl, rfl⟩
      refine ⟨trivial, ?_⟩
      simp only [dseq, dasg, dasgG, dgsub, setL, dop, dun, dcb, dcons, dnil, dret, dretN, dnext, ddrop, diff, dif, dtest, dand, dor, dnot, dandV, dorV, dnotV, dchain, daug, dpar, dforS, dlc, dyes, dlst, dtup, dbm, fAppend, fPop, dvar, dc, fIx, fSl, dsl, dpart, dno, fI, fI0, fU, fAdd, fMul, fInt, fAbs, fLen, fMin2, fList, fEq, fIsN, gI, gB, lstOf, lstO, newl, dgname, dgtup, dgcons, dgnil, dirng1, dirng2, dilst, ditup, dienum, dizip, stays, startD, endD, dcallP, dcallN, fS, dfz, fzK, dbreak, dcont, wipeD, List.map_cons, List.map_nil, List.length_cons, List.length_nil, List.replicate, List.cons_append, List.nil_append, List.getElem?_cons_zero, List.getElem?_cons_succ, List.set_cons_zero, List.set_cons_succ, atI_zero, atI_one, atI_two, atI_three, ixN_zero, ixN_one, mset_same, mset_mset, mdel_mset, List.length_map, vw_one, Option.isSome_some, true_and, and_true, dmk, dmk0, dxf, disx, mkS, okX]
      refine ⟨n, ps, b1, b2, l, by simp [vw], hn, hm, hl, wf, ?_⟩
      simp only [dseq, dasg, dasgG, dgsub, setL, dop, dun, dcb, dcons, dnil, dret, dretN, dnext, ddrop, diff, dif, dtest, dand, dor, dnot, dandV, dorV, dnotV, dchain, daug, dpar, dforS, dlc, dyes, dlst, dtup, dbm, fAppend, fPop, dvar, dc, fIx, fSl, dsl, dpart, dno, fI, fI0, fU, fAdd, fMul, fInt, fAbs, fLen, fMin2, fList, fEq, fIsN, gI, gB, lstOf, lstO, newl, dgname, dgtup, dgcons, dgnil, dirng1, dirng2, dilst, ditup, dienum, dizip, stays, startD, endD, dcallP, dcallN, fS, dfz, fzK, dbreak, dcont, wipeD, List.map_cons, List.map_nil, List.length_cons, List.length_nil, List.replicate, List.cons_append, List.nil_append, List.getElem?_cons_zero, List.getElem?_cons_succ, List.set_cons_zero, List.set_cons_succ, atI_zero, atI_one, atI_two, atI_three, ixN_zero, ixN_one, mset_same, mset_mset, mdel_mset, List.length_map, vw_one, Option.isSome_some, true_and, and_true, dmk, dmk0, dxf, disx, mkS, okX]
      unfold rowI
      refine dlc_filter (as := List.range n) (f := fun v => X.int (imb ps (amt l) v)) (v := fun v => X.int (imb ps (amt l) v)) (pr := fun v => decide (imb ps (amt l) v ≠ 0)) (by rw [List.length_range]; omega) trivial ?_ fun v R S hv h1 h2 => ?_
      · rw [List.filter_eq_nil_iff.mpr (fun v hv => by rw [hz v (List.mem_range.mp hv)]; simp)]
        simp only [dseq, dasg, dasgG, dgsub, setL, dop, dun, dcb, dcons, dnil, dret, dretN, dnext, ddrop, diff, dif, dtest, dand, dor, dnot, dandV, dorV, dnotV, dchain, daug, dpar, dforS, dlc, dyes, dlst, dtup, dbm, fAppend, fPop, dvar, dc, fIx, fSl, dsl, dpart, dno, fI, fI0, fU, fAdd, fMul, fInt, fAbs, fLen, fMin2, fList, fEq, fIsN, gI, gB, lstOf, lstO, newl, dgname, dgtup, dgcons, dgnil, dirng1, dirng2, dilst, ditup, dienum, dizip, stays, startD, endD, dcallP, dcallN, fS, dfz, fzK, dbreak, dcont, wipeD, List.map_cons, List.map_nil, List.length_cons, List.length_nil, List.replicate, List.cons_append, List.nil_append, List.getElem?_cons_zero, List.getElem?_cons_succ, List.set_cons_zero, List.set_cons_succ, atI_zero, atI_one, atI_two, atI_three, ixN_zero, ixN_one, mset_same, mset_mset, mdel_mset, List.length_map, vw_one, Option.isSome_some, true_and, and_true, dmk, dmk0, dxf, disx, mkS, okX, fEqD, dX, dXs, gM]
        refine ⟨Nat.zero_le _, rfl, rfl, ?_⟩
        exact rt_pure rfl q
      · have h0 := hz v (List.mem_range.mp hv)
        rw [h0] at h2 ⊢
        simp only [dseq, dasg, dasgG, dgsub, setL, dop, dun, dcb, dcons, dnil, dret, dretN, dnext, ddrop, diff, dif, dtest, dand, dor, dnot, dandV, dorV, dnotV, dchain, daug, dpar, dforS, dlc, dyes, dlst, dtup, dbm, fAppend, fPop, dvar, dc, fIx, fSl, dsl, dpart, dno, fI, fI0, fU, fAdd, fMul, fInt, fAbs, fLen, fMin2, fList, fEq, fIsN, gI, gB, lstOf, lstO, newl, dgname, dgtup, dgcons, dgnil, dirng1, dirng2, dilst, ditup, dienum, dizip, stays, startD, endD, dcallP, dcallN, fS, dfz, fzK, dbreak, dcont, wipeD, List.map_cons, List.map_nil, List.length_cons, List.length_nil, List.replicate, List.cons_append, List.nil_append, List.getElem?_cons_zero, List.getElem?_cons_succ, List.set_cons_zero, List.set_cons_succ, atI_zero, atI_one, atI_two, atI_three, ixN_zero, ixN_one, mset_same, mset_mset, mdel_mset, List.length_map, vw_one, Option.isSome_some, true_and, and_true, dmk, dmk0, dxf, disx, mkS, okX]
        have e3 : ∀ d : Decidable True, (true != @decide True d) = false := fun d => by rw [@decide_eq_true _ d trivial]; rfl
        first | rw [e3] | skip
        exact h2 rfl
    · rintro i a δ M R hi ⟨y4, rfl, rfl⟩ k
      refine ⟨trivial, ?_⟩
      have hb1 := hb a (List.mem_of_getElem? hi)
      simp only [dseq, dasg, dasgG, dgsub, setL, dop, dun, dcb, dcons, dnil, dret, dretN, dnext, ddrop, diff, dif, dtest, dand, dor, dnot, dandV, dorV, dnotV, dchain, daug, dpar, dforS, dlc, dyes, dlst, dtup, dbm, fAppend, fPop, dvar, dc, fIx, fSl, dsl, dpart, dno, fI, fI0, fU, fAdd, fMul, fInt, fAbs, fLen, fMin2, fList, fEq, fIsN, gI, gB, lstOf, lstO, newl, dgname, dgtup, dgcons, dgnil, dirng1, dirng2, dilst, ditup, dienum, dizip, stays, startD, endD, dcallP, dcallN, fS, dfz, fzK, dbreak, dcont, wipeD, List.map_cons, List.map_nil, List.length_cons, List.length_nil, List.replicate, List.cons_append, List.nil_append, List.getElem?_cons_zero, List.getElem?_cons_succ, List.set_cons_zero, List.set_cons_succ, atI_zero, atI_one, atI_two, atI_three, ixN_zero, ixN_one, mset_same, mset_mset, mdel_mset, List.length_map, vw_one, Option.isSome_some, true_and, and_true, dmk, dmk0, dxf, disx, mkS, okX, disB, tyX]
      rw [show isTy "int" "int" = true from rfl, show isTy "int" "bool" = false from rfl, tt hb1.1, tt hb1.2]
      exact k _ _ ⟨_, rfl, rfl⟩
end
end K53


set_option maxRecDepth 100000
set_option maxHeartbeats 0
namespace K53
open PySem PySem.Spec PyProof.Rows L2 DL Fl
section
variable {P : Program} {w : World} {K : PySem.W.Frag} {mg : Str → Option Value} {base : Heap} {C : Addr}
def f_cubic : SF := fun nums k r P => ∃ halves : Bool, r = [.bl halves] ∧ NumsOk nums ∧ ∀ (n : Nat) (ps : List E2) (k' : Int), CubicOk halves n ps → P (.lst true [nX n, .lst true (ps.map pX)]) k'
theorem ev_next {a : DA} {δ : Dl} {M M1 : Mu} {st : Addr} {nums : List Int} {k n : Int} (h : EvA a δ M [.ptr st, .int n] M1) (hM : M1 st = some (DL.stC nums k)) (h0 : 0 < n) (hn : NumsOk nums) : Ev (dcb (fS 2 f_next) a) δ M (.int (nxt nums k n)) (mset M1 st (DL.stC nums (k + 1))) := fun Q q =>
  h _ ⟨nums, k, hM, n, by simp [vw], h0, hn, q⟩
theorem sh_call {a : DA} {δ : Dl} {M M1 : Mu} {st : Addr} {nums : List Int} {k : Int} {m : Nat} {Q : VKd} (h : EvA a δ M [.ptr st, nX m] M1) (hM : M1 st = some (DL.stC nums k)) (hm : m ≤ 1000) (hn : NumsOk nums) (q : ∀ (row : List Nat) (k' : Int), row.Perm (List.range m) → Q (.lst true (row.map nX)) (mset M1 st (DL.stC nums k'))) : dcb (fS 2 f_shuf) a δ M Q :=
  h _ ⟨nums, k, hM, m, by simp [vw], hm, hn, q⟩
theorem seq_mid {s t : DS} {D : EndsD} {δ : Dl} {M : Mu} (I : Dl → Mu → Prop) (h1 : ∀ R : Dl → Mu → Prop, (∀ δ M, I δ M → R δ M) → s { D with nx := R } δ M) (h2 : ∀ δ M, I δ M → t D δ M) : dseq s t D δ M := h1 (t D) h2
theorem ev_mul2 {e : DE} {δ : Dl} {M M1 : Mu} {c i : Int} (h : Ev e δ M (.int i) M1) (hc : CMul c i) : Ev (dop (fMul false) (dc (.int c)) e) δ M (.int (c * i)) M1 := fun Q q => h _ ⟨hc, q⟩
theorem st_ne {M : Mu} {st p : Addr} {nums : List Int} {k : Int} (h : mset M st (DL.stC nums k) p = none) : p ≠ st := fun e => by rw [e, mset_same] at h; cases h
theorem ev_ifI {c : DT} {e1 e2 : DE} {δ : Dl} {M M1 M2 : Mu} {d : Bool} {i j : Int} (h : EvT c δ M d M1) (k1 : d = true → Ev e1 δ M1 (.int i) M2) (k2 : d = false → Ev e2 δ M1 (.int j) M2) : Ev (dif c e1 e2) δ M (.int (if d then i else j)) M2 := fun Q q => h _ (by
  cases d
  · exact k2 rfl Q q
  · exact k1 rfl Q q)
theorem ev_fl {e : DE} {δ : Dl} {M M1 : Mu} {i j : Int} (h : Ev e δ M (.int i) M1) (hc : CDiv i j) : Ev (dop (fI CDiv (gI fun i j => i / j)) e (dc (.int j))) δ M (.int (i / j)) M1 := fun Q q => h _ ⟨hc, q⟩
theorem dif1 {c : DT} {a b : DS} {D : EndsD} {δ : Dl} {M M1 : Mu} (h : EvT c δ M true M1) (k : a D δ M1) : diff c a b D δ M := h _ k
theorem dif0 {c : DT} {a b : DS} {D : EndsD} {δ : Dl} {M M1 : Mu} (h : EvT c δ M false M1) (k : b D δ M1) : diff c a b D δ M := h _ k
theorem end_rng {a : DA} {g : DG} {body : DS} {D : EndsD} {δ : Dl} {M M1 : Mu} {j : Int} (h : EvA a δ M [.int j] M1) (hj : j < 2 ^ 60) (hj0 : 0 ≤ j) (I : Nat → Dl → Mu → Prop) (h0 : I 0 δ M1) (k : ∀ δ M, I j.toNat δ M → D.nx δ M)
    (hb : ∀ (i : Nat) (δ : Dl) (M : Mu) (R B : Dl → Mu → Prop), i < j.toNat → I i δ M → (∀ δ' M', I (i + 1) δ' M' → R δ' M') → g (.int i) δ M fun δ1 M1 => body { nx := R, rt := D.rt, ct := R, bk := B } δ1 M1) : dforS (dirng1 a) g body D δ M := by
  refine h _ ⟨hj, by omega, ?_⟩
  refine dfor_rng I h0 (fun δ M q => ⟨trivial, k δ M q⟩) fun i δ M R hi q kk => ⟨trivial, ?_⟩
  exact hb i δ M R _ hi q kk
theorem mset_st {M : Mu} {st : Addr} {c c' : Cell} {p : Addr} {z : Cell} (hne : p ≠ st) : mset (mset (mset M st c) p z) st c' = mset (mset M st c') p z := by
  rw [mset_comm hne, mset_mset]
/-- a drawn base of a cubic graph -/
def BaseOk (halves : Bool) (n : Nat) (base : List E2) : Prop := base.length ≤ 150 ∧ WF n base ∧ (∀ v, v < n → (endsF base).count v = 3) ∧ (halves = true → ∃ col : Nat → Bool, ∀ p ∈ base, col p.1 ≠ col p.2)
abbrev s_law_cubic : Stmt := topS 45
theorem sc_law_cubic : FnScope ["state", "halves", "many", "pairs", "turn", "row", "place", "ends", "names", "found", "pair"] ["state", "halves"] (defScope s_law_cubic) := ⟨rfl, rfl, rfl, by decide +kernel, rfl, by decide +kernel, by decide +kernel⟩
theorem cal_law_cubic (B : Blt2 mg) (D : Def K mg "_law_cubic" s_law_cubic) (c_law_next : Cal true P w K mg base CX0 "_law_next" 1 ["state", "many"] (SFd f_next)) (c_law_shuffled : Cal true P w K mg base CX0 "_law_shuffled" 2 ["state", "many"] (SFd f_shuf)) : Cal true P w K mg base CX0 "_law_cubic" 3 ["state", "halves"] (SFd f_cubic) := by
  refine Cal.mk' D (fun _ _ _ _ _ _ us hl => match us, hl with | [_, _], _ => rfl) fun f fdt F => fnD F sc_law_cubic (fun xs M Q E h => ?len) fun cdv A outer s H E hr => ⟨_,
    ((pssd_cons (psd_set 2 sc_law_cubic.nd (pd_mul false pd_int (pd_cS 2 c_law_next (hr.mono (by decide)) pass0 (pad_cons (pd_var 0) (pad_cons (pd_if (ptd_cmp op_eq snd_eq (pd_cS 2 c_law_next (hr.mono (by decide)) pass0 (pad_cons (pd_var 0) (pad_cons pd_int pad_nil))) pd_int (nomark _)) pd_int pd_int) pad_nil)))))
(pssd_cons (psd_set 3 sc_law_cubic.nd (pd_lst true pad_nil))
(pssd_cons (psd_if (ptd_val (pd_var 1))
(pssd_one (psd_for anti0 PassesOwn.never rfl (pid_range1 (by rfl) B.range (pad_cons pd_int pad_nil)) (pgd_name 4 sc_law_cubic.nd)
(pssd_cons (psd_set 5 sc_law_cubic.nd (pd_cS 2 c_law_shuffled (hr.mono (by decide)) pass0 (pad_cons (pd_var 0) (pad_cons (pd_fdiv (pd_var 2) pd_int) pad_nil))))
(pssd_one (psd_for anti0 PassesOwn.never rfl (pid_range1 (by rfl) B.range (pad_cons (pd_fdiv (pd_var 2) pd_int) pad_nil)) (pgd_name 6 sc_law_cubic.nd)
(pssd_one (psd_expr (pd_bm PySem.F.slot_list_append PySem.F.type_list_append mt_append snd_append (pd_var 3) (pad_cons (pd_tup (pad_cons (pd_var 6) (pad_cons (pd_add false (pd_fdiv (pd_var 2) pd_int) (pd_ix (pd_var 5) (pd_var 6))) pad_nil))) pad_nil)))))))))
(pssd_cons (psd_set 7 sc_law_cubic.nd (pd_cS 2 c_law_shuffled (hr.mono (by decide)) pass0 (pad_cons (pd_var 0) (pad_cons (pd_mul false pd_int (pd_var 2)) pad_nil))))
(pssd_one (psd_for anti0 PassesOwn.never rfl (pid_range1 (by rfl) B.range (pad_cons (pd_fdiv (pd_mul false pd_int (pd_var 2)) pd_int) pad_nil)) (pgd_name 6 sc_law_cubic.nd)
(pssd_one (psd_expr (pd_bm PySem.F.slot_list_append PySem.F.type_list_append mt_append snd_append (pd_var 3) (pad_cons (pd_tup (pad_cons (pd_fdiv (pd_ix (pd_var 7) (pd_mul false pd_int (pd_var 6))) pd_int) (pad_cons (pd_fdiv (pd_ix (pd_var 7) (pd_add false (pd_mul false pd_int (pd_var 6)) pd_int)) pd_int) pad_nil))) pad_nil))))))))
(pssd_cons (psd_set 8 sc_law_cubic.nd (pd_cS 2 c_law_shuffled (hr.mono (by decide)) pass0 (pad_cons (pd_var 0) (pad_cons (pd_var 2) pad_nil))))
(pssd_cons (psd_set 9 sc_law_cubic.nd (pd_lst true pad_nil))
(pssd_cons (psd_for anti0 PassesOwn.never rfl (pid_list (pd_cS 2 c_law_shuffled (hr.mono (by decide)) pass0 (pad_cons (pd_var 0) (pad_cons (pd_callB call_len_seq snd_len (by rfl) B.len PySem.boot_len (pad_cons (pd_var 3) pad_nil)) pad_nil)))) (pgd_name 6 sc_law_cubic.nd)
(pssd_cons (psd_set 10 sc_law_cubic.nd (pd_tup (pad_cons (pd_ix (pd_var 8) (pd_ix (pd_ix (pd_var 3) (pd_var 6)) pd_int)) (pad_cons (pd_ix (pd_var 8) (pd_ix (pd_ix (pd_var 3) (pd_var 6)) pd_int)) pad_nil))))
(pssd_one (psd_expr (pd_bm PySem.F.slot_list_append PySem.F.type_list_append mt_append snd_append (pd_var 9) (pad_cons (pd_if (ptd_cmp op_eq snd_eq (pd_cS 2 c_law_next (hr.mono (by decide)) pass0 (pad_cons (pd_var 0) (pad_cons pd_int pad_nil))) pd_int (nomark _)) (pd_var 10) (pd_tup (pad_cons (pd_ix (pd_var 10) pd_int) (pad_cons (pd_ix (pd_var 10) pd_int) pad_nil)))) pad_nil))))))
(pssd_one (psd_ret (pd_lst false (pad_cons (pd_var 2) (pad_cons (pd_fz (pd_var 9)) pad_nil)))))))))))), fun xs M Qd Ed h => ?rd⟩
  case len =>
    obtain ⟨st, nums, k, r, rfl, _, _, halves, rfl, _⟩ := h
    rfl
  case rd =>
    obtain ⟨st, nums, k, r, rfl, h0, hM, halves, rfl, hn, q⟩ := h
    refine step_asg (S := fun x M1 => ∃ (h : Nat) (k' : Int), x = nX (2 * h) ∧ h ≤ 50 ∧ M1 = mset M st (DL.stC nums k')) (fun Q hQ => ?_) ?_
    · have go : ∀ (t : Int), 0 < t → t ≤ 51 → ∃ j : Nat, j ≤ 50 ∧ nxt nums (k + 1) t = (j : Int) := fun t h1 h2 => by
        have h3 := nxt_ge (nums := nums) (k := k + 1) (n := t) h1
        have h4 := nxt_lt (nums := nums) (k := k + 1) (n := t) h1
        exact ⟨(nxt nums (k + 1) t).toNat, by omega, by omega⟩
      have e1 := ev_next (a := dcons (dvar 0) (dcons (dc (.int 6)) dnil)) (ev_cons (ev_var (δ := (startD [Str.ofString "state", Str.ofString "halves", Str.ofString "many", Str.ofString "pairs", Str.ofString "turn", Str.ofString "row", Str.ofString "place", Str.ofString "ends", Str.ofString "names", Str.ofString "found", Str.ofString "pair"] [X.ptr st, X.bl halves])) rfl) (ev_cons ev_c ev_nil)) hM (by decide) hn
      have e2 := ev_ifI (evt_test (ev_eqI (n := false) e1 (ev_c (x := .int 0)))) (fun _ => ev_c (x := .int 51)) (fun _ => ev_c (x := .int 7))
      have hb : ∀ d : Bool, 0 < (if d then (51 : Int) else 7) ∧ (if d then (51 : Int) else 7) ≤ 51 := fun d => by cases d <;> decide
      obtain ⟨j, hj, ej⟩ := go _ (hb _).1 (hb _).2
      refine (ev_mul2 (ev_next (ev_cons (ev_var rfl) (ev_cons e2 ev_nil)) mset_same (hb _).1 hn) (cmul_l (by decide))) _ ?_
      rw [ej]
      exact hQ _ _ ⟨j, _, by rw [nX]; congr 1, hj, mset_mset⟩
    · rintro x M1 ⟨h, k1, rfl, hh, rfl⟩
      refine step_asg (S := fun x M1 => ∃ p, x = .ptr p ∧ p ≠ st ∧ M1 = mset (mset M st (DL.stC nums k1)) p (.lst [])) (fun Q hQ => ⟨Nat.zero_le _, fun p hp => hQ _ _ ⟨p, rfl, st_ne hp, rfl⟩⟩) ?_
      rintro x M1 ⟨p, rfl, hne, rfl⟩
      have eh2 : ((2 * h : Nat) : Int) / 2 = (h : Int) := by omega
      have cd2 : ∀ x : Int, CDiv x 2 := fun x => ⟨by decide, by decide⟩
      refine seq_mid (fun δ' M' => ∃ (y4 y5 y6 y7 : Option X) (k' : Int) (base : List E2), δ' = [some (.ptr st), some (.bl halves), some (nX (2 * h)), some (.ptr p), y4, y5, y6, y7, none, none, none] ∧ M' = mset (mset M st (DL.stC nums k')) p (.lst (base.map pX)) ∧ BaseOk halves (2 * h) base) ?_ ?_
      · intro R hR
        cases halves
        · refine dif0 (evt_test (ev_var rfl)) ?_
          refine step_asg (S := fun x M1 => ∃ (row : List Nat) (k' : Int), x = .lst true (row.map nX) ∧ row.Perm (List.range (3 * (2 * h))) ∧ M1 = mset (mset M st (DL.stC nums k')) p (.lst [])) (fun Q hQ => ?_) ?_
          · have ea : EvA (dcons (dvar 0) (dcons (dop (fMul false) (dc (X.int 3)) (dvar 2)) dnil)) [some (.ptr st), some (.bl false), some (nX (2 * h)), some (.ptr p), none, none, none, none, none, none, none] (mset (mset M st (DL.stC nums k1)) p (.lst [])) [.ptr st, nX (3 * (2 * h))] (mset (mset M st (DL.stC nums k1)) p (.lst [])) := by
              have e : nX (3 * (2 * h)) = .int (3 * ((2 * h : Nat) : Int)) := by unfold nX; congr 1
              rw [e]
              exact ev_cons (ev_var rfl) (ev_cons (ev_mul2 (ev_var rfl) (cmul_l (by decide))) ev_nil)
            refine sh_call ea (k := k1) (nums := nums) (by rw [mset_ne (Ne.symm hne), mset_same]) (by omega) hn fun row k' hp => ?_
            exact hQ _ _ ⟨row, k', rfl, hp, mset_st hne⟩
          rintro x M1 ⟨row, k2, rfl, hp, rfl⟩
          have hl : row.length = 3 * (2 * h) := by rw [hp.length_eq, List.length_range]
          have e3 : (3 * ((2 * h : Nat) : Int)) / 2 = ((3 * h : Nat) : Int) := by omega
          refine end_rng (j := ((3 * h : Nat) : Int)) (M1 := mset (mset M st (DL.stC nums k2)) p (.lst [])) (by rw [← e3]; exact ev_cons (ev_fl (ev_mul2 (ev_var rfl) (cmul_l (by decide))) (cd2 _)) ev_nil) (by omega) (by omega)
            (fun i δ' M' => ∃ y6 : Option X, δ' = [some (.ptr st), some (.bl false), some (nX (2 * h)), some (.ptr p), none, none, y6, some (.lst true (row.map nX)), none, none, none] ∧ M' = mset (mset M st (DL.stC nums k2)) p (.lst (((List.range i).map fun p => (row.getD (2 * p) 0 / 3, row.getD (2 * p + 1) 0 / 3)).map pX))) ⟨none, rfl, rfl⟩ ?_ ?_
          · rintro δ' M' ⟨y6, rfl, rfl⟩
            rw [Int.toNat_natCast]
            have hb := base_ends (n := 2 * h) (k := 3 * h) (row := row) (by omega) hp
            exact hR _ _ ⟨_, _, _, _, k2, prs (3 * h) row, rfl, rfl, by unfold prs; rw [List.length_map, List.length_range]; omega, hb.1, hb.2, fun z => nomatch z⟩
          · rintro i δ' M' R' B' hi ⟨y6, rfl, rfl⟩ kk
            rw [Int.toNat_natCast] at hi
            have a1 : atI (row.map nX) (2 * (i : Int)) = some (nX (row.getD (2 * i) 0)) := atM (i := 2 * i) nX (by omega) 0
            have a2 : atI (row.map nX) (2 * (i : Int) + 1) = some (nX (row.getD (2 * i + 1) 0)) := atM (i := 2 * i + 1) nX (by omega) 0
            have c2 : CMul 2 (i : Int) := cmul_l (by decide)
            have c3 : ∀ x : Int, CDiv x 3 := fun x => ⟨by decide, by decide⟩
            simp only [dseq, dasg, dasgG, dgsub, setL, dop, dun, dcb, dcons, dnil, dret, dretN, dnext, ddrop, diff, dif, dtest, dand, dor, dnot, dandV, dorV, dnotV, dchain, daug, dpar, dforS, dlc, dyes, dlst, dtup, dbm, fAppend, fPop, dvar, dc, fIx, fSl, dsl, dpart, dno, fI, fI0, fU, fAdd, fMul, fInt, fAbs, fLen, fMin2, fList, fEq, fIsN, gI, gB, lstOf, lstO, newl, dgname, dgtup, dgcons, dgnil, dirng1, dirng2, dilst, ditup, dienum, dizip, stays, startD, endD, dcallP, dcallN, fS, dfz, fzK, dbreak, dcont, wipeD, List.map_cons, List.map_nil, List.length_cons, List.length_nil, List.replicate, List.cons_append, List.nil_append, List.getElem?_cons_zero, List.getElem?_cons_succ, List.set_cons_zero, List.set_cons_succ, atI_zero, atI_one, atI_two, atI_three, ixN_zero, ixN_one, mset_same, mset_mset, mdel_mset, List.length_map, vw_one, Option.isSome_some, true_and, and_true, dmk, dmk0, dxf, disx, mkS, okX, a1, a2, c2, c3, true_and]
            refine ⟨line_ge (by decide), line_gt (by rw [List.length_range]; omega), kk _ _ ⟨_, rfl, ?_⟩⟩
            rw [List.range_succ, List.map_append, List.map_append]
            rfl
        · refine dif1 (evt_test (ev_var rfl)) ?_
          refine end_rng (j := 3) (ev_cons ev_c ev_nil) (by decide) (by decide)
            (fun t δ' M' => ∃ (y4 y5 y6 : Option X) (k' : Int) (rows : List (List Nat)), δ' = [some (.ptr st), some (.bl true), some (nX (2 * h)), some (.ptr p), y4, y5, y6, none, none, none, none] ∧ rows.length = t ∧ (∀ r ∈ rows, r.Perm (List.range h)) ∧ M' = mset (mset M st (DL.stC nums k')) p (.lst (((rows.map (blk h)).flatten).map pX))) ⟨none, none, none, k1, [], rfl, rfl, fun r hr => (nomatch hr), rfl⟩ ?_ ?_
          · rintro δ' M' ⟨y4, y5, y6, k', rows, rfl, hrl, hrp, rfl⟩
            obtain ⟨r1, r2, r3, rfl⟩ : ∃ r1 r2 r3, rows = [r1, r2, r3] := by
              match rows, hrl with
              | [a, b, c], _ => exact ⟨a, b, c, rfl⟩
            have hb := base_half (hrp r1 (by simp)) (hrp r2 (by simp)) (hrp r3 (by simp))
            have e : ([r1, r2, r3].map (blk h)).flatten = blk h r1 ++ blk h r2 ++ blk h r3 := by simp
            rw [e]
            exact hR _ _ ⟨_, _, _, _, k', _, rfl, rfl, by unfold blk; simp only [List.length_append, List.length_map, List.length_range]; omega, hb.1, hb.2.1, fun _ => ⟨fun v => decide (v < h), hb.2.2⟩⟩
          · rintro t δ' M' R' B' ht ⟨y4, y5, y6, k', rows, rfl, hrl, hrp, rfl⟩ kk
            have ht' : t < 3 := ht
            have hfl : (rows.map (blk h)).flatten.length ≤ 150 := by
              have : ∀ rs : List (List Nat), (rs.map (blk h)).flatten.length = rs.length * h := fun rs => by
                induction rs with
                | nil => rw [List.length_nil, Nat.zero_mul]; rfl
                | cons a rs ih => rw [List.map_cons, List.flatten_cons, List.length_append, ih, List.length_cons, Nat.succ_mul]; unfold blk; rw [List.length_map, List.length_range]; omega
              rw [this, hrl]
              have := Nat.mul_le_mul (show t ≤ 3 by omega) hh
              omega
            refine step_asg (S := fun x M1 => ∃ (row : List Nat) (k' : Int), x = .lst true (row.map nX) ∧ row.Perm (List.range h) ∧ M1 = mset (mset M st (DL.stC nums k')) p (.lst (((rows.map (blk h)).flatten).map pX))) (fun Q hQ => ?_) ?_
            · have ea : EvA (dcons (dvar 0) (dcons (dop (fI CDiv (gI fun i j => i / j)) (dvar 2) (dc (X.int 2))) dnil)) [some (.ptr st), some (.bl true), some (nX (2 * h)), some (.ptr p), some (.int (t : Nat)), y5, y6, none, none, none, none] (mset (mset M st (DL.stC nums k')) p (.lst (((rows.map (blk h)).flatten).map pX))) [.ptr st, nX h] (mset (mset M st (DL.stC nums k')) p (.lst (((rows.map (blk h)).flatten).map pX))) := by
                unfold nX
                rw [← eh2]
                exact ev_cons (ev_var rfl) (ev_cons (ev_fl (ev_var rfl) (cd2 _)) ev_nil)
              refine sh_call ea (k := k') (nums := nums) (by rw [mset_ne (Ne.symm hne), mset_same]) (by omega) hn fun row k' hp => ?_
              exact hQ _ _ ⟨row, k', rfl, hp, mset_st hne⟩
            rintro x M1 ⟨row, k2, rfl, hp, rfl⟩
            have hl : row.length = h := by rw [hp.length_eq, List.length_range]
            refine end_rng (j := ((h : Nat) : Int)) (M1 := mset (mset M st (DL.stC nums k2)) p (.lst (((rows.map (blk h)).flatten).map pX))) (by rw [← eh2]; exact ev_cons (ev_fl (ev_var rfl) (cd2 _)) ev_nil) (by omega) (by omega)
              (fun i δ' M' => ∃ y6 : Option X, δ' = [some (.ptr st), some (.bl true), some (nX (2 * h)), some (.ptr p), some (.int (t : Nat)), some (.lst true (row.map nX)), y6, none, none, none, none] ∧ M' = mset (mset M st (DL.stC nums k2)) p (.lst (((rows.map (blk h)).flatten ++ (List.range i).map fun i => (i, h + row.getD i 0)).map pX))) ⟨_, rfl, by rw [List.range_zero, List.map_nil, List.append_nil]⟩ ?_ ?_
            · rintro δ' M' ⟨y6, rfl, rfl⟩
              rw [Int.toNat_natCast]
              refine kk _ _ ⟨_, _, _, k2, rows ++ [row], rfl, by rw [List.length_append, hrl]; rfl, fun r hr => ?_, ?_⟩
              · rcases List.mem_append.mp hr with hr | hr
                · exact hrp r hr
                · rw [List.mem_singleton.mp hr]; exact hp
              · have e : ((rows ++ [row]).map (blk h)).flatten = (rows.map (blk h)).flatten ++ blk h row := by simp
                rw [e]
                rfl
            · rintro i δ' M' R'' B'' hi ⟨y6, rfl, rfl⟩ kk
              rw [Int.toNat_natCast] at hi
              have a1 : atI (row.map nX) (i : Int) = some (nX (row.getD i 0)) := atM nX (by omega) 0
              simp only [dseq, dasg, dasgG, dgsub, setL, dop, dun, dcb, dcons, dnil, dret, dretN, dnext, ddrop, diff, dif, dtest, dand, dor, dnot, dandV, dorV, dnotV, dchain, daug, dpar, dforS, dlc, dyes, dlst, dtup, dbm, fAppend, fPop, dvar, dc, fIx, fSl, dsl, dpart, dno, fI, fI0, fU, fAdd, fMul, fInt, fAbs, fLen, fMin2, fList, fEq, fIsN, gI, gB, lstOf, lstO, newl, dgname, dgtup, dgcons, dgnil, dirng1, dirng2, dilst, ditup, dienum, dizip, stays, startD, endD, dcallP, dcallN, fS, dfz, fzK, dbreak, dcont, wipeD, List.map_cons, List.map_nil, List.length_cons, List.length_nil, List.replicate, List.cons_append, List.nil_append, List.getElem?_cons_zero, List.getElem?_cons_succ, List.set_cons_zero, List.set_cons_succ, atI_zero, atI_one, atI_two, atI_three, ixN_zero, ixN_one, mset_same, mset_mset, mdel_mset, List.length_map, vw_one, Option.isSome_some, true_and, and_true, dmk, dmk0, dxf, disx, mkS, okX, a1, cd2, eh2]
              refine ⟨line_ge (by decide), line_gt (by rw [List.length_append, List.length_map, List.length_range]; omega), kk _ _ ⟨_, rfl, ?_⟩⟩
              rw [List.range_succ, List.map_append (l₁ := List.range i), ← List.append_assoc, List.map_append (l₂ := [i].map _)]
              rfl
      · rintro δ M' ⟨y4, y5, y6, y7, k2, base, rfl, rfl, hb⟩
        refine step_asg (S := fun x M1 => ∃ (names : List Nat) (k' : Int), x = .lst true (names.map nX) ∧ names.Perm (List.range (2 * h)) ∧ M1 = mset (mset M st (DL.stC nums k')) p (.lst (base.map pX))) (fun Q hQ => ?_) ?_
        · refine sh_call (ev_cons (ev_var rfl) (ev_cons (ev_var rfl) ev_nil)) (k := k2) (nums := nums) (by rw [mset_ne (Ne.symm hne), mset_same]) (by omega) hn fun row k' hp => ?_
          exact hQ _ _ ⟨row, k', rfl, hp, mset_st hne⟩
        rintro x M1 ⟨names, k3, rfl, hpn, rfl⟩
        have hln : names.length = 2 * h := by rw [hpn.length_eq, List.length_range]
        refine step_asg (S := fun x M1 => ∃ p2, x = .ptr p2 ∧ p2 ≠ st ∧ p2 ≠ p ∧ M1 = mset (mset (mset M st (DL.stC nums k3)) p (.lst (base.map pX))) p2 (.lst [])) (fun Q hQ => ⟨Nat.zero_le _, fun p2 hp => ?_⟩) ?_
        · have n1 : p2 ≠ p := fun e => by rw [e, mset_same] at hp; cases hp
          rw [mset_ne n1] at hp
          exact hQ _ _ ⟨p2, rfl, st_ne hp, n1, rfl⟩
        rintro x M1 ⟨p2, rfl, hn2, hn3, rfl⟩
        have mst2 : ∀ (c c' z z' : Cell), mset (mset (mset (mset M st c) p z) p2 z') st c' = mset (mset (mset M st c') p z) p2 z' := fun c c' z z' => by
          rw [mset_comm hn2, mset_st hne]
        simp only [dseq, dforS, dilst, List.set_cons_succ, List.set_cons_zero]
        have ea : EvA (dcons (dvar 0) (dcons (dcb fLen (dcons (dvar 3) dnil)) dnil)) [some (.ptr st), some (.bl halves), some (nX (2 * h)), some (.ptr p), y4, y5, y6, y7, some (.lst true (names.map nX)), some (.ptr p2), none] (mset (mset (mset M st (DL.stC nums k3)) p (.lst (base.map pX))) p2 (.lst [])) [.ptr st, nX base.length] (mset (mset (mset M st (DL.stC nums k3)) p (.lst (base.map pX))) p2 (.lst [])) := fun Q q => by
          simp only [dseq, dasg, dasgG, dgsub, setL, dop, dun, dcb, dcons, dnil, dret, dretN, dnext, ddrop, diff, dif, dtest, dand, dor, dnot, dandV, dorV, dnotV, dchain, daug, dpar, dforS, dlc, dyes, dlst, dtup, dbm, fAppend, fPop, dvar, dc, fIx, fSl, dsl, dpart, dno, fI, fI0, fU, fAdd, fMul, fInt, fAbs, fLen, fMin2, fList, fEq, fIsN, gI, gB, lstOf, lstO, newl, dgname, dgtup, dgcons, dgnil, dirng1, dirng2, dilst, ditup, dienum, dizip, stays, startD, endD, dcallP, dcallN, fS, dfz, fzK, dbreak, dcont, wipeD, List.map_cons, List.map_nil, List.length_cons, List.length_nil, List.replicate, List.cons_append, List.nil_append, List.getElem?_cons_zero, List.getElem?_cons_succ, List.set_cons_zero, List.set_cons_succ, atI_zero, atI_one, atI_two, atI_three, ixN_zero, ixN_one, mset_same, mset_mset, mdel_mset, List.length_map, vw_one, Option.isSome_some, true_and, and_true, dmk, dmk0, dxf, disx, mkS, okX, mset_ne (Ne.symm hn3)]
          exact q
        refine sh_call ea (k := k3) (nums := nums) (by rw [mset_ne (Ne.symm hn2), mset_ne (Ne.symm hne), mset_same]) (by have := hb.1; omega) hn fun order k4 hpo => ?_
        rw [mst2]
        have hlo : order.length = base.length := by rw [hpo.length_eq, List.length_range]
        refine dfor_map (as := order) (f := nX) (fun i δ' M' => ∃ (y6 y10 : Option X) (k' : Int) (found : List E2), δ' = [some (.ptr st), some (.bl halves), some (nX (2 * h)), some (.ptr p), y4, y5, y6, y7, some (.lst true (names.map nX)), some (.ptr p2), y10] ∧ M' = mset (mset (mset M st (DL.stC nums k')) p (.lst (base.map pX))) p2 (.lst (found.map pX)) ∧ found.length = i ∧
            (∀ v, (endsF found).count v = ((endsF ((order.take i).map fun j => base.getD j (0, 0))).map fun x => names.getD x 0).count v) ∧ (∀ pr ∈ found, ∃ q ∈ base, pr = (names.getD q.1 0, names.getD q.2 0) ∨ pr = (names.getD q.2 0, names.getD q.1 0)))
          ⟨_, _, k4, [], rfl, rfl, rfl, fun v => rfl, fun pr hpr => (nomatch hpr)⟩ ?_ ?_
        · rintro δ' M' ⟨y6, y10, k5, found, rfl, rfl, hfl, hfc, hfm⟩
          refine ⟨trivial, ?_⟩
          rw [List.take_length] at hfc
          have hC := renamed (halves := halves) (n := 2 * h) (ps := base) (found := found) (names := names) (order := order) (by omega) hb.1 hb.2.1 hb.2.2.1 hb.2.2.2 hpn hpo hfl hfc hfm
          simp only [dseq, dasg, dasgG, dgsub, setL, dop, dun, dcb, dcons, dnil, dret, dretN, dnext, ddrop, diff, dif, dtest, dand, dor, dnot, dandV, dorV, dnotV, dchain, daug, dpar, dforS, dlc, dyes, dlst, dtup, dbm, fAppend, fPop, dvar, dc, fIx, fSl, dsl, dpart, dno, fI, fI0, fU, fAdd, fMul, fInt, fAbs, fLen, fMin2, fList, fEq, fIsN, gI, gB, lstOf, lstO, newl, dgname, dgtup, dgcons, dgnil, dirng1, dirng2, dilst, ditup, dienum, dizip, stays, startD, endD, dcallP, dcallN, fS, dfz, fzK, dbreak, dcont, wipeD, List.map_cons, List.map_nil, List.length_cons, List.length_nil, List.replicate, List.cons_append, List.nil_append, List.getElem?_cons_zero, List.getElem?_cons_succ, List.set_cons_zero, List.set_cons_succ, atI_zero, atI_one, atI_two, atI_three, ixN_zero, ixN_one, mset_same, mset_mset, mdel_mset, List.length_map, vw_one, Option.isSome_some, true_and, and_true, dmk, dmk0, dxf, disx, mkS, okX]
          refine ⟨line_ge (by decide), ?_⟩
          refine rt_st (k := k5) h0 ?_ ?_ (q (2 * h) found k5 hC)
          · unfold mdel
            rw [if_neg (Ne.symm hn2), mset_ne (Ne.symm hne), mset_same]
          · simp only [own, ownA, own_nX, own_pX, Bool.and_self]
        · rintro i j δ' M' R hi ⟨y6, y10, k5, found, rfl, rfl, hfl, hfc, hfm⟩ kk
          refine ⟨trivial, ?_⟩
          obtain ⟨hil, hie⟩ := List.getElem?_eq_some_iff.mp hi
          have hj : j < base.length := List.mem_range.mp (hpo.mem_iff.mp (List.mem_of_getElem? hi))
          have apx : atI (base.map pX) (j : Int) = some (pX (base.getD j (0, 0))) := atM pX hj (0, 0)
          have hq0 : base.getD j (0, 0) ∈ base := by
            rw [List.getD_eq_getElem?_getD, List.getElem?_eq_getElem hj]
            exact List.getElem_mem hj
          have etk : (order.take (i + 1)).map (fun j => base.getD j (0, 0)) = (order.take i).map (fun j => base.getD j (0, 0)) ++ [base.getD j (0, 0)] := by
            rw [List.take_add_one, hi, List.map_append]; rfl
          rw [etk] at kk
          generalize base.getD j (0, 0) = q0 at apx hq0 kk
          obtain ⟨u0, v0⟩ := q0
          have wj := hb.2.1 _ hq0
          have au : atI (names.map nX) (u0 : Int) = some (nX (names.getD u0 0)) := atM nX (by rw [hln]; exact wj.1) 0
          have av : atI (names.map nX) (v0 : Int) = some (nX (names.getD v0 0)) := atM nX (by rw [hln]; exact wj.2) 0
          have cnt : ∀ v, (endsF (found ++ [(names.getD u0 0, names.getD v0 0)])).count v = ((endsF ((order.take i).map (fun j => base.getD j (0, 0)) ++ [(u0, v0)])).map fun x => names.getD x 0).count v := fun v => by
            rw [endsF_append, endsF_append, List.map_append, List.count_append, List.count_append, hfc]
            rfl
          have cnt2 : ∀ v, (endsF (found ++ [(names.getD v0 0, names.getD u0 0)])).count v = ((endsF ((order.take i).map (fun j => base.getD j (0, 0)) ++ [(u0, v0)])).map fun x => names.getD x 0).count v := fun v => by
            rw [← cnt, endsF_append, endsF_append, List.count_append, List.count_append]
            congr 1
            exact (List.Perm.swap _ _ []).count_eq v
          simp only [dgname, List.set_cons_succ, List.set_cons_zero]
          refine ev_step (x := pX (names.getD u0 0, names.getD v0 0)) (M1 := mset (mset (mset M st (DL.stC nums k5)) p (.lst (base.map pX))) p2 (.lst (found.map pX))) (fun Q hQ => ?_) ?_
          · simp only [dseq, dasg, dasgG, dgsub, setL, dop, dun, dcb, dcons, dnil, dret, dretN, dnext, ddrop, diff, dif, dtest, dand, dor, dnot, dandV, dorV, dnotV, dchain, daug, dpar, dforS, dlc, dyes, dlst, dtup, dbm, fAppend, fPop, dvar, dc, fIx, fSl, dsl, dpart, dno, fI, fI0, fU, fAdd, fMul, fInt, fAbs, fLen, fMin2, fList, fEq, fIsN, gI, gB, lstOf, lstO, newl, dgname, dgtup, dgcons, dgnil, dirng1, dirng2, dilst, ditup, dienum, dizip, stays, startD, endD, dcallP, dcallN, fS, dfz, fzK, dbreak, dcont, wipeD, List.map_cons, List.map_nil, List.length_cons, List.length_nil, List.replicate, List.cons_append, List.nil_append, List.getElem?_cons_zero, List.getElem?_cons_succ, List.set_cons_zero, List.set_cons_succ, atI_zero, atI_one, atI_two, atI_three, ixN_zero, ixN_one, mset_same, mset_mset, mdel_mset, List.length_map, vw_one, Option.isSome_some, true_and, and_true, dmk, dmk0, dxf, disx, mkS, okX, mset_ne (Ne.symm hn3), apx, pX, au, av]
            exact ⟨line_ge (by decide), hQ⟩
          simp only [dseq, dasg, dasgG, dgsub, setL, dop, dun, dcb, dcons, dnil, dret, dretN, dnext, ddrop, diff, dif, dtest, dand, dor, dnot, dandV, dorV, dnotV, dchain, daug, dpar, dforS, dlc, dyes, dlst, dtup, dbm, fAppend, fPop, dvar, dc, fIx, fSl, dsl, dpart, dno, fI, fI0, fU, fAdd, fMul, fInt, fAbs, fLen, fMin2, fList, fEq, fIsN, gI, gB, lstOf, lstO, newl, dgname, dgtup, dgcons, dgnil, dirng1, dirng2, dilst, ditup, dienum, dizip, stays, startD, endD, dcallP, dcallN, fS, dfz, fzK, dbreak, dcont, wipeD, List.map_cons, List.map_nil, List.length_cons, List.length_nil, List.replicate, List.cons_append, List.nil_append, List.getElem?_cons_zero, List.getElem?_cons_succ, List.set_cons_zero, List.set_cons_succ, atI_zero, atI_one, atI_two, atI_three, ixN_zero, ixN_one, mset_same, mset_mset, mdel_mset, List.length_map, vw_one, Option.isSome_some, true_and, and_true, dmk, dmk0, dxf, disx, mkS, okX]
          refine ⟨nums, k5, by rw [mset_ne (Ne.symm hn2), mset_ne (Ne.symm hne), mset_same], 2, by rw [vw_int], by decide, hn, ?_⟩
          generalize nxt nums k5 2 = z
          rw [mst2]
          have fin : ∀ pr : E2, pr = (names.getD u0 0, names.getD v0 0) ∨ pr = (names.getD v0 0, names.getD u0 0) → ∀ y6 y10, R [some (.ptr st), some (.bl halves), some (nX (2 * h)), some (.ptr p), y4, y5, y6, y7, some (.lst true (names.map nX)), some (.ptr p2), y10] (mset (mset (mset M st (DL.stC nums (k5 + 1))) p (.lst (base.map pX))) p2 (.lst (found.map pX ++ [pX pr]))) := fun pr hpr y6 y10 => by
            refine kk _ _ ⟨y6, y10, k5 + 1, found ++ [pr], rfl, by rw [List.map_append]; rfl, by rw [List.length_append, hfl]; rfl, ?_, fun x hx => ?_⟩
            · rcases hpr with rfl | rfl
              · exact cnt
              · exact cnt2
            · rcases List.mem_append.mp hx with hx | hx
              · exact hfm x hx
              · rw [List.mem_singleton.mp hx]
                exact ⟨_, hq0, hpr⟩
          have hlf : found.length < sizeLine := line_gt (by have := hb.1; omega)
          simp only [dseq, dasg, dasgG, dgsub, setL, dop, dun, dcb, dcons, dnil, dret, dretN, dnext, ddrop, diff, dif, dtest, dand, dor, dnot, dandV, dorV, dnotV, dchain, daug, dpar, dforS, dlc, dyes, dlst, dtup, dbm, fAppend, fPop, dvar, dc, fIx, fSl, dsl, dpart, dno, fI, fI0, fU, fAdd, fMul, fInt, fAbs, fLen, fMin2, fList, fEq, fIsN, gI, gB, lstOf, lstO, newl, dgname, dgtup, dgcons, dgnil, dirng1, dirng2, dilst, ditup, dienum, dizip, stays, startD, endD, dcallP, dcallN, fS, dfz, fzK, dbreak, dcont, wipeD, List.map_cons, List.map_nil, List.length_cons, List.length_nil, List.replicate, List.cons_append, List.nil_append, List.getElem?_cons_zero, List.getElem?_cons_succ, List.set_cons_zero, List.set_cons_succ, atI_zero, atI_one, atI_two, atI_three, ixN_zero, ixN_one, mset_same, mset_mset, mdel_mset, List.length_map, vw_one, Option.isSome_some, true_and, and_true, dmk, dmk0, dxf, disx, mkS, okX]
          generalize (false != decide (z = 0)) = d
          cases d
          · simp only [dseq, dasg, dasgG, dgsub, setL, dop, dun, dcb, dcons, dnil, dret, dretN, dnext, ddrop, diff, dif, dtest, dand, dor, dnot, dandV, dorV, dnotV, dchain, daug, dpar, dforS, dlc, dyes, dlst, dtup, dbm, fAppend, fPop, dvar, dc, fIx, fSl, dsl, dpart, dno, fI, fI0, fU, fAdd, fMul, fInt, fAbs, fLen, fMin2, fList, fEq, fIsN, gI, gB, lstOf, lstO, newl, dgname, dgtup, dgcons, dgnil, dirng1, dirng2, dilst, ditup, dienum, dizip, stays, startD, endD, dcallP, dcallN, fS, dfz, fzK, dbreak, dcont, wipeD, List.map_cons, List.map_nil, List.length_cons, List.length_nil, List.replicate, List.cons_append, List.nil_append, List.getElem?_cons_zero, List.getElem?_cons_succ, List.set_cons_zero, List.set_cons_succ, atI_zero, atI_one, atI_two, atI_three, ixN_zero, ixN_one, mset_same, mset_mset, mdel_mset, List.length_map, vw_one, Option.isSome_some, true_and, and_true, dmk, dmk0, dxf, disx, mkS, okX, pX]
            refine ⟨line_ge (by decide), hlf, ?_⟩
            exact fin (names.getD v0 0, names.getD u0 0) (.inr rfl) _ _
          · exact ⟨hlf, fin _ (.inl rfl) _ _⟩
end
end K53


set_option maxRecDepth 100000
set_option maxHeartbeats 0
namespace K53
open PySem PySem.Spec PyProof.Rows L2 DL Fl
section
variable {P : Program} {w : World} {K : PySem.W.Frag} {mg : Str → Option Value} {base : Heap} {C : Addr}
def g_error (C : Addr) : PF := fun xs P _ => ∃ (n : Nat) (ps : List E2), xs = [gX C n ps] ∧ n ≤ 1000 ∧ ps.length ≤ 1000 ∧ WF n ps ∧ ((∀ v, v < n → deg ps v = 3) → P .non) ∧ (∀ v, v < n → deg ps v ≠ 3 → (∀ u, u < v → deg ps u = 3) → P (.tup [.str "cubic", nX v]))
/-- what is asked of NotCubic -/
structure NcK (K : PySem.W.Frag) : Prop where
  fl : PySem.W.exmOne K (.ref (He.ga K "NotCubic")) (.ref (He.ga K "FlowError")) = some true
  xi : XiC K (He.ga K "NotCubic")
  fv : PySem.W.findIn K (.ref (He.ga K "NotCubic")) "vertex" = some none
  nc : PySem.W.kitOne K (.ref (He.ga K "NotCubic")) (.ref (He.ga K "NotCubic")) = some true
  bc : PySem.W.kitOne K (.ref (He.ga K "NotCubic")) (.ref (He.ga K "BadColours")) = some false
abbrev s_law_error : Stmt := topS 46
theorem sc_law_error : FnScope ["graph", "e"] ["graph"] (defScope s_law_error) := ⟨rfl, rfl, rfl, by decide +kernel, rfl, by decide +kernel, by decide +kernel⟩
theorem cal_law_error (B : Blt2 mg) (D : Def K mg "_law_error" s_law_error) (c_three_flow : Cal false P w K mg base (L2.CX P w) "three_flow" 7 ["graph"] (PFd (g_three K C))) (XN:NcK K) (XI : ∀ x : Str, x ∈ (["FlowError", "NotCubic", "BadColours"] : List Str) → mg x = some (.ref (He.ga K x))) : Cal true P w K mg base CX0 "_law_error" 8 ["graph"] (PFd (g_error C)) := by
  refine Cal.mk' D (fun _ _ _ _ _ _ us hl => match us, hl with | [_], _ => rfl) fun f fdt F => fnD F sc_law_error (fun xs M Q E h => ?len) fun cdv A outer s H E hr => ⟨_,
    ((pssd_cons (psd_try (G := fun (C_ : Addr) ns_ _ => ns_ ≠ [] ∧ XiC K C_ ∧ ∀ f_ : Str, f_ ∈ (["vertex"] : List Str) → PySem.W.findIn K (.ref C_) f_ = some none) (m := 2) (Wout := fun _ _ _ _ => False) (by rfl) (by rfl) sc_law_error.nd (i := 1) (by rfl) (by rfl) (c := .ref (He.ga K "FlowError")) (by exact ⟨rfl, by decide, .inl (XI "FlowError" (by decide))⟩) takes0 c_three_flow (hr.plain (by decide)) (by rfl) (by decide) (fun _ _ => (pad_cons (pd_var 0) pad_nil)) (by rfl) (by rfl) (by rfl) (fun a_ C_ ns ys oe od pn hG hod hz hf => (pssd_one (psd_ret (pd_if (pwd_and (ptd_val (pd_isE hz hf (hod hG.1) hG.2.1 (pd_var 1) (by exact B.isinstance) (by exact XI "NotCubic" (by decide)))) (pwd_and1 (ptd_not (ptd_val (pd_isE hz hf (hod hG.1) hG.2.1 (pd_var 1) (by exact B.isinstance) (by exact XI "BadColours" (by decide))))))).pt (pd_tup (pad_cons pd_str (pad_cons (pd_xfE hz hf (pd_var 1) (fun _ k => k hG.2.1.xf (hG.2.2 "vertex" (by decide)))) pad_nil))) (pd_tup (pad_cons pd_str (pad_cons pd_int pad_nil))))))))
(pssd_one (psd_ret pd_non)))), fun xs M Qd Ed h => ?rd⟩
  case len =>
    obtain ⟨_, n, ps, rfl, _⟩ := h
    rfl
  case rd =>
    obtain ⟨rfl, n, ps, rfl, hn, hm, wf, q1, q2⟩ := h
    refine ⟨n, ps, by simp [vw], by omega, by omega, wf, ⟨fun h3 => ⟨fun c hc hn => ?_, fun out h1 h2 h3' => ?_⟩, fun v hv h1 h2 => ?_⟩⟩
    · exact rt_pure rfl (q1 h3)
    · exact rt_pure rfl (q1 h3)
    · refine ⟨XN.fl, ⟨(fun z => nomatch z), XN.xi, fun f hf => ?_⟩, fun a => ?_⟩
      · rw [List.mem_singleton.mp hf]; exact XN.fv
      · simp only [dseq, dasg, dasgG, dgsub, setL, dop, dun, dcb, dcons, dnil, dret, dretN, dnext, ddrop, diff, dif, dtest, dand, dor, dnot, dandV, dorV, dnotV, dchain, daug, dpar, dforS, dlc, dyes, dlst, dtup, dbm, fAppend, fPop, dvar, dc, fIx, fSl, dsl, dpart, dno, fI, fI0, fU, fAdd, fMul, fInt, fAbs, fLen, fMin2, fList, fEq, fIsN, gI, gB, lstOf, lstO, newl, dgname, dgtup, dgcons, dgnil, dirng1, dirng2, dilst, ditup, dienum, dizip, stays, startD, endD, dcallP, dcallN, fS, dfz, fzK, dbreak, dcont, wipeD, List.map_cons, List.map_nil, List.length_cons, List.length_nil, List.replicate, List.cons_append, List.nil_append, List.getElem?_cons_zero, List.getElem?_cons_succ, List.set_cons_zero, List.set_cons_succ, atI_zero, atI_one, atI_two, atI_three, ixN_zero, ixN_one, mset_same, mset_mset, mdel_mset, List.length_map, vw_one, Option.isSome_some, true_and, and_true, dmk, dmk0, dxf, disx, mkS, okX, disE, dxfE]
        refine ⟨(fun z => nomatch z), XN.xi, true, XN.nc, (fun z => nomatch z), XN.xi, false, XN.bc, XN.xi.xf, XN.fv, nX v, rfl, line_ge (by decide), ?_⟩
        exact rt_pure rfl (q2 v hv h1 h2)
theorem deg_ends {ps : List E2} {v : Nat} : deg ps v = (endsF ps).count v := by
  have h1 := deg_sum (ps := ps) (v := v)
  rw [← ends_count] at h1
  omega
theorem nodup_len : ∀ {m : Nat} {l : List Nat}, l.Nodup → (∀ x ∈ l, x < m) → l.length ≤ m
  | 0, l, _, h => by
    cases l with
    | nil => exact Nat.le_refl _
    | cons a l => exact absurd (h a List.mem_cons_self) (Nat.not_lt_zero _)
  | m + 1, l, hn, h => by
    have h1 := nodup_len (m := m) (hn.erase m) fun x hx => by
      have h2 := (hn.mem_erase_iff).mp hx
      have := h x h2.2
      omega
    by_cases hm : m ∈ l
    · rw [List.length_erase_of_mem hm] at h1; omega
    · rw [List.erase_of_not_mem hm] at h1; omega
theorem neq_cf : ∀ d : Decidable ((Str.ofString "cycle") = (Str.ofString "flow")), (false != @decide _ d) = false := fun d => by
  have e : ((Str.ofString "cycle") == (Str.ofString "flow")) = false := rfl
  have h : Str.ofString "cycle" ≠ Str.ofString "flow" := fun h => by rw [h, beq_self_eq_true] at e; cases e
  rw [@decide_eq_false _ d h]; rfl
theorem deT : ∀ d : Decidable True, (false != @decide True d) = true := fun d => by rw [@decide_eq_true _ d trivial]; rfl
def g_answered (C : Addr) : PF := fun xs P _ => ∃ (n : Nat) (ps : List E2) (halves : Bool), xs = [nX n, .lst true (ps.map pX), .bl halves] ∧ CubicOk halves n ps ∧ P (.bl true)
abbrev s_law_answered : Stmt := topS 47
theorem sc_law_answered : FnScope ["many", "pairs", "halves", "told"] ["many", "pairs", "halves"] (defScope s_law_answered) := ⟨rfl, rfl, rfl, by decide +kernel, rfl, by decide +kernel, by decide +kernel⟩
theorem cal_law_answered (B : Blt2 mg) (D : Def K mg "_law_answered" s_law_answered) (c_three_flow : Cal false P w K mg base (L2.CX P w) "three_flow" 7 ["graph"] (PFd (g_three K C))) (c_law_is_flow : Cal true P w K mg base CX0 "_law_is_flow" 2 ["many", "pairs", "row", "most"] (PFd g_isflow)) (c_law_is_cycle : Cal true P w K mg base CX0 "_law_is_cycle" 2 ["pairs", "steps"] (PFd g_iscyc)) (mk_graph : CalI P w K mg base CX0 "Graph" 1 C ["vertices", "edges"] (f_make C)) : Cal true P w K mg base CX0 "_law_answered" 8 ["many", "pairs", "halves"] (PFd (g_answered C)) := by
  refine Cal.mk' D (fun _ _ _ _ _ _ us hl => match us, hl with | [_, _, _], _ => rfl) fun f fdt F => fnD F sc_law_answered (fun xs M Q E h => ?len) fun cdv A outer s H E hr => ⟨_,
    ((pssd_cons (psd_set 3 sc_law_answered.nd (pd_cP 2 c_three_flow (hr.plain (by decide)) passL we0 (pad_cons (pd_make 3 mk_graph (hr.mono (by decide)).toRoom pass0 we0 (pad_cons (pd_var 0) (pad_cons (pd_callTy call_list_of (snd_list false) (by rfl) B.list (by decide +kernel) (pad_cons (pd_var 1) pad_nil)) pad_nil))) pad_nil)))
(pssd_cons (psd_if (pwd_or (ptd_not (ptd_val (pd_isB (T := "tuple") (by decide) (pd_var 3) (by exact B.isinstance) B.tuple (by decide +kernel)))) (pwd_or1 (ptd_cmp op_ne snd_ne (pd_callB call_len_seq snd_len (by rfl) B.len PySem.boot_len (pad_cons (pd_var 3) pad_nil)) pd_int (nomark _)))).pt
(pssd_one (psd_ret pd_bl))
pssd_nil)
(pssd_cons (psd_if (ptd_cmp op_eq snd_eq (pd_ix (pd_var 3) pd_int) pd_str (nomark _))
(pssd_one (psd_ret (pd_cP 2 c_law_is_flow (hr.mono (by decide)) pass0 we0 (pad_cons (pd_var 0) (pad_cons (pd_var 1) (pad_cons (pd_ix (pd_var 3) pd_int) (pad_cons pd_int pad_nil)))))))
pssd_nil)
(pssd_one (psd_ret (pd_and (pd_cmp op_eq snd_eq (pd_ix (pd_var 3) pd_int) pd_str (nomark _)) (pd_and (pd_not (pd_var 2)) (pd_and (pd_cP 2 c_law_is_cycle (hr.mono (by decide)) pass0 we0 (pad_cons (pd_var 1) (pad_cons (pd_ix (pd_var 3) pd_int) pad_nil))) (pd_one (pd_cmp op_eq snd_eq (pd_mod (pd_callB call_len_seq snd_len (by rfl) B.len PySem.boot_len (pad_cons (pd_ix (pd_var 3) pd_int) pad_nil)) pd_int) pd_int (nomark _)))))))))))), fun xs M Qd Ed h => ?rd⟩
  case len =>
    obtain ⟨_, n, ps, halves, rfl, _⟩ := h
    rfl
  case rd =>
    obtain ⟨rfl, n, ps, halves, rfl, hc, q⟩ := h
    have hdeg : ∀ v, v < n → deg ps v = 3 := fun v hv => by
      rw [deg_ends]; exact hc.c3 v hv
    simp only [dseq, dasg, dasgG, dgsub, setL, dop, dun, dcb, dcons, dnil, dret, dretN, dnext, ddrop, diff, dif, dtest, dand, dor, dnot, dandV, dorV, dnotV, dchain, daug, dpar, dforS, dlc, dyes, dlst, dtup, dbm, fAppend, fPop, dvar, dc, fIx, fSl, dsl, dpart, dno, fI, fI0, fU, fAdd, fMul, fInt, fAbs, fLen, fMin2, fList, fEq, fIsN, gI, gB, lstOf, lstO, newl, dgname, dgtup, dgcons, dgnil, dirng1, dirng2, dilst, ditup, dienum, dizip, stays, startD, endD, dcallP, dcallN, fS, dfz, fzK, dbreak, dcont, wipeD, List.map_cons, List.map_nil, List.length_cons, List.length_nil, List.replicate, List.cons_append, List.nil_append, List.getElem?_cons_zero, List.getElem?_cons_succ, List.set_cons_zero, List.set_cons_succ, atI_zero, atI_one, atI_two, atI_three, ixN_zero, ixN_one, mset_same, mset_mset, mdel_mset, List.length_map, vw_one, Option.isSome_some, true_and, and_true, dmk, dmk0, dxf, disx, mkS, okX]
    refine ⟨n, ps, true, by simp [vw], by have := hc.n100; omega, by have := hc.len; omega, hc.wf, ?_⟩
    refine ⟨n, ps, by simp [vw], by have := hc.n100; omega, by have := hc.len; omega, hc.wf, ⟨fun h3 => ⟨fun c hcy hno => ?_, fun out h1 h2 h3' => ?_⟩, fun v hv h1 h2 => absurd (hdeg v hv) h1⟩⟩
    · have hh : halves = false := by
        cases hb : halves with
        | false => rfl
        | true =>
          obtain ⟨col, hcol⟩ := hc.half hb
          obtain ⟨e, he, h4⟩ := hno col
          have e1 : ps[e] = (tl ps e, hd ps e) := by unfold tl hd; rw [List.getD_eq_getElem?_getD, List.getElem?_eq_getElem he]; rfl
          have h5 := hcol ps[e] (List.getElem_mem he)
          rw [e1] at h5
          exact absurd h4 h5
      subst hh
      have hcl : c.length ≤ 1000 := by
        have h1 := nodup_len (m := ps.length) hcy.es fun x hx => by
          obtain ⟨s, hs, rfl⟩ := List.mem_map.mp hx
          exact hcy.may s hs
        rw [List.length_map] at h1
        have := hc.len
        omega
      simp only [dseq, dasg, dasgG, dgsub, setL, dop, dun, dcb, dcons, dnil, dret, dretN, dnext, ddrop, diff, dif, dtest, dand, dor, dnot, dandV, dorV, dnotV, dchain, daug, dpar, dforS, dlc, dyes, dlst, dtup, dbm, fAppend, fPop, dvar, dc, fIx, fSl, dsl, dpart, dno, fI, fI0, fU, fAdd, fMul, fInt, fAbs, fLen, fMin2, fList, fEq, fIsN, gI, gB, lstOf, lstO, newl, dgname, dgtup, dgcons, dgnil, dirng1, dirng2, dilst, ditup, dienum, dizip, stays, startD, endD, dcallP, dcallN, fS, dfz, fzK, dbreak, dcont, wipeD, List.map_cons, List.map_nil, List.length_cons, List.length_nil, List.replicate, List.cons_append, List.nil_append, List.getElem?_cons_zero, List.getElem?_cons_succ, List.set_cons_zero, List.set_cons_succ, atI_zero, atI_one, atI_two, atI_three, ixN_zero, ixN_one, mset_same, mset_mset, mdel_mset, List.length_map, vw_one, Option.isSome_some, true_and, and_true, dmk, dmk0, dxf, disx, mkS, okX, disB, tyX, show isTy "tuple" "tuple" = true from rfl, stepsX]
      rw [neq_cf, deT]
      refine ⟨ps, c, true, true, by simp [vw], hcl, hcy, ?_⟩
      refine ⟨by decide, ?_⟩
      rw [tt (show ((c.length : Nat) : Int) % 2 = 1 by have := hcy.odd; omega)]
      exact rt_pure rfl q
    · simp only [dseq, dasg, dasgG, dgsub, setL, dop, dun, dcb, dcons, dnil, dret, dretN, dnext, ddrop, diff, dif, dtest, dand, dor, dnot, dandV, dorV, dnotV, dchain, daug, dpar, dforS, dlc, dyes, dlst, dtup, dbm, fAppend, fPop, dvar, dc, fIx, fSl, dsl, dpart, dno, fI, fI0, fU, fAdd, fMul, fInt, fAbs, fLen, fMin2, fList, fEq, fIsN, gI, gB, lstOf, lstO, newl, dgname, dgtup, dgcons, dgnil, dirng1, dirng2, dilst, ditup, dienum, dizip, stays, startD, endD, dcallP, dcallN, fS, dfz, fzK, dbreak, dcont, wipeD, List.map_cons, List.map_nil, List.length_cons, List.length_nil, List.replicate, List.cons_append, List.nil_append, List.getElem?_cons_zero, List.getElem?_cons_succ, List.set_cons_zero, List.set_cons_succ, atI_zero, atI_one, atI_two, atI_three, ixN_zero, ixN_one, mset_same, mset_mset, mdel_mset, List.length_map, vw_one, Option.isSome_some, true_and, and_true, dmk, dmk0, dxf, disx, mkS, okX, disB, tyX, show isTy "tuple" "tuple" = true from rfl]
      rw [deT]
      refine ⟨n, ps, true, true, out, 2, by simp [vw], by have := hc.n100; omega, by have := hc.len; omega, h1, hc.wf, fun a ha => ?_, h3', rt_pure rfl q⟩
      obtain ⟨e, he, hae⟩ := List.mem_iff_getElem.mp ha
      have h4 := h2 e (by omega)
      have h5 : amt out e = a := by unfold amt; rw [List.getD_eq_getElem?_getD, List.getElem?_eq_getElem he]; exact hae
      rw [h5] at h4
      rcases h4 with rfl | rfl | rfl | rfl <;> decide
end
end K53


set_option maxRecDepth 100000
set_option maxHeartbeats 0
namespace K53
open PySem PySem.Spec PyProof.Rows L2 DL Fl
section
variable {P : Program} {w : World} {K : PySem.W.Frag} {mg : Str → Option Value} {base : Heap} {C : Addr}
def f_law : PF := fun xs Q _ => ∃ ns : List Int, xs = [.scr ns] ∧ Q (.bl true)
abbrev s_law : Stmt := topS 48
theorem sc_law : FnScope ["script", "state", "halves", "drawn", "many", "pairs", "ends", "bad", "pair", "vertex", "end"] ["script"] (defScope s_law) := ⟨rfl, rfl, rfl, by decide +kernel, rfl, by decide +kernel, by decide +kernel⟩
theorem ok_law (B : Blt2 mg) {f : Addr} {fdt : FuncData} (F : Fun K "law" "law" s_law f fdt) (c_law_state : Cal true P w K mg base CX0 "_law_state" 2 ["script", "start", "many"] (NFd f_state)) (c_law_cubic : Cal true P w K mg base CX0 "_law_cubic" 3 ["state", "halves"] (SFd f_cubic)) (c_law_answered : Cal true P w K mg base CX0 "_law_answered" 8 ["many", "pairs", "halves"] (PFd (g_answered C))) (c_law_next : Cal true P w K mg base CX0 "_law_next" 1 ["state", "many"] (SFd f_next)) (c_law_any_pairs : Cal true P w K mg base CX0 "_law_any_pairs" 2 ["state", "many", "most"] (SFd f_any)) (c_law_error : Cal true P w K mg base CX0 "_law_error" 8 ["graph"] (PFd (g_error C))) (mk_graph : CalI P w K mg base CX0 "Graph" 1 C ["vertices", "edges"] (f_make C)) : FnOkG true P w K mg base CX0 9 f fdt ["script"] (spG K (PFd f_law)) := by
  refine fnD F sc_law (fun xs M Q E h => ?len) fun cdv A outer s H E hr => ⟨_,
    ((pssd_cons (psd_set 1 sc_law.nd (pd_cN 2 c_law_state (hr.mono (by decide)) pass0 we0 (pad_cons (pd_var 0) (pad_cons pd_int (pad_cons pd_int pad_nil)))))
(pssd_cons (psd_for anti0 PassesOwn.never rfl (pid_list (pd_lst false (pad_cons pd_bl (pad_cons pd_bl pad_nil)))) (pgd_name 2 sc_law.nd)
(pssd_cons (psd_set 3 sc_law.nd (pd_cS 2 c_law_cubic (hr.mono (by decide)) pass0 (pad_cons (pd_var 1) (pad_cons (pd_var 2) pad_nil))))
(pssd_one (psd_if (ptd_not (ptd_val (pd_cP 2 c_law_answered (hr.mono (by decide)) pass0 we0 (pad_cons (pd_ix (pd_var 3) pd_int) (pad_cons (pd_ix (pd_var 3) pd_int) (pad_cons (pd_var 2) pad_nil))))))
(pssd_one (psd_ret pd_bl))
pssd_nil))))
(pssd_cons (psd_set 4 sc_law.nd (pd_add false pd_int (pd_cS 2 c_law_next (hr.mono (by decide)) pass0 (pad_cons (pd_var 1) (pad_cons pd_int pad_nil)))))
(pssd_cons (psd_set 5 sc_law.nd (pd_cS 2 c_law_any_pairs (hr.mono (by decide)) pass0 (pad_cons (pd_var 1) (pad_cons (pd_var 4) (pad_cons pd_int pad_nil)))))
(pssd_cons (psd_set 6 sc_law.nd (pd_add false (pd_lc false [("pair", 8)] anti0 sc_law.nd (pid_list (pd_var 5)) (blkOk_by (own := [("pair", 8)]) (N := ["script", "state", "halves", "drawn", "many", "pairs", "ends", "bad", "pair", "vertex", "end"]) (sc := defScope s_law) (by decide +kernel)) (fun _ _ _ _ _ => (pgl_name 8 sc_law.nd)) (fun _ _ _ _ _ => ptsd_nil) (fun _ _ _ _ _ => (pd_ix (pd_var 8) pd_int))) (pd_lc false [("pair", 8)] anti0 sc_law.nd (pid_list (pd_var 5)) (blkOk_by (own := [("pair", 8)]) (N := ["script", "state", "halves", "drawn", "many", "pairs", "ends", "bad", "pair", "vertex", "end"]) (sc := defScope s_law) (by decide +kernel)) (fun _ _ _ _ _ => (pgl_name 8 sc_law.nd)) (fun _ _ _ _ _ => ptsd_nil) (fun _ _ _ _ _ => (pd_ix (pd_var 8) pd_int)))))
(pssd_cons (psd_setLc false 7 [("vertex", 9)] anti0 sc_law.nd (sw_true rfl rfl rfl (by decide +kernel)) (pid_range1 (by rfl) B.range (pad_cons (pd_var 4) pad_nil)) (blkOk_by (own := [("vertex", 9)]) (N := ["script", "state", "halves", "drawn", "many", "pairs", "ends", "bad", "pair", "vertex", "end"]) (sc := defScope s_law) (by decide +kernel)) (fun _ _ _ _ _ => (pgl_name 9 sc_law.nd)) (fun _ _ _ _ _ => (ptsd_one (ptd_cmp op_ne snd_ne (pd_callB call_len_seq snd_len (by rfl) B.len PySem.boot_len (pad_cons (pd_lc false [("end", 10)] anti0 sc_law.nd (pid_list (pd_var 6)) (blkOk_by (own := [("end", 10)]) (N := ["script", "state", "halves", "drawn", "many", "pairs", "ends", "bad", "pair", "vertex", "end"]) (sc := ({ kind := .function, names := [(".0", .local), ("vertex", .cell), ("len", .globalImplicit), ("ends", .cell)], isGenerator := false, isCoroutine := false } : Scope)) (by decide +kernel)) (fun _ _ _ _ _ => (pgl_name 10 sc_law.nd)) (fun _ _ _ _ _ => (ptsd_one (ptd_cmp op_eq snd_eq (pd_var 10) (pd_var 9) (nomark _)))) (fun _ _ _ _ _ => (pd_var 10))) pad_nil)) pd_int (nomark _)))) (fun _ _ _ _ _ => (pd_var 9)))
(pssd_cons (psd_if (ptd_cmp (op_eqD hr.units) snd_eqD (pd_var 7) (pd_lst false pad_nil) (nomark _))
(pssd_one (psd_ret (pd_cmp op_isN' (snd_isN false) (pd_cP 2 c_law_error (hr.mono (by decide)) pass0 we0 (pad_cons (pd_make 3 mk_graph (hr.mono (by decide)).toRoom pass0 we0 (pad_cons (pd_var 4) (pad_cons (pd_var 5) pad_nil))) pad_nil)) pd_non (nomark _))))
pssd_nil)
(pssd_one (psd_ret (pd_cmp op_eq snd_eq (pd_callB (call_reprL hr.gd hr.units) snd_repr (by rfl) B.repr (by decide +kernel) (pad_cons (pd_cP 2 c_law_error (hr.mono (by decide)) pass0 we0 (pad_cons (pd_make 3 mk_graph (hr.mono (by decide)).toRoom pass0 we0 (pad_cons (pd_var 4) (pad_cons (pd_var 5) pad_nil))) pad_nil)) pad_nil)) (pd_callB (call_reprL hr.gd hr.units) snd_repr (by rfl) B.repr (by decide +kernel) (pad_cons (pd_tup (pad_cons pd_str (pad_cons (pd_ix (pd_var 7) pd_int) pad_nil))) pad_nil)) (nomark _)))))))))))), fun xs M Qd Ed h => ?rd⟩
  case len =>
    obtain ⟨_, ns, rfl, _⟩ := h
    rfl
  case rd =>
    obtain ⟨rfl, ns, rfl, q⟩ := h
    refine step_asg (fun x M1 => ∃ nums p, NumsOk nums ∧ x = .ptr p ∧ M1 = mset m0 p (DL.stC nums 0)) (fun Q hQ => ?_) ?_
    · simp only [dseq, dasg, dasgG, dgsub, setL, dop, dun, dcb, dcons, dnil, dret, dretN, dnext, ddrop, diff, dif, dtest, dand, dor, dnot, dandV, dorV, dnotV, dchain, daug, dpar, dforS, dlc, dyes, dlst, dtup, dbm, fAppend, fPop, dvar, dc, fIx, fSl, dsl, dpart, dno, fI, fI0, fU, fAdd, fMul, fInt, fAbs, fLen, fMin2, fList, fEq, fIsN, gI, gB, lstOf, lstO, newl, dgname, dgtup, dgcons, dgnil, dirng1, dirng2, dilst, ditup, dienum, dizip, stays, startD, endD, dcallP, dcallN, fS, dfz, fzK, dbreak, dcont, wipeD, List.map_cons, List.map_nil, List.length_cons, List.length_nil, List.replicate, List.cons_append, List.nil_append, List.getElem?_cons_zero, List.getElem?_cons_succ, List.set_cons_zero, List.set_cons_succ, atI_zero, atI_one, atI_two, atI_three, ixN_zero, ixN_one, mset_same, mset_mset, mdel_mset, List.length_map, vw_one, Option.isSome_some, true_and, and_true, dmk, dmk0, dxf, disx, mkS, okX]
      exact ⟨ns, 0, 14, rfl, by decide, by decide, by decide, by decide, fun nums hnums p _ => hQ _ _ ⟨nums, p, hnums, rfl, rfl⟩⟩
    rintro _ _ ⟨nums, p, hn, rfl, rfl⟩
    refine seq_mid (fun δ M => ∃ (y2 y3 : Option X) (k : Int), δ = [some (.scr ns), some (.ptr p), y2, y3, none, none, none, none, none, none, none] ∧ M = mset m0 p (DL.stC nums k)) ?_ ?_
    · intro R hR
      simp only [dforS, dilst, dlst, dcons, dc, dnil, newl, lstOf]
      refine ⟨line_ge (by decide), ?_⟩
      refine dfor_map (as := [true, false]) (f := X.bl) (fun i δ M => ∃ (y2 y3 : Option X) (k : Int), δ = [some (.scr ns), some (.ptr p), y2, y3, none, none, none, none, none, none, none] ∧ M = mset m0 p (DL.stC nums k)) ⟨none, none, 0, rfl, rfl⟩ (fun δ M h => ⟨trivial, hR _ _ h⟩) ?_
      rintro i hv δ M R' hi ⟨y2, y3, k, rfl, rfl⟩ kk
      refine ⟨trivial, ?_⟩
      simp only [dgname, List.set_cons_succ, List.set_cons_zero]
      refine step_asg (fun x M1 => ∃ (n : Nat) (ps : List E2) (k' : Int), x = .lst true [nX n, .lst true (ps.map pX)] ∧ CubicOk hv n ps ∧ M1 = mset m0 p (DL.stC nums k')) (fun Q hQ => ?_) ?_
      · simp only [dseq, dasg, dasgG, dgsub, setL, dop, dun, dcb, dcons, dnil, dret, dretN, dnext, ddrop, diff, dif, dtest, dand, dor, dnot, dandV, dorV, dnotV, dchain, daug, dpar, dforS, dlc, dyes, dlst, dtup, dbm, fAppend, fPop, dvar, dc, fIx, fSl, dsl, dpart, dno, fI, fI0, fU, fAdd, fMul, fInt, fAbs, fLen, fMin2, fList, fEq, fIsN, gI, gB, lstOf, lstO, newl, dgname, dgtup, dgcons, dgnil, dirng1, dirng2, dilst, ditup, dienum, dizip, stays, startD, endD, dcallP, dcallN, fS, dfz, fzK, dbreak, dcont, wipeD, List.map_cons, List.map_nil, List.length_cons, List.length_nil, List.replicate, List.cons_append, List.nil_append, List.getElem?_cons_zero, List.getElem?_cons_succ, List.set_cons_zero, List.set_cons_succ, atI_zero, atI_one, atI_two, atI_three, ixN_zero, ixN_one, mset_same, mset_mset, mdel_mset, List.length_map, vw_one, Option.isSome_some, true_and, and_true, dmk, dmk0, dxf, disx, mkS, okX]
        exact ⟨nums, k, rfl, hv, by simp [vw], hn, fun n ps k' hc => hQ _ _ ⟨n, ps, k', rfl, hc, rfl⟩⟩
      · rintro x M1 ⟨n, ps, k', rfl, hc, rfl⟩
        simp only [dseq, dasg, dasgG, dgsub, setL, dop, dun, dcb, dcons, dnil, dret, dretN, dnext, ddrop, diff, dif, dtest, dand, dor, dnot, dandV, dorV, dnotV, dchain, daug, dpar, dforS, dlc, dyes, dlst, dtup, dbm, fAppend, fPop, dvar, dc, fIx, fSl, dsl, dpart, dno, fI, fI0, fU, fAdd, fMul, fInt, fAbs, fLen, fMin2, fList, fEq, fIsN, gI, gB, lstOf, lstO, newl, dgname, dgtup, dgcons, dgnil, dirng1, dirng2, dilst, ditup, dienum, dizip, stays, startD, endD, dcallP, dcallN, fS, dfz, fzK, dbreak, dcont, wipeD, List.map_cons, List.map_nil, List.length_cons, List.length_nil, List.replicate, List.cons_append, List.nil_append, List.getElem?_cons_zero, List.getElem?_cons_succ, List.set_cons_zero, List.set_cons_succ, atI_zero, atI_one, atI_two, atI_three, ixN_zero, ixN_one, mset_same, mset_mset, mdel_mset, List.length_map, vw_one, Option.isSome_some, true_and, and_true, dmk, dmk0, dxf, disx, mkS, okX]
        refine ⟨n, ps, hv, by simp [vw], hc, ?_⟩
        exact kk _ _ ⟨_, _, k', rfl, rfl⟩
    rintro δ M ⟨y2, y3, k1, rfl, rfl⟩
    refine step_asg (fun x M1 => ∃ (n : Nat) (k' : Int), x = nX n ∧ n ≤ 6 ∧ M1 = mset m0 p (DL.stC nums k')) (fun Q hQ => ?_) ?_
    · simp only [dseq, dasg, dasgG, dgsub, setL, dop, dun, dcb, dcons, dnil, dret, dretN, dnext, ddrop, diff, dif, dtest, dand, dor, dnot, dandV, dorV, dnotV, dchain, daug, dpar, dforS, dlc, dyes, dlst, dtup, dbm, fAppend, fPop, dvar, dc, fIx, fSl, dsl, dpart, dno, fI, fI0, fU, fAdd, fMul, fInt, fAbs, fLen, fMin2, fList, fEq, fIsN, gI, gB, lstOf, lstO, newl, dgname, dgtup, dgcons, dgnil, dirng1, dirng2, dilst, ditup, dienum, dizip, stays, startD, endD, dcallP, dcallN, fS, dfz, fzK, dbreak, dcont, wipeD, List.map_cons, List.map_nil, List.length_cons, List.length_nil, List.replicate, List.cons_append, List.nil_append, List.getElem?_cons_zero, List.getElem?_cons_succ, List.set_cons_zero, List.set_cons_succ, atI_zero, atI_one, atI_two, atI_three, ixN_zero, ixN_one, mset_same, mset_mset, mdel_mset, List.length_map, vw_one, Option.isSome_some, true_and, and_true, dmk, dmk0, dxf, disx, mkS, okX]
      refine ⟨nums, k1, rfl, 6, by simp [vw], by decide, hn, ?_⟩
      have h1 := nxt_ge (nums := nums) (k := k1) (n := 6) (by decide)
      have h2 := nxt_lt (nums := nums) (k := k1) (n := 6) (by decide)
      exact hQ _ _ ⟨(1 + nxt nums k1 6).toNat, _, by rw [nX, Int.toNat_of_nonneg (by omega)], by omega, rfl⟩
    rintro _ _ ⟨n, k2, rfl, hn6, rfl⟩
    refine step_asg (fun x M1 => ∃ (ps : List E2) (k' : Int), x = .lst true (ps.map pX) ∧ ps.length ≤ 9 ∧ WF n ps ∧ M1 = mset m0 p (DL.stC nums k')) (fun Q hQ => ?_) ?_
    · simp only [dseq, dasg, dasgG, dgsub, setL, dop, dun, dcb, dcons, dnil, dret, dretN, dnext, ddrop, diff, dif, dtest, dand, dor, dnot, dandV, dorV, dnotV, dchain, daug, dpar, dforS, dlc, dyes, dlst, dtup, dbm, fAppend, fPop, dvar, dc, fIx, fSl, dsl, dpart, dno, fI, fI0, fU, fAdd, fMul, fInt, fAbs, fLen, fMin2, fList, fEq, fIsN, gI, gB, lstOf, lstO, newl, dgname, dgtup, dgcons, dgnil, dirng1, dirng2, dilst, ditup, dienum, dizip, stays, startD, endD, dcallP, dcallN, fS, dfz, fzK, dbreak, dcont, wipeD, List.map_cons, List.map_nil, List.length_cons, List.length_nil, List.replicate, List.cons_append, List.nil_append, List.getElem?_cons_zero, List.getElem?_cons_succ, List.set_cons_zero, List.set_cons_succ, atI_zero, atI_one, atI_two, atI_three, ixN_zero, ixN_one, mset_same, mset_mset, mdel_mset, List.length_map, vw_one, Option.isSome_some, true_and, and_true, dmk, dmk0, dxf, disx, mkS, okX]
      refine ⟨nums, k2, rfl, n, 9, by simp [vw], by omega, by decide, hn, fun ps k' h9 wf => hQ _ _ ⟨ps, k', rfl, h9, wf, rfl⟩⟩
    rintro _ _ ⟨ps, k3, rfl, h9, wf, rfl⟩
    refine ev_step (x := .lst true ((ps.map (·.1) ++ ps.map (·.2)).map nX)) (M1 := mset m0 p (DL.stC nums k3)) (fun Q hQ => ?_) ?_
    · simp only [dseq, dasg, dasgG, dgsub, setL, dop, dun, dcb, dcons, dnil, dret, dretN, dnext, ddrop, diff, dif, dtest, dand, dor, dnot, dandV, dorV, dnotV, dchain, daug, dpar, dforS, dlc, dyes, dlst, dtup, dbm, fAppend, fPop, dvar, dc, fIx, fSl, dsl, dpart, dno, fI, fI0, fU, fAdd, fMul, fInt, fAbs, fLen, fMin2, fList, fEq, fIsN, gI, gB, lstOf, lstO, newl, dgname, dgtup, dgcons, dgnil, dirng1, dirng2, dilst, ditup, dienum, dizip, stays, startD, endD, dcallP, dcallN, fS, dfz, fzK, dbreak, dcont, wipeD, List.map_cons, List.map_nil, List.length_cons, List.length_nil, List.replicate, List.cons_append, List.nil_append, List.getElem?_cons_zero, List.getElem?_cons_succ, List.set_cons_zero, List.set_cons_succ, atI_zero, atI_one, atI_two, atI_three, ixN_zero, ixN_one, mset_same, mset_mset, mdel_mset, List.length_map, vw_one, Option.isSome_some, true_and, and_true, dmk, dmk0, dxf, disx, mkS, okX]
      refine dlc_map (as := ps) (f := pX) (v := fun q => nX q.1) (by omega) trivial ?_ fun s R hs hR => by simp only [dseq, dasg, dasgG, dgsub, setL, dop, dun, dcb, dcons, dnil, dret, dretN, dnext, ddrop, diff, dif, dtest, dand, dor, dnot, dandV, dorV, dnotV, dchain, daug, dpar, dforS, dlc, dyes, dlst, dtup, dbm, fAppend, fPop, dvar, dc, fIx, fSl, dsl, dpart, dno, fI, fI0, fU, fAdd, fMul, fInt, fAbs, fLen, fMin2, fList, fEq, fIsN, gI, gB, lstOf, lstO, newl, dgname, dgtup, dgcons, dgnil, dirng1, dirng2, dilst, ditup, dienum, dizip, stays, startD, endD, dcallP, dcallN, fS, dfz, fzK, dbreak, dcont, wipeD, List.map_cons, List.map_nil, List.length_cons, List.length_nil, List.replicate, List.cons_append, List.nil_append, List.getElem?_cons_zero, List.getElem?_cons_succ, List.set_cons_zero, List.set_cons_succ, atI_zero, atI_one, atI_two, atI_three, ixN_zero, ixN_one, mset_same, mset_mset, mdel_mset, List.length_map, vw_one, Option.isSome_some, true_and, and_true, dmk, dmk0, dxf, disx, mkS, okX, pX]; exact hR
      refine dlc_map (as := ps) (f := pX) (v := fun q => nX q.2) (by omega) trivial ?_ fun s R hs hR => by simp only [dseq, dasg, dasgG, dgsub, setL, dop, dun, dcb, dcons, dnil, dret, dretN, dnext, ddrop, diff, dif, dtest, dand, dor, dnot, dandV, dorV, dnotV, dchain, daug, dpar, dforS, dlc, dyes, dlst, dtup, dbm, fAppend, fPop, dvar, dc, fIx, fSl, dsl, dpart, dno, fI, fI0, fU, fAdd, fMul, fInt, fAbs, fLen, fMin2, fList, fEq, fIsN, gI, gB, lstOf, lstO, newl, dgname, dgtup, dgcons, dgnil, dirng1, dirng2, dilst, ditup, dienum, dizip, stays, startD, endD, dcallP, dcallN, fS, dfz, fzK, dbreak, dcont, wipeD, List.map_cons, List.map_nil, List.length_cons, List.length_nil, List.replicate, List.cons_append, List.nil_append, List.getElem?_cons_zero, List.getElem?_cons_succ, List.set_cons_zero, List.set_cons_succ, atI_zero, atI_one, atI_two, atI_three, ixN_zero, ixN_one, mset_same, mset_mset, mdel_mset, List.length_map, vw_one, Option.isSome_some, true_and, and_true, dmk, dmk0, dxf, disx, mkS, okX, pX]; exact hR
      refine ⟨line_ge (by simp only [List.length_map]; omega), ?_⟩
      rw [List.map_append, List.map_map, List.map_map] at hQ
      exact hQ
    have hcnt : ∀ v : Nat, ((ps.map (·.1) ++ ps.map (·.2)).filter fun u => u == v).length = deg ps v := fun v => by
      rw [← List.count_eq_length_filter, List.count_append, deg_ends]
      have := count_two (fun q : E2 => q.1) (fun q => q.2) v ps
      rw [← this]
      rw [List.map_id'' (fun q => rfl)]
    refine ev_step (x := .lst true (((List.range n).filter fun v => decide (deg ps v ≠ 3)).map nX)) (M1 := mset m0 p (DL.stC nums k3)) (fun Q hQ => ?_) ?_
    · simp only [dseq, dasg, dasgG, dgsub, setL, dop, dun, dcb, dcons, dnil, dret, dretN, dnext, ddrop, diff, dif, dtest, dand, dor, dnot, dandV, dorV, dnotV, dchain, daug, dpar, dforS, dlc, dyes, dlst, dtup, dbm, fAppend, fPop, dvar, dc, fIx, fSl, dsl, dpart, dno, fI, fI0, fU, fAdd, fMul, fInt, fAbs, fLen, fMin2, fList, fEq, fIsN, gI, gB, lstOf, lstO, newl, dgname, dgtup, dgcons, dgnil, dirng1, dirng2, dilst, ditup, dienum, dizip, stays, startD, endD, dcallP, dcallN, fS, dfz, fzK, dbreak, dcont, wipeD, List.map_cons, List.map_nil, List.length_cons, List.length_nil, List.replicate, List.cons_append, List.nil_append, List.getElem?_cons_zero, List.getElem?_cons_succ, List.set_cons_zero, List.set_cons_succ, atI_zero, atI_one, atI_two, atI_three, ixN_zero, ixN_one, mset_same, mset_mset, mdel_mset, List.length_map, vw_one, Option.isSome_some, true_and, and_true, dmk, dmk0, dxf, disx, mkS, okX]
      refine ⟨by omega, by omega, ?_⟩
      rw [Int.toNat_natCast]
      refine dlc_filter (as := List.range n) (f := fun i => .int (i : Nat)) (v := fun i => .int (i : Nat)) (pr := fun v => decide (deg ps v ≠ 3)) (by rw [List.length_range]; omega) trivial hQ fun v R S hv h1 h2 => ?_
      simp only [dseq, dasg, dasgG, dgsub, setL, dop, dun, dcb, dcons, dnil, dret, dretN, dnext, ddrop, diff, dif, dtest, dand, dor, dnot, dandV, dorV, dnotV, dchain, daug, dpar, dforS, dlc, dyes, dlst, dtup, dbm, fAppend, fPop, dvar, dc, fIx, fSl, dsl, dpart, dno, fI, fI0, fU, fAdd, fMul, fInt, fAbs, fLen, fMin2, fList, fEq, fIsN, gI, gB, lstOf, lstO, newl, dgname, dgtup, dgcons, dgnil, dirng1, dirng2, dilst, ditup, dienum, dizip, stays, startD, endD, dcallP, dcallN, fS, dfz, fzK, dbreak, dcont, wipeD, List.map_cons, List.map_nil, List.length_cons, List.length_nil, List.replicate, List.cons_append, List.nil_append, List.getElem?_cons_zero, List.getElem?_cons_succ, List.set_cons_zero, List.set_cons_succ, atI_zero, atI_one, atI_two, atI_three, ixN_zero, ixN_one, mset_same, mset_mset, mdel_mset, List.length_map, vw_one, Option.isSome_some, true_and, and_true, dmk, dmk0, dxf, disx, mkS, okX]
      refine dlc_filter (as := ps.map (·.1) ++ ps.map (·.2)) (f := nX) (v := nX) (pr := fun u => u == v) (by rw [List.length_append, List.length_map, List.length_map]; omega) trivial ?_ fun u R' S' hu h3 h4 => ?_
      · rw [List.length_map, hcnt]
        by_cases h3 : deg ps v = 3
        · rw [tt (show ((deg ps v : Nat) : Int) = 3 by omega)]
          exact h2 (decide_eq_false fun z => z h3)
        · rw [ff (show ¬ ((deg ps v : Nat) : Int) = 3 by omega)]
          exact h1 (decide_eq_true h3)
      · simp only [dseq, dasg, dasgG, dgsub, setL, dop, dun, dcb, dcons, dnil, dret, dretN, dnext, ddrop, diff, dif, dtest, dand, dor, dnot, dandV, dorV, dnotV, dchain, daug, dpar, dforS, dlc, dyes, dlst, dtup, dbm, fAppend, fPop, dvar, dc, fIx, fSl, dsl, dpart, dno, fI, fI0, fU, fAdd, fMul, fInt, fAbs, fLen, fMin2, fList, fEq, fIsN, gI, gB, lstOf, lstO, newl, dgname, dgtup, dgcons, dgnil, dirng1, dirng2, dilst, ditup, dienum, dizip, stays, startD, endD, dcallP, dcallN, fS, dfz, fzK, dbreak, dcont, wipeD, List.map_cons, List.map_nil, List.length_cons, List.length_nil, List.replicate, List.cons_append, List.nil_append, List.getElem?_cons_zero, List.getElem?_cons_succ, List.set_cons_zero, List.set_cons_succ, atI_zero, atI_one, atI_two, atI_three, ixN_zero, ixN_one, mset_same, mset_mset, mdel_mset, List.length_map, vw_one, Option.isSome_some, true_and, and_true, dmk, dmk0, dxf, disx, mkS, okX]
        by_cases h5 : u = v
        · rw [tt (show (u : Int) = (v : Int) by omega)]
          exact h3 (by rw [h5]; exact beq_self_eq_true _)
        · rw [ff (show ¬ (u : Int) = (v : Int) by omega)]
          exact h4 (by rw [beq_eq_false_iff_ne]; exact h5)
    simp only [List.set_cons_succ, List.set_cons_zero]
    cases hb : (List.range n).filter fun v => decide (deg ps v ≠ 3) with
    | nil =>
      have all3 : ∀ v, v < n → deg ps v = 3 := fun v hv => by
        have h1 := List.filter_eq_nil_iff.mp hb v (List.mem_range.mpr hv)
        simpa using h1
      refine step_if1 (M1 := mset m0 p (DL.stC nums k3)) (fun Q hQ => ?_) ?_
      · simp only [dseq, dasg, dasgG, dgsub, setL, dop, dun, dcb, dcons, dnil, dret, dretN, dnext, ddrop, diff, dif, dtest, dand, dor, dnot, dandV, dorV, dnotV, dchain, daug, dpar, dforS, dlc, dyes, dlst, dtup, dbm, fAppend, fPop, dvar, dc, fIx, fSl, dsl, dpart, dno, fI, fI0, fU, fAdd, fMul, fInt, fAbs, fLen, fMin2, fList, fEq, fIsN, gI, gB, lstOf, lstO, newl, dgname, dgtup, dgcons, dgnil, dirng1, dirng2, dilst, ditup, dienum, dizip, stays, startD, endD, dcallP, dcallN, fS, dfz, fzK, dbreak, dcont, wipeD, List.map_cons, List.map_nil, List.length_cons, List.length_nil, List.replicate, List.cons_append, List.nil_append, List.getElem?_cons_zero, List.getElem?_cons_succ, List.set_cons_zero, List.set_cons_succ, atI_zero, atI_one, atI_two, atI_three, ixN_zero, ixN_one, mset_same, mset_mset, mdel_mset, List.length_map, vw_one, Option.isSome_some, true_and, and_true, dmk, dmk0, dxf, disx, mkS, okX, fEqD, dX, dXs, gM]
        exact ⟨Nat.zero_le _, rfl, rfl, hQ⟩
      simp only [dseq, dasg, dasgG, dgsub, setL, dop, dun, dcb, dcons, dnil, dret, dretN, dnext, ddrop, diff, dif, dtest, dand, dor, dnot, dandV, dorV, dnotV, dchain, daug, dpar, dforS, dlc, dyes, dlst, dtup, dbm, fAppend, fPop, dvar, dc, fIx, fSl, dsl, dpart, dno, fI, fI0, fU, fAdd, fMul, fInt, fAbs, fLen, fMin2, fList, fEq, fIsN, gI, gB, lstOf, lstO, newl, dgname, dgtup, dgcons, dgnil, dirng1, dirng2, dilst, ditup, dienum, dizip, stays, startD, endD, dcallP, dcallN, fS, dfz, fzK, dbreak, dcont, wipeD, List.map_cons, List.map_nil, List.length_cons, List.length_nil, List.replicate, List.cons_append, List.nil_append, List.getElem?_cons_zero, List.getElem?_cons_succ, List.set_cons_zero, List.set_cons_succ, atI_zero, atI_one, atI_two, atI_three, ixN_zero, ixN_one, mset_same, mset_mset, mdel_mset, List.length_map, vw_one, Option.isSome_some, true_and, and_true, dmk, dmk0, dxf, disx, mkS, okX]
      refine ⟨n, ps, true, by simp [vw], by omega, by omega, wf, ?_⟩
      refine ⟨n, ps, by simp [vw], by omega, by omega, wf, fun _ => ?_, fun v hv h1 _ => absurd (all3 v hv) h1⟩
      exact rt_pure rfl q
    | cons v r =>
      have hm : v ∈ (List.range n).filter fun v => decide (deg ps v ≠ 3) := by rw [hb]; exact List.mem_cons_self
      have hv : v < n := List.mem_range.mp (List.mem_filter.mp hm).1
      have hv3 : deg ps v ≠ 3 := of_decide_eq_true (List.mem_filter.mp hm).2
      have hlow : ∀ u, u < v → deg ps u = 3 := fun u hu => Decidable.byContradiction fun h3 => by
        have hp : ((List.range n).filter fun v => decide (deg ps v ≠ 3)).Pairwise (· < ·) := List.Pairwise.filter _ List.pairwise_lt_range
        have hmu : u ∈ (List.range n).filter fun v => decide (deg ps v ≠ 3) := List.mem_filter.mpr ⟨List.mem_range.mpr (by omega), decide_eq_true h3⟩
        rw [hb] at hp hmu
        rcases List.mem_cons.mp hmu with rfl | hmu
        · omega
        · have := (List.pairwise_cons.mp hp).1 u hmu
          omega
      have ok : okR (.tuple [.str "cubic", .int ((v : Nat) : Int)]) := by
        have hv5 : v < 6 := by omega
        have : v = 0 ∨ v = 1 ∨ v = 2 ∨ v = 3 ∨ v = 4 ∨ v = 5 := by omega
        rcases this with rfl | rfl | rfl | rfl | rfl | rfl <;> exact okR_of (by decide +kernel) (by decide +kernel) (by decide +kernel) (by decide +kernel) (by decide +kernel)
      have e2 : (PyData.eqv (.list ((v :: r).map fun k : Nat => PyData.int (k : Int))) (.list [])) = false := rfl
      refine step_if0 (M1 := mset m0 p (DL.stC nums k3)) (fun Q hQ => ?_) ?_
      · have ed : dX (gM (mset m0 p (DL.stC nums k3)) 3) (.lst true ((v :: r).map nX)) = some (.list ((v :: r).map fun k : Nat => PyData.int (k : Int))) := by
          show (dXs _ _).map PyData.list = _
          rw [dXs_nats]; rfl
        simp only [dseq, dasg, dasgG, dgsub, setL, dop, dun, dcb, dcons, dnil, dret, dretN, dnext, ddrop, diff, dif, dtest, dand, dor, dnot, dandV, dorV, dnotV, dchain, daug, dpar, dforS, dlc, dyes, dlst, dtup, dbm, fAppend, fPop, dvar, dc, fIx, fSl, dsl, dpart, dno, fI, fI0, fU, fAdd, fMul, fInt, fAbs, fLen, fMin2, fList, fEq, fIsN, gI, gB, lstOf, lstO, newl, dgname, dgtup, dgcons, dgnil, dirng1, dirng2, dilst, ditup, dienum, dizip, stays, startD, endD, dcallP, dcallN, fS, dfz, fzK, dbreak, dcont, wipeD, List.map_cons, List.map_nil, List.length_cons, List.length_nil, List.replicate, List.cons_append, List.nil_append, List.getElem?_cons_zero, List.getElem?_cons_succ, List.set_cons_zero, List.set_cons_succ, atI_zero, atI_one, atI_two, atI_three, ixN_zero, ixN_one, mset_same, mset_mset, mdel_mset, List.length_map, vw_one, Option.isSome_some, true_and, and_true, dmk, dmk0, dxf, disx, mkS, okX]
        refine ⟨Nat.zero_le _, eqD_i ed rfl (shaped_map (fun k : Nat => PyData.int (k : Int)) (fun _ => ⟨rfl, rfl⟩) _) rfl ?_⟩
        rw [e2]
        exact hQ
      simp only [dseq, dasg, dasgG, dgsub, setL, dop, dun, dcb, dcons, dnil, dret, dretN, dnext, ddrop, diff, dif, dtest, dand, dor, dnot, dandV, dorV, dnotV, dchain, daug, dpar, dforS, dlc, dyes, dlst, dtup, dbm, fAppend, fPop, dvar, dc, fIx, fSl, dsl, dpart, dno, fI, fI0, fU, fAdd, fMul, fInt, fAbs, fLen, fMin2, fList, fEq, fIsN, gI, gB, lstOf, lstO, newl, dgname, dgtup, dgcons, dgnil, dirng1, dirng2, dilst, ditup, dienum, dizip, stays, startD, endD, dcallP, dcallN, fS, dfz, fzK, dbreak, dcont, wipeD, List.map_cons, List.map_nil, List.length_cons, List.length_nil, List.replicate, List.cons_append, List.nil_append, List.getElem?_cons_zero, List.getElem?_cons_succ, List.set_cons_zero, List.set_cons_succ, atI_zero, atI_one, atI_two, atI_three, ixN_zero, ixN_one, mset_same, mset_mset, mdel_mset, List.length_map, vw_one, Option.isSome_some, true_and, and_true, dmk, dmk0, dxf, disx, mkS, okX]
      refine ⟨n, ps, true, by simp [vw], by omega, by omega, wf, ?_⟩
      refine ⟨n, ps, by simp [vw], by omega, by omega, wf, fun h3 => absurd (h3 v hv) hv3, fun v' hv' h1 h2 => ?_⟩
      have evv : v' = v := by
        rcases Nat.lt_trichotomy v' v with h | h | h
        · exact absurd (hlow v' h) h1
        · exact h
        · exact absurd (h2 v h) hv3
      subst evv
      have ed : dX (gM (mset m0 p (DL.stC nums k3)) 3) (.tup [.str "cubic", nX v']) = some (.tuple [.str "cubic", .int ((v' : Nat) : Int)]) := rfl
      unfold fRepr
      simp only [ed]
      refine ⟨ok, line_ge (by decide), ok, ?_⟩
      have e1 : ∀ d : Decidable True, (false != @decide True d) = true := fun d => by rw [@decide_eq_true _ d trivial]; rfl
      rw [e1]
      exact rt_pure rfl q
end
end K53


set_option maxRecDepth 100000
set_option maxHeartbeats 0
namespace K53
open PySem PySem.Spec PyProof.Rows L2 DL Fl
section
variable {P : Program} {w : World} {K : PySem.W.Frag} {mg : Str → Option Value} {base : Heap}
def iniOf : Stmt → Stmt
  | .ClassDef _ _ _ b _ _ _ _ _ _ _ => b.headD (.Pass ⟨0, 0, 0, 0⟩)
  | s => s

theorem cx_NotCubic (I : HX.Ini P K "NotCubic" "NotCubic.__init__" (iniOf (topS 10))) (T : OexC K (He.ga K "NotCubic")) (hs : mg "super" = none) (hl : mg "list" = none) (top : (P.main.scope.names.lookup ("super" : Str)).isSome = false) (n0 : PySem.W.findIn K (.ref (He.ga K "NotCubic")) "vertex" = some none) (gx : mg "NotCubic" = some (.ref (He.ga K "NotCubic"))) : CalX P w K mg base CX0 "NotCubic" 1 (He.ga K "NotCubic") (.s1 "vertex") := by
  obtain ⟨oc, od, kV, doc, pm, an, cda, ct, cc, osl, lk, hcd, S⟩ := I.sup T hs ⟨_, rfl, rfl⟩ rfl rfl rfl top
  exact ⟨⟨_, _, ["self", "vertex"], fn_x1 lk hcd ⟨rfl, rfl, rfl, by decide +kernel, rfl, by decide +kernel, by decide +kernel, by decide +kernel⟩ S n0 (fun A outer s H E => msg_1 (i := 1) rfl (.inl rfl) (by decide)) (fun env => ⟨_, rfl⟩) (fun _ => rfl) (fun _ => rfl) (fun _ => rfl), gx, I.i1, I.i2, .all fun us hl => match us, hl with | [_, _], _ => rfl⟩, T⟩
/-! ### the head -/
abbrev frees : List Str := ["super", "len", "abs", "int", "range", "list", "isinstance", "sorted", "set", "repr", "enumerate", "min", "tuple", "iter", "bool"]
abbrev gMs : List Str := ["__len__", "__iter__", "ends", "edges_at", "degree"]
abbrev gA (K : PySem.W.Frag) : Addr := He.ga K "Graph"
abbrev nA (K : PySem.W.Frag) : Addr := He.ga K "NotCubic"
abbrev fnNs : List Str := ["check_row", "step_ends", "both_ways", "steps_from", "_back", "find_steps", "imbalances", "refuse_unbalanced", "changes", "lift", "_refuse_other", "_shades", "_odd_cycle", "three_flow", "_law_cell", "_law_numbers", "_law_state", "_law_next", "_law_shuffled", "_law_any_pairs", "_law_stops", "_law_unlike", "_law_is_cycle", "_law_rests", "_law_is_flow", "_law_cubic", "_law_error", "_law_answered", "law"]
def bf (K : PySem.W.Frag) : Bool :=
  (HX.clsB K (nA K) && (HX.b1 (PySem.W.exmOne K (.ref (nA K)) (.ref (He.ga K "FlowError"))) true && (HX.o1 K (.ref (nA K)) "vertex" none && (HX.b1 (PySem.W.kitOne K (.ref (nA K)) (.ref (nA K))) true && HX.b1 (PySem.W.kitOne K (.ref (nA K)) (.ref (He.ga K "BadColours"))) false)))) &&
  ((HX.insB K (gA K) && ((gFs.all fun f => HX.o1 K (.ref (gA K)) f none) && ((gMs.all fun m => HX.methB K (gA K) m) && (HX.mkB K (gA K) && HX.propB K (gA K) "vertices")))) &&
  ((fnNs.all fun x => HX.gloB K x) && (((["Graph", "FlowError", "NotCubic", "BadColours"] : List Str).all fun x => HX.gloB K x) && (frees.all fun x => HX.freeB K x))))
structure Facts (K : PySem.W.Frag) (mg : Str → Option Value) : Prop where
  oex : OexC K (nA K)
  nck : NcK K
  grk : GrK K (gA K)
  met : ∀ m ∈ gMs, Meth K (gA K) m (He.ma K (gA K) m)
  mkk : Mk K (gA K) (He.ma K (gA K) "__init__")
  prop : PropOf K (gA K) "vertices" (He.ma K (gA K) "vertices") (HX.pgA K (gA K) "vertices")
  fns : ∀ x ∈ fnNs, mg x = some (.ref (He.ga K x))
  cls : ∀ x ∈ (["Graph", "FlowError", "NotCubic", "BadColours"] : List Str), mg x = some (.ref (He.ga K x))
  free : ∀ x ∈ frees, mg x = none
theorem facts_of {h : Heap} (X : K.In h) (G : h.Ns mainGlobals mg) (c : bf K = true) : Facts K mg := by
  simp only [bf, Bool.and_eq_true, List.all_eq_true] at c
  obtain ⟨⟨c1, c2, c3, c4, c5⟩, ⟨c6, c7, c8, c9, c10⟩, c11, c12, c13⟩ := c
  have z := HX.clsB_ok c1
  exact ⟨z.1, ⟨of_decide_eq_true c2, z.2, of_decide_eq_true c3, of_decide_eq_true c4, of_decide_eq_true c5⟩, ⟨HX.insB_ok c6, fun f hf => show PySem.W.findIn K (.ref (gA K)) f = some none from of_decide_eq_true (c7 f hf)⟩, fun m hm => HX.methB_ok (c8 m hm), HX.mkB_ok c9, HX.propB_ok c10, fun x hx => HX.gloB_ok X G (c11 x hx), fun x hx => HX.gloB_ok X G (c12 x hx), fun x hx => HX.freeB_ok X G (c13 x hx)⟩
abbrev RW : PySem.W.OpenLaw := PySem.Challenge.rw_nowherezero_k53_three_flows
abbrev PP : Program := (PySem.W.OpenLaw.row RW).prog
def fys : List HX.FY := [⟨fun K => He.ga K "check_row", "check_row", "check_row", topS 15⟩, ⟨fun K => He.ga K "step_ends", "step_ends", "step_ends", topS 17⟩, ⟨fun K => He.ga K "both_ways", "both_ways", "both_ways", topS 18⟩, ⟨fun K => He.ga K "steps_from", "steps_from", "steps_from", topS 19⟩, ⟨fun K => He.ga K "_back", "_back", "_back", topS 21⟩, ⟨fun K => He.ga K "find_steps", "find_steps", "find_steps", topS 20⟩, ⟨fun K => He.ga K "imbalances", "imbalances", "imbalances", topS 23⟩, ⟨fun K => He.ga K "refuse_unbalanced", "refuse_unbalanced", "refuse_unbalanced", topS 24⟩, ⟨fun K => He.ga K "changes", "changes", "changes", topS 27⟩, ⟨fun K => He.ga K "lift", "lift", "lift", topS 26⟩, ⟨fun K => He.ga K "_refuse_other", "_refuse_other", "_refuse_other", topS 29⟩, ⟨fun K => He.ga K "_shades", "_shades", "_shades", topS 31⟩, ⟨fun K => He.ga K "_odd_cycle", "_odd_cycle", "_odd_cycle", topS 32⟩, ⟨fun K => He.ga K "three_flow", "three_flow", "three_flow", topS 30⟩, ⟨fun K => He.ga K "_law_cell", "_law_cell", "_law_cell", topS 34⟩, ⟨fun K => He.ga K "_law_numbers", "_law_numbers", "_law_numbers", topS 35⟩, ⟨fun K => He.ga K "_law_state", "_law_state", "_law_state", topS 36⟩, ⟨fun K => He.ga K "_law_next", "_law_next", "_law_next", topS 37⟩, ⟨fun K => He.ga K "_law_shuffled", "_law_shuffled", "_law_shuffled", topS 38⟩, ⟨fun K => He.ga K "_law_any_pairs", "_law_any_pairs", "_law_any_pairs", topS 39⟩, ⟨fun K => He.ga K "_law_stops", "_law_stops", "_law_stops", topS 40⟩, ⟨fun K => He.ga K "_law_unlike", "_law_unlike", "_law_unlike", topS 41⟩, ⟨fun K => He.ga K "_law_is_cycle", "_law_is_cycle", "_law_is_cycle", topS 42⟩, ⟨fun K => He.ga K "_law_rests", "_law_rests", "_law_rests", topS 43⟩, ⟨fun K => He.ga K "_law_is_flow", "_law_is_flow", "_law_is_flow", topS 44⟩, ⟨fun K => He.ga K "_law_cubic", "_law_cubic", "_law_cubic", topS 45⟩, ⟨fun K => He.ga K "_law_error", "_law_error", "_law_error", topS 46⟩, ⟨fun K => He.ga K "_law_answered", "_law_answered", "_law_answered", topS 47⟩, ⟨fun K => He.ga K "law", "law", "law", topS 48⟩, ⟨fun K => He.ma K (gA K) "__len__", "__len__", "Graph.__len__", methS 13 3⟩, ⟨fun K => He.ma K (gA K) "__iter__", "__iter__", "Graph.__iter__", methS 13 4⟩, ⟨fun K => He.ma K (gA K) "ends", "ends", "Graph.ends", methS 13 6⟩, ⟨fun K => He.ma K (gA K) "edges_at", "edges_at", "Graph.edges_at", methS 13 7⟩, ⟨fun K => He.ma K (gA K) "degree", "degree", "Graph.degree", methS 13 8⟩, ⟨fun K => He.ma K (gA K) "__init__", "__init__", "Graph.__init__", methS 13 0⟩, ⟨fun K => HX.pgA K (gA K) "vertices", "vertices", "Graph.vertices", methS 13 1⟩]
def xns : List HX.XnD := [⟨"NotCubic", "NotCubic.__init__", iniOf (topS 10)⟩]
abbrev hk : PySem.W.Hook := HX.hookY 6 bf PP fys xns
def ob (s : PySem.W.SharedT) : HX.AlY := HX.obsYG 6 bf PP fys xns (HandSHeadRun.getT s)
theorem ob_eq (s : PySem.W.SharedT) : ob s = hk.obs s.abs := HX.obsYG_eq (HandSHeadRun.getT_eq s)
def loose : List PySem.Str := [PySem.Str.ofString "_wall", PySem.Str.ofString "FlowError", PySem.Str.ofString "BadGraph", PySem.Str.ofString "UnknownVertex", PySem.Str.ofString "UnknownEdge", PySem.Str.ofString "BadRow", PySem.Str.ofString "BadAmount", PySem.Str.ofString "Unbalanced", PySem.Str.ofString "BadModulus", PySem.Str.ofString "NotCubic", PySem.Str.ofString "BadColours", PySem.Str.ofString "Graph", PySem.Str.ofString "marked_edges", PySem.Str.ofString "check_row", PySem.Str.ofString "step_ends", PySem.Str.ofString "both_ways", PySem.Str.ofString "steps_from", PySem.Str.ofString "find_steps", PySem.Str.ofString "_back", PySem.Str.ofString "imbalances", PySem.Str.ofString "refuse_unbalanced", PySem.Str.ofString "lift", PySem.Str.ofString "changes", PySem.Str.ofString "_refuse_other", PySem.Str.ofString "three_flow", PySem.Str.ofString "_shades", PySem.Str.ofString "_odd_cycle", PySem.Str.ofString "_law_cell", PySem.Str.ofString "_law_numbers", PySem.Str.ofString "_law_state", PySem.Str.ofString "_law_next", PySem.Str.ofString "_law_shuffled", PySem.Str.ofString "_law_any_pairs", PySem.Str.ofString "_law_stops", PySem.Str.ofString "_law_unlike", PySem.Str.ofString "_law_is_cycle", PySem.Str.ofString "_law_rests", PySem.Str.ofString "_law_is_flow", PySem.Str.ofString "_law_cubic", PySem.Str.ofString "_law_error", PySem.Str.ofString "_law_answered"]
theorem run (w : World) : HandSHeadRun.RunEq (PySem.W.OpenLaw.row RW) (PySem.W.view PP [48]) hk ob 20000 loose w := by
  intro os
  kernel_rfl
theorem facts {w : World} {K : PySem.W.Frag} {h : Heap} {mg : Str → Option Value} {fa : Addr} (X : K.In h) (G : h.Ns mainGlobals mg) (hfa : mg ("law" : Str) = some (.ref fa)) (c : HX.SaysY bf PP fys xns K) :
    ∃ (fd : FuncData) (sp : Sp), (∀ (s : Shared) (u : Value), BindsTo s fd ⟨[u], []⟩ [("script", u)]) ∧
      (∀ (H : Hp) (a : Addr) (ns : List Int), ns.length ≤ 63 → L2.Only H → SqL K H a (ns.map V.int) → sp [.ref a] H (fun v _ => v = .bl true) fun _ _ _ => False) ∧
      ∀ base : Heap, K.In base → base.Ns mainGlobals mg → FnOkG true PP w K mg base CX0 9 fa fd ["script"] sp := by
  have F := facts_of X G c.bools.1
  have top : (PP.main.scope.names.lookup ("super" : Str)).isSome = false := by kernel_rfl
  have fr : ∀ x ∈ frees, mg x = none := F.free
  have B : Blt2 mg := ⟨⟨fr "len" (by simp), fr "abs" (by simp), fr "int" (by simp), fr "range" (by simp), fr "list" (by simp), fr "isinstance" (by simp), fr "sorted" (by simp), fr "set" (by simp), fr "repr" (by simp)⟩, fr "enumerate" (by simp), fr "min" (by simp), fr "tuple" (by simp), fr "iter" (by simp), fr "bool" (by simp)⟩
  have d_check_row : Def K mg "check_row" (topS 15) := by
    obtain ⟨fdt, z⟩ := c.def_ 0 rfl
    exact ⟨⟨_, fdt, z, F.fns "check_row" (by decide +kernel)⟩⟩
  have d_step_ends : Def K mg "step_ends" (topS 17) := by
    obtain ⟨fdt, z⟩ := c.def_ 1 rfl
    exact ⟨⟨_, fdt, z, F.fns "step_ends" (by decide +kernel)⟩⟩
  have d_both_ways : Def K mg "both_ways" (topS 18) := by
    obtain ⟨fdt, z⟩ := c.def_ 2 rfl
    exact ⟨⟨_, fdt, z, F.fns "both_ways" (by decide +kernel)⟩⟩
  have d_steps_from : Def K mg "steps_from" (topS 19) := by
    obtain ⟨fdt, z⟩ := c.def_ 3 rfl
    exact ⟨⟨_, fdt, z, F.fns "steps_from" (by decide +kernel)⟩⟩
  have d_back : Def K mg "_back" (topS 21) := by
    obtain ⟨fdt, z⟩ := c.def_ 4 rfl
    exact ⟨⟨_, fdt, z, F.fns "_back" (by decide +kernel)⟩⟩
  have d_find_steps : Def K mg "find_steps" (topS 20) := by
    obtain ⟨fdt, z⟩ := c.def_ 5 rfl
    exact ⟨⟨_, fdt, z, F.fns "find_steps" (by decide +kernel)⟩⟩
  have d_imbalances : Def K mg "imbalances" (topS 23) := by
    obtain ⟨fdt, z⟩ := c.def_ 6 rfl
    exact ⟨⟨_, fdt, z, F.fns "imbalances" (by decide +kernel)⟩⟩
  have d_refuse_unbalanced : Def K mg "refuse_unbalanced" (topS 24) := by
    obtain ⟨fdt, z⟩ := c.def_ 7 rfl
    exact ⟨⟨_, fdt, z, F.fns "refuse_unbalanced" (by decide +kernel)⟩⟩
  have d_changes : Def K mg "changes" (topS 27) := by
    obtain ⟨fdt, z⟩ := c.def_ 8 rfl
    exact ⟨⟨_, fdt, z, F.fns "changes" (by decide +kernel)⟩⟩
  have d_lift : Def K mg "lift" (topS 26) := by
    obtain ⟨fdt, z⟩ := c.def_ 9 rfl
    exact ⟨⟨_, fdt, z, F.fns "lift" (by decide +kernel)⟩⟩
  have d_refuse_other : Def K mg "_refuse_other" (topS 29) := by
    obtain ⟨fdt, z⟩ := c.def_ 10 rfl
    exact ⟨⟨_, fdt, z, F.fns "_refuse_other" (by decide +kernel)⟩⟩
  have d_shades : Def K mg "_shades" (topS 31) := by
    obtain ⟨fdt, z⟩ := c.def_ 11 rfl
    exact ⟨⟨_, fdt, z, F.fns "_shades" (by decide +kernel)⟩⟩
  have d_odd_cycle : Def K mg "_odd_cycle" (topS 32) := by
    obtain ⟨fdt, z⟩ := c.def_ 12 rfl
    exact ⟨⟨_, fdt, z, F.fns "_odd_cycle" (by decide +kernel)⟩⟩
  have d_three_flow : Def K mg "three_flow" (topS 30) := by
    obtain ⟨fdt, z⟩ := c.def_ 13 rfl
    exact ⟨⟨_, fdt, z, F.fns "three_flow" (by decide +kernel)⟩⟩
  have d_law_cell : Def K mg "_law_cell" (topS 34) := by
    obtain ⟨fdt, z⟩ := c.def_ 14 rfl
    exact ⟨⟨_, fdt, z, F.fns "_law_cell" (by decide +kernel)⟩⟩
  have d_law_numbers : Def K mg "_law_numbers" (topS 35) := by
    obtain ⟨fdt, z⟩ := c.def_ 15 rfl
    exact ⟨⟨_, fdt, z, F.fns "_law_numbers" (by decide +kernel)⟩⟩
  have d_law_state : Def K mg "_law_state" (topS 36) := by
    obtain ⟨fdt, z⟩ := c.def_ 16 rfl
    exact ⟨⟨_, fdt, z, F.fns "_law_state" (by decide +kernel)⟩⟩
  have d_law_next : Def K mg "_law_next" (topS 37) := by
    obtain ⟨fdt, z⟩ := c.def_ 17 rfl
    exact ⟨⟨_, fdt, z, F.fns "_law_next" (by decide +kernel)⟩⟩
  have d_law_shuffled : Def K mg "_law_shuffled" (topS 38) := by
    obtain ⟨fdt, z⟩ := c.def_ 18 rfl
    exact ⟨⟨_, fdt, z, F.fns "_law_shuffled" (by decide +kernel)⟩⟩
  have d_law_any_pairs : Def K mg "_law_any_pairs" (topS 39) := by
    obtain ⟨fdt, z⟩ := c.def_ 19 rfl
    exact ⟨⟨_, fdt, z, F.fns "_law_any_pairs" (by decide +kernel)⟩⟩
  have d_law_stops : Def K mg "_law_stops" (topS 40) := by
    obtain ⟨fdt, z⟩ := c.def_ 20 rfl
    exact ⟨⟨_, fdt, z, F.fns "_law_stops" (by decide +kernel)⟩⟩
  have d_law_unlike : Def K mg "_law_unlike" (topS 41) := by
    obtain ⟨fdt, z⟩ := c.def_ 21 rfl
    exact ⟨⟨_, fdt, z, F.fns "_law_unlike" (by decide +kernel)⟩⟩
  have d_law_is_cycle : Def K mg "_law_is_cycle" (topS 42) := by
    obtain ⟨fdt, z⟩ := c.def_ 22 rfl
    exact ⟨⟨_, fdt, z, F.fns "_law_is_cycle" (by decide +kernel)⟩⟩
  have d_law_rests : Def K mg "_law_rests" (topS 43) := by
    obtain ⟨fdt, z⟩ := c.def_ 23 rfl
    exact ⟨⟨_, fdt, z, F.fns "_law_rests" (by decide +kernel)⟩⟩
  have d_law_is_flow : Def K mg "_law_is_flow" (topS 44) := by
    obtain ⟨fdt, z⟩ := c.def_ 24 rfl
    exact ⟨⟨_, fdt, z, F.fns "_law_is_flow" (by decide +kernel)⟩⟩
  have d_law_cubic : Def K mg "_law_cubic" (topS 45) := by
    obtain ⟨fdt, z⟩ := c.def_ 25 rfl
    exact ⟨⟨_, fdt, z, F.fns "_law_cubic" (by decide +kernel)⟩⟩
  have d_law_error : Def K mg "_law_error" (topS 46) := by
    obtain ⟨fdt, z⟩ := c.def_ 26 rfl
    exact ⟨⟨_, fdt, z, F.fns "_law_error" (by decide +kernel)⟩⟩
  have d_law_answered : Def K mg "_law_answered" (topS 47) := by
    obtain ⟨fdt, z⟩ := c.def_ 27 rfl
    exact ⟨⟨_, fdt, z, F.fns "_law_answered" (by decide +kernel)⟩⟩
  have m_len__ : DefM K (gA K) "__len__" "Graph.__len__" (methS 13 3) := by
    obtain ⟨fdt, z⟩ := c.def_ 29 rfl
    exact ⟨⟨_, fdt, z, F.met "__len__" (by decide +kernel)⟩⟩
  have m_iter__ : DefM K (gA K) "__iter__" "Graph.__iter__" (methS 13 4) := by
    obtain ⟨fdt, z⟩ := c.def_ 30 rfl
    exact ⟨⟨_, fdt, z, F.met "__iter__" (by decide +kernel)⟩⟩
  have m_ends : DefM K (gA K) "ends" "Graph.ends" (methS 13 6) := by
    obtain ⟨fdt, z⟩ := c.def_ 31 rfl
    exact ⟨⟨_, fdt, z, F.met "ends" (by decide +kernel)⟩⟩
  have m_edges_at : DefM K (gA K) "edges_at" "Graph.edges_at" (methS 13 7) := by
    obtain ⟨fdt, z⟩ := c.def_ 32 rfl
    exact ⟨⟨_, fdt, z, F.met "edges_at" (by decide +kernel)⟩⟩
  have m_degree : DefM K (gA K) "degree" "Graph.degree" (methS 13 8) := by
    obtain ⟨fdt, z⟩ := c.def_ 33 rfl
    exact ⟨⟨_, fdt, z, F.met "degree" (by decide +kernel)⟩⟩
  have m_init__ : DefI K mg "Graph" (gA K) "Graph.__init__" (methS 13 0) := by
    obtain ⟨fdt, z⟩ := c.def_ 34 rfl
    exact ⟨⟨_, fdt, z, F.mkk, F.cls "Graph" (by decide +kernel)⟩⟩
  have m_vertices : DefP K (gA K) "vertices" "Graph.vertices" (methS 13 1) := by
    obtain ⟨fdt, z⟩ := c.def_ 35 rfl
    exact ⟨⟨_, _, fdt, z, F.prop⟩⟩
  obtain ⟨fdt, FL⟩ := c.def_ 28 rfl
  have e := hfa.symm.trans (F.fns "law" (by decide +kernel))
  cases e
  have bl : Binds K fdt ["script"] [] := FL.binds fun _ _ _ _ _ _ us hl => match us, hl with | [_], _ => rfl
  refine ⟨fdt, spG K (PFd f_law), fun s u => ?_, fun H a ns _ hO hS => HX.sp_law hO hS fun Q E q => ⟨ns, rfl, q⟩, fun base KB GB => ?_⟩
  · obtain ⟨oc, od, kV, doc, pm, an, cdv, ct, osl, rfl, _, _⟩ := FL.ex
    exact .of_eq rfl
  · have GK := F.grk
    have z := c.ini 0 rfl
    have XC : ∀ x : Str, x = "NotCubic" → CalX PP w K mg base CX0 x 1 (He.ga K x) (.s1 "vertex") := fun x hx => by
      subst hx
      exact cx_NotCubic z F.oex (fr "super" (by simp)) (fr "list" (by simp)) top F.nck.fv (F.cls "NotCubic" (by decide +kernel))
    have gv := calM_vertices (P := PP) (w := w) (base := base) B m_vertices GK
    have gl := calM_len__ (P := PP) (w := w) (base := base) B m_len__ GK
    have ge := calM_ends (P := PP) (w := w) (base := base) B m_ends GK
    have ga := calM_edges_at (P := PP) (w := w) (base := base) B m_edges_at GK
    have gd := calM_degree (P := PP) (w := w) (base := base) B m_degree ga GK
    have gi := calM_init__ (P := PP) (w := w) (base := base) B m_init__ GK
    have gt : CalIt PP w K mg base (gA K) "_pairs" 1 := CalIt.mk' m_iter__ GK.cls (GK.na "_pairs" (by decide +kernel)) B.iter (N := ["self"]) ⟨rfl, rfl, rfl, by decide +kernel, rfl, by decide +kernel, by decide +kernel⟩ rfl rfl rfl (fun _ _ _ _ _ _ _ => rfl)
    have row := cal_check_row B d_check_row gl
    have step := cal_step_ends B d_step_ends ge
    have both := cal_both_ways (P := PP) (w := w) (base := base) B d_both_ways
    have from_ := cal_steps_from B d_steps_from step ga
    have back := cal_back (P := PP) (w := w) (base := base) B d_back
    have find := cal_find_steps B d_find_steps back from_
    have imb := cal_imbalances B d_imbalances gv gt
    have refu := cal_refuse_unbalanced B d_refuse_unbalanced imb
    have chan := cal_changes (P := PP) (w := w) (base := base) B d_changes
    have lif := cal_lift B d_lift row refu imb find chan gv ge
    have oth := cal_refuse_other B d_refuse_other gv gd XC
    have sha := cal_shades B d_shades both from_ gv gl
    have odd := cal_odd_cycle (P := PP) (w := w) (base := base) B d_odd_cycle
    have three := cal_three_flow B d_three_flow oth sha odd lif gt
    have cell := cal_law_cell (P := PP) (w := w) (base := base) B d_law_cell
    have numbers := cal_law_numbers (P := PP) (w := w) (base := base) B d_law_numbers
    have state := cal_law_state B d_law_state cell numbers
    have next := cal_law_next (P := PP) (w := w) (base := base) B d_law_next
    have shuf := cal_law_shuffled B d_law_shuffled next
    have anyp := cal_law_any_pairs B d_law_any_pairs next
    have stops := cal_law_stops (P := PP) (w := w) (base := base) B d_law_stops
    have unl := cal_law_unlike (P := PP) (w := w) (base := base) B d_law_unlike
    have isc := cal_law_is_cycle B d_law_is_cycle stops unl
    have rests := cal_law_rests (P := PP) (w := w) (base := base) B d_law_rests
    have isf := cal_law_is_flow B d_law_is_flow rests
    have cub := cal_law_cubic B d_law_cubic next shuf
    have err := cal_law_error B d_law_error three F.nck (fun x hx => F.cls x (List.mem_cons_of_mem _ hx))
    have ans := cal_law_answered B d_law_answered three isf isc gi
    exact ok_law B FL state cub ans next anyp err gi
end
end K53
open PySem PySem.W PySem.Calls PyProof.Rows
theorem PySem.Challenge.cw_nowherezero_k53_three_flows_holds : PySem.Challenge.rw_nowherezero_k53_three_flows.Holds := by
  w_on; o_law
  refine HandSHeadRun.head_any (r := OpenLaw.row PySem.Challenge.rw_nowherezero_k53_three_flows) (q := view (OpenLaw.row PySem.Challenge.rw_nowherezero_k53_three_flows).prog [48]) (H := K53.hk) (ob := K53.ob) (M := 20000) (loose := K53.loose) (d := HandSHeadRun.topDef (OpenLaw.row PySem.Challenge.rw_nowherezero_k53_three_flows).prog 48) (kwd := []) K53.ob_eq
    (by kernel_rfl) (fun s => by kernel_rfl) K53.run (by kernel_rfl) (by kernel_rfl) (by kernel_rfl) (by rfl) (by first | assumption | decide +kernel) (by decide +kernel) ⟨rfl, rfl, rfl, rfl, rfl, by decide +kernel⟩ ?hw ?hc
  case hw => w_witness2
  case hc =>
    refine DL.walk_ofG (l := PySem.Challenge.rw_nowherezero_k53_three_flows) (n := 63) (k := 9) (x := "script") (CX := fun _ => L2.CX0) rfl (by decide) (by kernel_rfl) ⟨rfl, by decide, by decide⟩ ?F (fun _ _ _ _ _ z => z)
    intro w mg fa h Y G hmg0
    obtain ⟨K, KX, c⟩ := Y
    have hmg : mg ("law" : PySem.Str) = some (.ref fa) := by
      have e : (HandSHeadRun.topDef (OpenLaw.row PySem.Challenge.rw_nowherezero_k53_three_flows).prog 48).name = ("law" : PySem.Str) := by kernel_rfl
      rw [← e]
      exact hmg0
    obtain ⟨fd, sp, hb, hs, hF⟩ := K53.facts (w := w) KX G hmg c
    exact ⟨K, fd, sp, KX, hb, hs, hF⟩
