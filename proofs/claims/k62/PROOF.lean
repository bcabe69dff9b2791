import PyProof.Rows.All
import Wide.All
import OpenK.AllK
import Wide.FinOn
import HandS.ForMost
import HandS.ForExc
import HandS.TupAny
import HandS.IsInst
import HandS.ExcIs
import HandS.Defaults
import HandS.Wide
import PyProof.StrBlock2
import HandS.TryMany
import PySem.Challenge.RW_changesalong_k62_changes_of_lists
section
set_option Elab.async false
set_option linter.all false
set_option maxRecDepth 100000
set_option maxHeartbeats 2000000
/-! Mini: a small deterministic semantics (tuples and frozen lists are values, lists under construction are numbered cells) and its simulation by the readings. -/
namespace Mini
open PySem L2

inductive MV where
  | non | bl (b : Bool) | int (i : Int) | str (s : Str)
  | tup (xs : List MV) | lst (xs : List MV) | fro (xs : List MV)
  | obj (c : Nat) (ns : List Str) (xs : List MV)
  | dct (ks : List Key) (xs : List MV)
  | ref (i : Nat)
inductive MO where
  | gone | lst (xs : List MV) | dct (ks : List Key) (xs : List MV) | ins (c : Nat) (ns : List Str) (xs : List MV)
abbrev MH := List MO
abbrev En := List (Option MV)
inductive Out (α : Type) where
  | ok (a : α) (h : MH) | er (c : Nat) (h : MH) | bad
def Out.bind {α β : Type} (o : Out α) (f : α → MH → Out β) : Out β := match o with
  | .ok a h => f a h
  | .er c h => .er c h
  | .bad => .bad
structure Mu where
  c : List (Option Addr)
  n : List Addr
def Mu.has (μ : Mu) (a : Addr) : Prop := some a ∈ μ.c ∨ a ∈ μ.n
def Mu.push (μ : Mu) (p : Addr) : Mu := ⟨μ.c ++ [some p], μ.n⟩
structure SC where
  K : PySem.W.Frag
  mg : Str → Option Value
  cl : List Addr
abbrev Pin := Option (Nat × V)

/-! ### the relation of values -/
def LAt (C : SC) (μ : Mu) (H : Hp) (a : Addr) (vs : List V) : Prop := (Rd H a (.lst vs) ∧ ¬ μ.has a) ∨ SqL C.K (fun _ => none) a vs
def VAt (μ : Mu) (H : Hp) (a : Addr) (vs : List V) : Prop := H a = some (.lst vs) ∧ ¬ μ.has a
def TAt (C : SC) (μ : Mu) (H : Hp) (a : Addr) (vs : List V) : Prop := (Rd H a (.tup vs) ∧ ¬ μ.has a) ∨ SqT C.K (fun _ => none) a vs
theorem sql_empty {K : PySem.W.Frag} {H : Hp} {a : Addr} {vs : List V} (h : SqL K (fun _ => none) a vs) : SqL K H a vs := by
  rcases h with (h | ⟨o, h⟩) | h
  · cases h
  · cases h
  · exact .inr h
theorem sqt_empty {K : PySem.W.Frag} {H : Hp} {a : Addr} {vs : List V} (h : SqT K (fun _ => none) a vs) : SqT K H a vs := by
  rcases h with (h | ⟨o, h⟩) | h
  · cases h
  · cases h
  · exact .inr h
theorem LAt.sql {C : SC} {μ : Mu} {H : Hp} {a : Addr} {vs : List V} (h : LAt C μ H a vs) : SqL C.K H a vs := by
  rcases h with h | h
  · exact .inl h.1
  · exact sql_empty h
theorem TAt.sqt {C : SC} {μ : Mu} {H : Hp} {a : Addr} {vs : List V} (h : TAt C μ H a vs) : SqT C.K H a vs := by
  rcases h with h | h
  · exact .inl h.1
  · exact sqt_empty h

mutual
def SimV (C : SC) (μ : Mu) (H : Hp) : MV → V → Prop
  | .non, v => v = .non
  | .bl b, v => v = .bl b
  | .int i, v => v = .int i
  | .str s, v => v = .str s
  | .tup xs, v => ∃ a vs, v = .ref a ∧ TAt C μ H a vs ∧ SimVs C μ H xs vs
  | .lst xs, v => ∃ a vs, v = .ref a ∧ VAt μ H a vs ∧ SimVs C μ H xs vs
  | .fro xs, v => ∃ a vs, v = .ref a ∧ LAt C μ H a vs ∧ SimVs C μ H xs vs
  | .obj c ns xs, v => ∃ a Ca dx fs, v = .ref a ∧ C.cl[c]? = some Ca ∧ H a = some (.ins Ca dx fs) ∧ ¬ μ.has a ∧ fs.map (·.1) = ns ∧ SimVs C μ H xs (fs.map (·.2))
  | .dct ks xs, v => ∃ a kvs, v = .ref a ∧ H a = some (.dK kvs) ∧ ¬ μ.has a ∧ kvs.map (·.1) = ks ∧ SimVs C μ H xs (kvs.map (·.2))
  | .ref i, v => ∃ a, v = .ref a ∧ (μ.c[i]? = some (some a) ∨ μ.c[i]? = some none)
def SimVs (C : SC) (μ : Mu) (H : Hp) : List MV → List V → Prop
  | [], vs => vs = []
  | x :: xs, vs => ∃ v r, vs = v :: r ∧ SimV C μ H x v ∧ SimVs C μ H xs r
end

/-- how the world may have gone on: what the small heap does not hold is kept; cells stay or are gone; what is set apart (n) stands as it stood -/
def Ext (μ : Mu) (H : Hp) (μ' : Mu) (H' : Hp) : Prop :=
  (∀ a o, H a = some o → ¬ μ.has a → H' a = some o ∧ ¬ μ'.has a) ∧ (∀ (i : Nat) x, μ.c[i]? = some x → μ'.c[i]? = some x ∨ μ'.c[i]? = some none) ∧ μ'.n = μ.n ∧ ∀ a ∈ μ.n, H' a = H a
theorem Ext.refl {μ : Mu} {H : Hp} : Ext μ H μ H := ⟨fun _ _ h k => ⟨h, k⟩, fun _ _ h => .inl h, rfl, fun _ _ => rfl⟩
theorem Ext.trans {μ μ1 μ2 : Mu} {H H1 H2 : Hp} (x : Ext μ H μ1 H1) (y : Ext μ1 H1 μ2 H2) : Ext μ H μ2 H2 := by
  refine ⟨fun a o h k => ?_, fun i z h => ?_, y.2.2.1.trans x.2.2.1, fun a ha => ?_⟩
  · obtain ⟨h1, k1⟩ := x.1 a o h k
    exact y.1 a o h1 k1
  · rcases x.2.1 i z h with h1 | h1
    · exact y.2.1 i z h1
    · rcases y.2.1 i none h1 with h2 | h2 <;> exact .inr h2
  · rw [y.2.2.2 a (by rw [x.2.2.1]; exact ha), x.2.2.2 a ha]
/-- the part of it that values lean on -/
def Ext2 (μ : Mu) (H : Hp) (μ' : Mu) (H' : Hp) : Prop :=
  (∀ a o, H a = some o → ¬ μ.has a → H' a = some o ∧ ¬ μ'.has a) ∧ (∀ (i : Nat) x, μ.c[i]? = some x → μ'.c[i]? = some x ∨ μ'.c[i]? = some none)
theorem Ext.two {μ μ' : Mu} {H H' : Hp} (x : Ext μ H μ' H') : Ext2 μ H μ' H' := ⟨x.1, x.2.1⟩
theorem Ext2.trans {μ μ1 μ2 : Mu} {H H1 H2 : Hp} (x : Ext2 μ H μ1 H1) (y : Ext2 μ1 H1 μ2 H2) : Ext2 μ H μ2 H2 := by
  refine ⟨fun a o h k => ?_, fun i z h => ?_⟩
  · obtain ⟨h1, k1⟩ := x.1 a o h k
    exact y.1 a o h1 k1
  · rcases x.2 i z h with h1 | h1
    · exact y.2 i z h1
    · rcases y.2 i none h1 with h2 | h2 <;> exact .inr h2
theorem Ext2.rd {μ μ' : Mu} {H H' : Hp} (x : Ext2 μ H μ' H') {a : Addr} {u : HO} (h : Rd H a u) (k : ¬ μ.has a) : Rd H' a u ∧ ¬ μ'.has a := by
  rcases h with h | ⟨o, h⟩
  · exact ⟨.inl (x.1 a _ h k).1, (x.1 a _ h k).2⟩
  · exact ⟨.inr ⟨o, (x.1 a _ h k).1⟩, (x.1 a _ h k).2⟩
theorem LAt.ext2 {C : SC} {μ μ' : Mu} {H H' : Hp} {a : Addr} {vs : List V} (x : Ext2 μ H μ' H') (h : LAt C μ H a vs) : LAt C μ' H' a vs := by
  rcases h with h | h
  · exact .inl (x.rd h.1 h.2)
  · exact .inr h
theorem TAt.ext2 {C : SC} {μ μ' : Mu} {H H' : Hp} {a : Addr} {vs : List V} (x : Ext2 μ H μ' H') (h : TAt C μ H a vs) : TAt C μ' H' a vs := by
  rcases h with h | h
  · exact .inl (x.rd h.1 h.2)
  · exact .inr h
mutual
theorem SimV.ext2 {C : SC} {μ μ' : Mu} {H H' : Hp} (e : Ext2 μ H μ' H') : ∀ {x : MV} {v : V}, SimV C μ H x v → SimV C μ' H' x v
  | .non, v, h => by simpa [SimV] using h
  | .bl b, v, h => by simpa [SimV] using h
  | .int i, v, h => by simpa [SimV] using h
  | .str s, v, h => by simpa [SimV] using h
  | .tup xs, v, h => by
    simp only [SimV] at h ⊢
    obtain ⟨a, vs, h1, h2, h3⟩ := h
    exact ⟨a, vs, h1, h2.ext2 e, SimVs.ext2 e h3⟩
  | .lst xs, v, h => by
    simp only [SimV] at h ⊢
    obtain ⟨a, vs, h1, h2, h3⟩ := h
    exact ⟨a, vs, h1, e.1 _ _ h2.1 h2.2, SimVs.ext2 e h3⟩
  | .fro xs, v, h => by
    simp only [SimV] at h ⊢
    obtain ⟨a, vs, h1, h2, h3⟩ := h
    exact ⟨a, vs, h1, h2.ext2 e, SimVs.ext2 e h3⟩
  | .obj c ns xs, v, h => by
    simp only [SimV] at h ⊢
    obtain ⟨a, Ca, dx, fs, h1, h2, h3, h4, h5, h6⟩ := h
    exact ⟨a, Ca, dx, fs, h1, h2, (e.1 _ _ h3 h4).1, (e.1 _ _ h3 h4).2, h5, SimVs.ext2 e h6⟩
  | .dct ks xs, v, h => by
    simp only [SimV] at h ⊢
    obtain ⟨a, kvs, h1, h3, h4, h5, h6⟩ := h
    exact ⟨a, kvs, h1, (e.1 _ _ h3 h4).1, (e.1 _ _ h3 h4).2, h5, SimVs.ext2 e h6⟩
  | .ref i, v, h => by
    simp only [SimV] at h ⊢
    obtain ⟨a, h1, h2⟩ := h
    refine ⟨a, h1, ?_⟩
    rcases h2 with h2 | h2
    · exact e.2 _ _ h2
    · rcases e.2 _ _ h2 with h3 | h3 <;> exact .inr h3
theorem SimVs.ext2 {C : SC} {μ μ' : Mu} {H H' : Hp} (e : Ext2 μ H μ' H') : ∀ {xs : List MV} {vs : List V}, SimVs C μ H xs vs → SimVs C μ' H' xs vs
  | [], vs, h => by simpa [SimVs] using h
  | x :: xs, vs, h => by
    simp only [SimVs] at h ⊢
    obtain ⟨v, r, h1, h2, h3⟩ := h
    exact ⟨v, r, h1, SimV.ext2 e h2, SimVs.ext2 e h3⟩
end

section
variable {C : SC} {μ μ' : Mu} {H H' : Hp} (e : Ext μ H μ' H')
include e
theorem LAt.ext {a : Addr} {vs : List V} (h : LAt C μ H a vs) : LAt C μ' H' a vs := h.ext2 e.two
theorem TAt.ext {a : Addr} {vs : List V} (h : TAt C μ H a vs) : TAt C μ' H' a vs := h.ext2 e.two
theorem SimV.ext {x : MV} {v : V} (h : SimV C μ H x v) : SimV C μ' H' x v := h.ext2 e.two
theorem SimVs.ext {x : List MV} {v : List V} (h : SimVs C μ H x v) : SimVs C μ' H' x v := h.ext2 e.two
end

section
variable {C : SC} {μ : Mu} {H : Hp}
theorem SimVs.nil : SimVs C μ H [] [] := by simp [SimVs]
theorem SimVs.cons {x : MV} {v : V} {xs : List MV} {vs : List V} (h : SimV C μ H x v) (k : SimVs C μ H xs vs) : SimVs C μ H (x :: xs) (v :: vs) := by
  simp only [SimVs]; exact ⟨v, vs, rfl, h, k⟩
theorem SimVs.nil_inv {vs : List V} (h : SimVs C μ H [] vs) : vs = [] := by simpa [SimVs] using h
theorem SimVs.cons_inv {x : MV} {xs : List MV} {vs : List V} (h : SimVs C μ H (x :: xs) vs) : ∃ v r, vs = v :: r ∧ SimV C μ H x v ∧ SimVs C μ H xs r := by simpa only [SimVs] using h
theorem SimVs.length : ∀ {xs : List MV} {vs : List V}, SimVs C μ H xs vs → vs.length = xs.length
  | [], _, h => by rw [h.nil_inv]; rfl
  | _ :: _, _, h => by
    obtain ⟨v, r, rfl, _, h3⟩ := h.cons_inv
    simp [SimVs.length h3]
theorem SimVs.get : ∀ {xs : List MV} {vs : List V} {i : Nat} {x : MV}, SimVs C μ H xs vs → xs[i]? = some x → ∃ v, vs[i]? = some v ∧ SimV C μ H x v
  | [], _, _, _, _, e => by simp at e
  | _ :: _, _, 0, _, h, e => by
    obtain ⟨v, r, rfl, h2, h3⟩ := h.cons_inv
    simp at e; subst e; exact ⟨v, rfl, h2⟩
  | _ :: _, _, i + 1, x, h, e => by
    obtain ⟨v, r, rfl, h2, h3⟩ := h.cons_inv
    obtain ⟨u, h4, h5⟩ := SimVs.get (i := i) (x := x) h3 (by simpa using e)
    exact ⟨u, by simpa using h4, h5⟩
theorem SimVs.get_inv : ∀ {xs : List MV} {vs : List V} {i : Nat} {v : V}, SimVs C μ H xs vs → vs[i]? = some v → ∃ x, xs[i]? = some x ∧ SimV C μ H x v := fun {xs vs i v} h e => by
  have hl := h.length
  have : i < vs.length := (List.getElem?_eq_some_iff.mp e).1
  obtain ⟨w, h1, h2⟩ := h.get (i := i) (x := xs[i]'(by omega)) (by simp)
  rw [e] at h1; cases h1
  exact ⟨_, by simp, h2⟩
theorem SimVs.append : ∀ {xs ys : List MV} {vs ws : List V}, SimVs C μ H xs vs → SimVs C μ H ys ws → SimVs C μ H (xs ++ ys) (vs ++ ws)
  | [], _, _, _, h, k => by rw [h.nil_inv]; exact k
  | _ :: _, _, _, _, h, k => by
    obtain ⟨v, r, rfl, h2, h3⟩ := h.cons_inv
    exact .cons h2 (SimVs.append h3 k)
theorem SimVs.take : ∀ (n : Nat) {xs : List MV} {vs : List V}, SimVs C μ H xs vs → SimVs C μ H (xs.take n) (vs.take n)
  | 0, _, _, _ => by simp only [List.take_zero]; exact .nil
  | n + 1, [], _, h => by rw [h.nil_inv]; simp only [List.take_nil]; exact .nil
  | n + 1, _ :: _, _, h => by
    obtain ⟨v, r, rfl, h2, h3⟩ := h.cons_inv
    simp only [List.take_succ_cons]; exact .cons h2 (SimVs.take n h3)
theorem SimVs.drop : ∀ (n : Nat) {xs : List MV} {vs : List V}, SimVs C μ H xs vs → SimVs C μ H (xs.drop n) (vs.drop n)
  | 0, _, _, h => by simpa using h
  | n + 1, [], _, h => by rw [h.nil_inv]; simp only [List.drop_nil]; exact .nil
  | n + 1, _ :: _, _, h => by
    obtain ⟨v, r, rfl, h2, h3⟩ := h.cons_inv
    simp only [List.drop_succ_cons]; exact SimVs.drop n h3
theorem SimVs.set {x : MV} {v : V} (hx : SimV C μ H x v) : ∀ (n : Nat) {xs : List MV} {vs : List V}, SimVs C μ H xs vs → SimVs C μ H (xs.set n x) (vs.set n v)
  | _, [], _, h => by rw [h.nil_inv]; simp only [List.set_nil]; exact .nil
  | 0, _ :: _, _, h => by
    obtain ⟨v, r, rfl, h2, h3⟩ := h.cons_inv
    exact .cons hx h3
  | n + 1, _ :: _, _, h => by
    obtain ⟨v, r, rfl, h2, h3⟩ := h.cons_inv
    exact .cons h2 (SimVs.set hx n h3)
theorem SimVs.reverse : ∀ {xs : List MV} {vs : List V}, SimVs C μ H xs vs → SimVs C μ H xs.reverse vs.reverse
  | [], _, h => by rw [h.nil_inv]; exact .nil
  | _ :: _, _, h => by
    obtain ⟨v, r, rfl, h2, h3⟩ := h.cons_inv
    simp only [List.reverse_cons]; exact (SimVs.reverse h3).append (.cons h2 .nil)
theorem SimVs.dropLast {xs : List MV} {vs : List V} (h : SimVs C μ H xs vs) : SimVs C μ H xs.dropLast vs.dropLast := by
  rw [List.dropLast_eq_take, List.dropLast_eq_take, h.length]; exact h.take _
theorem SimVs.app_inv : ∀ {xs ys : List MV} {vs : List V}, SimVs C μ H (xs ++ ys) vs → ∃ a b, vs = a ++ b ∧ SimVs C μ H xs a ∧ SimVs C μ H ys b
  | [], _, vs, h => ⟨[], vs, rfl, .nil, h⟩
  | x :: xs, ys, vs, h => by
    obtain ⟨v, r, rfl, h2, h3⟩ := h.cons_inv
    obtain ⟨a, b, rfl, h4, h5⟩ := SimVs.app_inv h3
    exact ⟨v :: a, b, rfl, .cons h2 h4, h5⟩
end

/-! ### the relation of heaps -/
def CellOk (C : SC) (μ : Mu) (H : Hp) : MO → Option Addr → Prop
  | .gone, o => o = none
  | .lst xs, o => ∃ a vs, o = some a ∧ H a = some (.lst vs) ∧ SimVs C μ H xs vs
  | .dct ks xs, o => ∃ a kvs, o = some a ∧ H a = some (.dK kvs) ∧ kvs.map (·.1) = ks ∧ SimVs C μ H xs (kvs.map (·.2))
  | .ins c ns xs, o => ∃ a Ca dx fs, o = some a ∧ C.cl[c]? = some Ca ∧ H a = some (.ins Ca dx fs) ∧ fs.map (·.1) = ns ∧ SimVs C μ H xs (fs.map (·.2))
structure SimH (C : SC) (μ : Mu) (H : Hp) (h : MH) : Prop where
  len : μ.c.length = h.length
  nn : ∀ a ∈ μ.n, H a ≠ none
  dis : ∀ (i : Nat) a, μ.c[i]? = some (some a) → a ∉ μ.n
  inj : ∀ (i j : Nat) a, μ.c[i]? = some (some a) → μ.c[j]? = some (some a) → i = j
  cell : ∀ (i : Nat) o x, h[i]? = some o → μ.c[i]? = some x → CellOk C μ H o x
structure SimS (C : SC) (pi : Pin) (μ : Mu) (ρ : En) (h : MH) (σ : L2.St) (H : Hp) : Prop where
  len : ρ.length = σ.length
  env : ∀ (i : Nat) m, ρ[i]? = some (some m) → ∃ v, σ[i]? = some (some v) ∧ SimV C μ H m v
  heap : SimH C μ H h
  pin : ∀ i v, pi = some (i, v) → σ[i]? = some (some v)
theorem SimS.go {C : SC} {pi : Pin} {μ μ' : Mu} {ρ : En} {h h' : MH} {σ : L2.St} {H H' : Hp} (S : SimS C pi μ ρ h σ H) (e : Ext μ H μ' H') (hh : SimH C μ' H' h') : SimS C pi μ' ρ h' σ H' :=
  ⟨S.len, fun i m q => let ⟨v, h1, h2⟩ := S.env i m q; ⟨v, h1, h2.ext e⟩, hh, S.pin⟩
theorem SimS.set {C : SC} {pi : Pin} {μ : Mu} {ρ : En} {h : MH} {σ : L2.St} {H : Hp} (S : SimS C pi μ ρ h σ H) {i : Nat} {m : MV} {v : V} (hp : ∀ v, pi ≠ some (i, v)) (hv : SimV C μ H m v) : SimS C pi μ (ρ.set i (some m)) h (σ.set i (some v)) H := by
  refine ⟨by simp [S.len], fun j x q => ?_, S.heap, fun j w q => ?_⟩
  · by_cases hj : i = j
    · subst hj
      rw [List.getElem?_set] at q
      simp only [if_true] at q
      split at q
      · rename_i hlt
        cases q
        exact ⟨v, by rw [List.getElem?_set]; simp [← S.len, hlt], hv⟩
      · cases q
    · rw [List.getElem?_set_ne hj] at q
      obtain ⟨u, h1, h2⟩ := S.env j x q
      exact ⟨u, by rw [List.getElem?_set_ne hj]; exact h1, h2⟩
  · have hj : i ≠ j := fun e => by subst e; exact hp _ q
    rw [List.getElem?_set_ne hj]; exact S.pin j w q

/-! ### the readings of the small semantics -/
section
variable (C : SC) (W : WX) (pi : Pin)
def OPost {α β : Type} (R : Mu → Hp → α → β → Prop) (μ : Mu) (H : Hp) (σ : L2.St) (Q : β → Hp → Prop) : Out α → Prop
  | .ok a h' => ∀ μ' H' b, Ext μ H μ' H' → SimH C μ' H' h' → R μ' H' a b → Q b H'
  | .er c h' => ∀ μ' H' Ca, Ext μ H μ' H' → SimH C μ' H' h' → C.cl[c]? = some Ca → W (.ref Ca) none σ H'
  | .bad => False
abbrev ME := En → MH → Out MV
abbrev MT := En → MH → Out Bool
abbrev MA := En → MH → Out (List MV)
def rdG {α β : Type} (R : Mu → Hp → α → β → Prop) (m : En → MH → Out α) (σ : L2.St) (H : Hp) (Q : β → Hp → Prop) : Prop :=
  ∃ μ ρ h, SimS C pi μ ρ h σ H ∧ OPost C W R μ H σ Q (m ρ h)
def rdE (m : ME) : TE := rdG C W pi (SimV C) m
def rdT (m : MT) : TT := rdG C W pi (fun _ _ (a b : Bool) => a = b) m
def rdA (m : MA) : TA := rdG C W pi (SimVs C) m
end
theorem OPost.from {C : SC} {W : WX} {α β : Type} {R : Mu → Hp → α → β → Prop} {μ μ1 : Mu} {H H1 : Hp} {σ : L2.St} {Q : β → Hp → Prop} {o : Out α} (e : Ext μ H μ1 H1) (h : OPost C W R μ H σ Q o) : OPost C W R μ1 H1 σ Q o := by
  cases o with
  | ok a h' => exact fun μ' H' b e' hh r => h μ' H' b (e.trans e') hh r
  | er c h' => exact fun μ' H' Ca e' hh r => h μ' H' Ca (e.trans e') hh r
  | bad => exact h
/-- first m, then f on what it gives -/
theorem rd_bind {C : SC} {W : WX} {pi : Pin} {α β γ δ : Type} {R : Mu → Hp → α → β → Prop} {R' : Mu → Hp → γ → δ → Prop} {m : En → MH → Out α} {f : α → MH → Out γ} {σ : L2.St} {H : Hp} {Q : δ → Hp → Prop} {k : β → Hp → Prop}
    {μ : Mu} {ρ : En} {h : MH} (S : SimS C pi μ ρ h σ H) (P : OPost C W R' μ H σ Q ((m ρ h).bind f))
    (hk : ∀ μ1 h1 H1 x X, Ext μ H μ1 H1 → SimS C pi μ1 ρ h1 σ H1 → R μ1 H1 x X → OPost C W R' μ1 H1 σ Q (f x h1) → k X H1) : rdG C W pi R m σ H k := by
  refine ⟨μ, ρ, h, S, ?_⟩
  cases e : m ρ h with
  | ok x h1 =>
    simp only [e, Out.bind] at P
    intro μ1 H1 X e1 hh r
    exact hk μ1 h1 H1 x X e1 (S.go e1 hh) r (P.from e1)
  | er c h1 =>
    simp only [e, Out.bind] at P
    exact P
  | bad =>
    simp only [e, Out.bind] at P
    exact P
/-- an operation by values -/
def Op1 {α β : Type} (C : SC) (R : Mu → Hp → α → β → Prop) (f : α → MH → Out MV) (r : β → Hp → VK → Prop) : Prop :=
  ∀ μ H h x X Q, SimH C μ H h → R μ H x X → OPost C (fun _ _ _ _ => False) (SimV C) μ H [] Q (f x h) → r X H Q
def Op2 (C : SC) (f : MV → MV → MH → Out MV) (r : R2) : Prop :=
  ∀ μ H h x X y Y Q, SimH C μ H h → SimV C μ H x X → SimV C μ H y Y → OPost C (fun _ _ _ _ => False) (SimV C) μ H [] Q (f x y h) → r X Y H Q
/-- no raise of the operation itself: an er of f is a bad one -/
def Out.hard {α : Type} : Out α → Out α
  | .er _ _ => .bad
  | o => o
theorem OPost.hard {C : SC} {W : WX} {α β : Type} {R : Mu → Hp → α → β → Prop} {μ : Mu} {H : Hp} {σ : L2.St} {Q : β → Hp → Prop} {o : Out α} (h : OPost C W R μ H σ Q o.hard) : OPost C (fun _ _ _ _ => False) R μ H [] Q o := by
  cases o with
  | ok a h' => exact h
  | er c h' => exact h.elim
  | bad => exact h
section
variable {C : SC} {W : WX} {pi : Pin} {X : Cx}
def mOp (f : MV → MV → MH → Out MV) (a b : ME) : ME := fun ρ h => (a ρ h).bind fun x h1 => (b ρ h1).bind fun y h2 => (f x y h2).hard
def mUn (f : MV → MH → Out MV) (a : ME) : ME := fun ρ h => (a ρ h).bind fun x h1 => (f x h1).hard
theorem rd_op {f : MV → MV → MH → Out MV} {r : R2} {a b : ME} (hf : Op2 C f r) {σ : L2.St} {H : Hp} {Q : VK} (h : rdE C W pi (mOp f a b) σ H Q) : tOp r (rdE C W pi a) (rdE C W pi b) σ H Q := by
  obtain ⟨μ, ρ, h0, S, P⟩ := h
  refine rd_bind S P fun μ1 h1 H1 x Xv e1 S1 r1 P1 => ?_
  refine rd_bind S1 P1 fun μ2 h2 H2 y Yv e2 S2 r2 P2 => ?_
  exact hf μ2 H2 h2 x Xv y Yv Q S2.heap (r1.ext e2) r2 P2.hard
theorem rd_un {f : MV → MH → Out MV} {r : V → Hp → VK → Prop} {a : ME} (hf : Op1 C (SimV C) f r) {σ : L2.St} {H : Hp} {Q : VK} (h : rdE C W pi (mUn f a) σ H Q) : tUn r (rdE C W pi a) σ H Q := by
  obtain ⟨μ, ρ, h0, S, P⟩ := h
  refine rd_bind S P fun μ1 h1 H1 x Xv e1 S1 r1 P1 => ?_
  exact hf μ1 H1 h1 x Xv Q S1.heap r1 P1.hard
theorem PE.imp {e : Expr} {t t' : TE} (h : PE X e t) (k : ∀ σ H Q, t' σ H Q → t σ H Q) : PE X e t' := ⟨fun pins s σ H Q I q => h.run pins s σ H Q I (k σ H Q q)⟩
theorem PT.imp {e : Expr} {t t' : TT} (h : PT X e t) (k : ∀ σ H Q, t' σ H Q → t σ H Q) : PT X e t' := ⟨fun pins s σ H Q I q => h.run pins s σ H Q I (k σ H Q q)⟩
theorem PW.imp {e : Expr} {t t' : TT} (h : PW X e t) (k : ∀ σ H Q, t' σ H Q → t σ H Q) : PW X e t' := ⟨fun w pins s σ H Q I q => h.run w pins s σ H Q I (k σ H Q q)⟩
theorem PA.imp {e : List Expr} {t t' : TA} (h : PA X e t) (k : ∀ σ H Q, t' σ H Q → t σ H Q) : PA X e t' := ⟨fun pos pins s σ H Q I q => h.run pos pins s σ H Q I (k σ H Q q)⟩
theorem PS.imp {e : Stmt} {t t' : TS} (h : PS X e t) (k : ∀ D σ H, t' D σ H → t D σ H) : PS X e t' := ⟨fun pins s σ H D I q => h.run pins s σ H D I (k D σ H q)⟩
theorem PSs.imp {e : List Stmt} {t t' : TS} (h : PSs X e t) (k : ∀ D σ H, t' D σ H → t D σ H) : PSs X e t' := ⟨fun pins s σ H D I q => h.run pins s σ H D I (k D σ H q)⟩
end
end Mini
end

section
set_option Elab.async false
set_option linter.all false
set_option maxRecDepth 100000
set_option maxHeartbeats 2000000
/-! Mini: operations by values. -/
namespace Mini
open PySem L2

/-- comparisons of data go through PyData -/
def mapO (f : MV → Option PyData) : List MV → Option (List PyData)
  | [] => some []
  | x :: xs => match f x, mapO f xs with
    | some d, some ds => some (d :: ds)
    | _, _ => none
def dat : Nat → MH → MV → Option PyData
  | 0, _, _ => none
  | n + 1, h, v => match v with
    | .non => some .none
    | .bl b => some (.bool b)
    | .int i => some (.int i)
    | .str s => if PyData.strOk s = true then some (.str s) else none
    | .tup xs => (mapO (dat n h) xs).map .tuple
    | .lst xs => (mapO (dat n h) xs).map .list
    | .fro xs => (mapO (dat n h) xs).map .list
    | .ref i => match h[i]? with
      | some (.lst xs) => (mapO (dat n h) xs).map .list
      | _ => none
    | _ => none
def listOf (h : MH) : MV → Option (List MV)
  | .lst xs => some xs
  | .fro xs => some xs
  | .ref i => match h[i]? with
    | some (.lst xs) => some xs
    | _ => none
  | _ => none
def seqOf (h : MH) : MV → Option (List MV)
  | .tup xs => some xs
  | x => listOf h x

section
variable {C : SC} {μ : Mu} {H : Hp} {h : MH}
theorem SimH.at (S : SimH C μ H h) {i : Nat} {o : MO} (e : h[i]? = some o) : ∃ x, μ.c[i]? = some x ∧ CellOk C μ H o x := by
  have hl : i < μ.c.length := by rw [S.len]; exact (List.getElem?_eq_some_iff.mp e).1
  exact ⟨μ.c[i], by simp [hl], S.cell i o _ e (by simp [hl])⟩
theorem SimH.lst (S : SimH C μ H h) {i : Nat} {xs : List MV} {v : V} (e : h[i]? = some (.lst xs)) (r : SimV C μ H (.ref i) v) : ∃ a vs, v = .ref a ∧ μ.c[i]? = some (some a) ∧ H a = some (.lst vs) ∧ SimVs C μ H xs vs := by
  obtain ⟨x, hx, c⟩ := S.at e
  simp only [CellOk] at c
  obtain ⟨a, vs, rfl, ha, r2⟩ := c
  simp only [SimV] at r
  obtain ⟨a', rfl, h1 | h1⟩ := r
  · rw [hx] at h1; cases h1
    exact ⟨a, vs, rfl, hx, ha, r2⟩
  · rw [hx] at h1; cases h1
theorem listOf_sim (S : SimH C μ H h) {x : MV} {X : V} {xs : List MV} (r : SimV C μ H x X) (e : listOf h x = some xs) : ∃ a vs, X = .ref a ∧ SqL C.K H a vs ∧ SimVs C μ H xs vs := by
  cases x with
  | lst ys =>
    simp only [listOf, Option.some.injEq] at e; subst e
    simp only [SimV] at r
    obtain ⟨a, vs, rfl, h1, h2⟩ := r
    exact ⟨a, vs, rfl, .inl (.inl h1.1), h2⟩
  | fro ys =>
    simp only [listOf, Option.some.injEq] at e; subst e
    simp only [SimV] at r
    obtain ⟨a, vs, rfl, h1, h2⟩ := r
    exact ⟨a, vs, rfl, h1.sql, h2⟩
  | ref i =>
    simp only [listOf] at e
    split at e
    · rename_i ys hi
      cases e
      obtain ⟨a, vs, rfl, _, ha, r2⟩ := S.lst hi r
      exact ⟨a, vs, rfl, .inl (.inl ha), r2⟩
    · cases e
  | _ => simp [listOf] at e
theorem seqOf_sim (S : SimH C μ H h) {x : MV} {X : V} {xs : List MV} (r : SimV C μ H x X) (e : seqOf h x = some xs) : ∃ a vs, X = .ref a ∧ (SqL C.K H a vs ∨ SqT C.K H a vs) ∧ SimVs C μ H xs vs := by
  by_cases ht : ∃ ys, x = .tup ys
  · obtain ⟨ys, rfl⟩ := ht
    simp only [seqOf, Option.some.injEq] at e; subst e
    simp only [SimV] at r
    obtain ⟨a, vs, rfl, h1, h2⟩ := r
    exact ⟨a, vs, rfl, .inr h1.sqt, h2⟩
  · have e' : listOf h x = some xs := by
      cases x <;> first | exact e | exact absurd ⟨_, rfl⟩ ht
    obtain ⟨a, vs, h1, h2, h3⟩ := listOf_sim S r e'
    exact ⟨a, vs, h1, .inl h2, h3⟩
end

theorem dpAll_of {C : SC} {μ : Mu} {H : Hp} {f : MV → Option PyData} {n : Nat} (hf : ∀ x X d, SimV C μ H x X → f x = some d → Dp C.K H X d ∧ d.canLay0 = true ∧ d.depth ≤ n) :
    ∀ {xs : List MV} {vs : List V} {ds : List PyData}, SimVs C μ H xs vs → mapO f xs = some ds → DpAll C.K H vs ds ∧ PyData.canLayAll0 ds = true ∧ PyData.depthAll ds ≤ n
  | [], vs, ds, r, e => by
    rw [r.nil_inv]; simp only [mapO, Option.some.injEq] at e; subst e
    exact ⟨.nil, by simp [PyData.canLayAll0], by simp [PyData.depthAll]⟩
  | x :: xs, vs, ds, r, e => by
    obtain ⟨v, r', rfl, h2, h3⟩ := r.cons_inv
    simp only [mapO] at e
    split at e
    · rename_i d ds' e1 e2
      cases e
      obtain ⟨a1, a2, a3⟩ := hf _ _ _ h2 e1
      obtain ⟨b1, b2, b3⟩ := dpAll_of hf h3 e2
      exact ⟨.cons a1 b1, by simp [PyData.canLayAll0, a2, b2], by simp [PyData.depthAll]; omega⟩
    · cases e
theorem dat_sim {C : SC} {μ : Mu} {H : Hp} {h : MH} (S : SimH C μ H h) : ∀ (n : Nat) (x : MV) (X : V) (d : PyData), SimV C μ H x X → dat n h x = some d → Dp C.K H X d ∧ d.canLay0 = true ∧ d.depth ≤ n
  | 0, x, X, d, r, e => by simp [dat] at e
  | n + 1, x, X, d, r, e => by
    have key : ∀ (xs : List MV) (vs : List V) (ds : List PyData), SimVs C μ H xs vs → mapO (dat n h) xs = some ds → DpAll C.K H vs ds ∧ PyData.canLayAll0 ds = true ∧ PyData.depthAll ds ≤ n := fun xs vs ds r e =>
      dpAll_of (fun x X d r e => dat_sim S n x X d r e) r e
    have lst : ∀ (xs : List MV) (a : Addr) (vs : List V), SqL C.K H a vs → SimVs C μ H xs vs → (mapO (dat n h) xs).map PyData.list = some d → Dp C.K H (.ref a) d ∧ d.canLay0 = true ∧ d.depth ≤ n + 1 := fun xs a vs h2 h3 e => by
      cases q : mapO (dat n h) xs with
      | none => rw [q] at e; cases e
      | some ds =>
        rw [q] at e; cases e
        obtain ⟨k1, k2, k3⟩ := key _ _ _ h3 q
        exact ⟨.lst h2 k1, by simpa [PyData.canLay0] using k2, by simp [PyData.depth]; omega⟩
    cases x with
    | non => simp only [dat, Option.some.injEq] at e; subst e; simp only [SimV] at r; subst r; exact ⟨.non, by simp [PyData.canLay0], by simp [PyData.depth]⟩
    | bl b => simp only [dat, Option.some.injEq] at e; subst e; simp only [SimV] at r; subst r; exact ⟨.bl _, by simp [PyData.canLay0], by simp [PyData.depth]⟩
    | int b => simp only [dat, Option.some.injEq] at e; subst e; simp only [SimV] at r; subst r; exact ⟨.int _, by simp [PyData.canLay0], by simp [PyData.depth]⟩
    | str b =>
      simp only [dat] at e
      split at e
      · rename_i hb
        cases e; simp only [SimV] at r; subst r; exact ⟨.str _, by simpa [PyData.canLay0] using hb, by simp [PyData.depth]⟩
      · cases e
    | tup xs =>
      simp only [dat] at e
      simp only [SimV] at r
      obtain ⟨a, vs, rfl, h2, h3⟩ := r
      cases q : mapO (dat n h) xs with
      | none => rw [q] at e; cases e
      | some ds =>
        rw [q] at e; cases e
        obtain ⟨k1, k2, k3⟩ := key _ _ _ h3 q
        exact ⟨.tup h2.sqt k1, by simpa [PyData.canLay0] using k2, by simp [PyData.depth]; omega⟩
    | lst xs =>
      simp only [dat] at e
      simp only [SimV] at r
      obtain ⟨a, vs, rfl, h2, h3⟩ := r
      exact lst xs a vs (.inl (.inl h2.1)) h3 e
    | fro xs =>
      simp only [dat] at e
      simp only [SimV] at r
      obtain ⟨a, vs, rfl, h2, h3⟩ := r
      exact lst xs a vs h2.sql h3 e
    | ref i =>
      simp only [dat] at e
      split at e
      · rename_i ys hi
        obtain ⟨a, vs, rfl, _, ha, r2⟩ := S.lst hi r
        exact lst ys a vs (.inl (.inl ha)) r2 e
      · cases e
    | obj c ns xs => simp [dat] at e
    | dct ks xs => simp [dat] at e
theorem dat_shaped {C : SC} {μ : Mu} {H : Hp} {h : MH} (S : SimH C μ H h) {x : MV} {X : V} {d : PyData} (r : SimV C μ H x X) (e : dat 64 h x = some d) : Dp C.K H X d ∧ SeqAt.shaped d = true := by
  obtain ⟨a, b, c⟩ := dat_sim S 64 x X d r e
  exact ⟨a, by unfold SeqAt.shaped; rw [b, decide_eq_true c]; rfl⟩

/-! ### going on from a state: nothing changes, a new object comes, a cell is written -/
section
variable {C : SC} {μ : Mu} {H : Hp} {h : MH}
theorem ne_has {a b : Addr} (hm : ¬ μ.has a) (hb : μ.has b) : b ≠ a := fun e => hm (e ▸ hb)
theorem SimH.fresh (S : SimH C μ H h) {p : Addr} (hp : H p = none) : ¬ μ.has p := fun hm => by
  rcases hm with hm | hm
  · obtain ⟨i, hi⟩ := List.mem_iff_getElem?.mp hm
    have hl : i < h.length := by rw [← S.len]; exact (List.getElem?_eq_some_iff.mp hi).1
    have c := S.cell i h[i] _ (by simp [hl]) hi
    cases e : h[i] with
    | gone => rw [e] at c; cases c
    | lst xs => rw [e] at c; obtain ⟨a, vs, e1, e2, _⟩ := c; cases e1; rw [hp] at e2; cases e2
    | dct ks xs => rw [e] at c; obtain ⟨a, vs, e1, e2, _⟩ := c; cases e1; rw [hp] at e2; cases e2
    | ins c' ns xs => rw [e] at c; obtain ⟨a, Ca, dx, fs, e1, _, e2, _⟩ := c; cases e1; rw [hp] at e2; cases e2
  · exact S.nn p hm hp
theorem Mu.has_ix {i : Nat} {a : Addr} (h : μ.c[i]? = some (some a)) : μ.has a := .inl (List.mem_iff_getElem?.mpr ⟨i, h⟩)
theorem CellOk.ext {μ' : Mu} {H' : Hp} (e : Ext μ H μ' H') {o : MO} {x : Option Addr} (ha : ∀ a, x = some a → H' a = H a) (c : CellOk C μ H o x) : CellOk C μ' H' o x := by
  cases o with
  | gone => exact c
  | lst xs => obtain ⟨a, vs, e1, e2, e3⟩ := c; exact ⟨a, vs, e1, by rw [ha a e1]; exact e2, e3.ext e⟩
  | dct ks xs => obtain ⟨a, vs, e1, e2, e3, e4⟩ := c; exact ⟨a, vs, e1, by rw [ha a e1]; exact e2, e3, e4.ext e⟩
  | ins c' ns xs => obtain ⟨a, Ca, dx, fs, e1, e0, e2, e3, e4⟩ := c; exact ⟨a, Ca, dx, fs, e1, e0, by rw [ha a e1]; exact e2, e3, e4.ext e⟩
theorem Ext.new (S : SimH C μ H h) {p : Addr} {o : HO} (hp : H p = none) : Ext μ H μ (upd H p o) :=
  ⟨fun a u ha hm => ⟨by rw [upd_ne (ne_of_none ha hp)]; exact ha, hm⟩, fun _ _ e => .inl e, rfl, fun a ha => upd_ne (ne_has (S.fresh hp) (.inr ha))⟩
theorem SimH.new (S : SimH C μ H h) {p : Addr} {o : HO} (hp : H p = none) : SimH C μ (upd H p o) h := by
  refine ⟨S.len, fun a ha => ?_, S.dis, S.inj, fun i ob x e1 e2 => (S.cell i ob x e1 e2).ext (Ext.new S hp) fun a ex => ?_⟩
  · rw [upd_ne (ne_has (S.fresh hp) (.inr ha))]; exact S.nn a ha
  · subst ex; exact upd_ne (ne_has (S.fresh hp) (Mu.has_ix e2))
/-- a new cell -/
theorem Ext.push (S : SimH C μ H h) {p : Addr} {o : HO} (hp : H p = none) : Ext μ H (μ.push p) (upd H p o) := by
  refine ⟨fun a u ha hm => ⟨by rw [upd_ne (ne_of_none ha hp)]; exact ha, ?_⟩, fun i x e => .inl ?_, rfl, fun a ha => upd_ne (ne_has (S.fresh hp) (.inr ha))⟩
  · rintro (q | q)
    · rcases List.mem_append.mp q with q | q
      · exact hm (.inl q)
      · simp at q; subst q
        rw [hp] at ha; cases ha
    · exact hm (.inr q)
  · show (μ.c ++ [some p])[i]? = some x
    rw [List.getElem?_append_left (List.getElem?_eq_some_iff.mp e).1]; exact e
theorem SimH.push (S : SimH C μ H h) {p : Addr} {o : HO} {ob : MO} (hp : H p = none) (hc : CellOk C (μ.push p) (upd H p o) ob (some p)) : SimH C (μ.push p) (upd H p o) (h ++ [ob]) := by
  have nf := S.fresh hp
  have lt : ∀ {i : Nat} {a : Addr}, (μ.c ++ [some p])[i]? = some (some a) → (i < μ.c.length ∧ μ.c[i]? = some (some a)) ∨ (i = μ.c.length ∧ a = p) := fun {i a} e => by
    by_cases hi : i < μ.c.length
    · rw [List.getElem?_append_left hi] at e; exact .inl ⟨hi, e⟩
    · have hl := (List.getElem?_eq_some_iff.mp e).1
      simp at hl
      have : i = μ.c.length := by omega
      subst this
      simp at e
      exact .inr ⟨rfl, e.symm⟩
  refine ⟨by simp [Mu.push, S.len], fun a ha => ?_, fun i a e => ?_, fun i j a e1 e2 => ?_, fun i o2 x e1 e2 => ?_⟩
  · rw [upd_ne (ne_has nf (.inr ha))]; exact S.nn a ha
  · rcases lt e with ⟨a1, b1⟩ | ⟨a1, b1⟩
    · exact S.dis i a b1
    · subst b1; exact fun q => nf (.inr q)
  · rcases lt e1 with ⟨a1, b1⟩ | ⟨a1, b1⟩ <;> rcases lt e2 with ⟨a2, b2⟩ | ⟨a2, b2⟩
    · exact S.inj i j a b1 b2
    · subst b2; exact absurd (Mu.has_ix b1) nf
    · subst b1; exact absurd (Mu.has_ix b2) nf
    · omega
  · have e2 : (μ.c ++ [some p])[i]? = some x := e2
    by_cases hi : i < h.length
    · rw [List.getElem?_append_left hi] at e1
      rw [List.getElem?_append_left (by rw [S.len]; exact hi)] at e2
      refine (S.cell i o2 x e1 e2).ext (Ext.push S hp) fun a ex => ?_
      subst ex; exact upd_ne (ne_has nf (Mu.has_ix e2))
    · have hl := (List.getElem?_eq_some_iff.mp e1).1
      simp at hl
      have : i = h.length := by omega
      subst this
      simp at e1
      rw [← S.len] at e2
      simp at e2
      subst e1 e2
      exact hc
/-- a cell is written -/
theorem Ext.put (S : SimH C μ H h) {i : Nat} {a : Addr} {o : HO} (hi : μ.c[i]? = some (some a)) : Ext μ H μ (upd H a o) :=
  ⟨fun b u hb hm => ⟨by rw [upd_ne (fun e => ne_has hm (Mu.has_ix hi) e.symm)]; exact hb, hm⟩, fun _ _ e => .inl e, rfl, fun b hb => upd_ne fun e => S.dis i a hi (by rw [← e]; exact hb)⟩
theorem SimH.put (S : SimH C μ H h) {i : Nat} {a : Addr} {o : HO} {ob : MO} (hi : μ.c[i]? = some (some a)) (hc : CellOk C μ (upd H a o) ob (some a)) : SimH C μ (upd H a o) (h.set i ob) := by
  refine ⟨by simp [S.len], fun b hb => ?_, S.dis, S.inj, fun j o2 x e1 e2 => ?_⟩
  · rw [upd_ne (fun e => S.dis i a hi (by rw [← e]; exact hb))]; exact S.nn b hb
  by_cases hj : i = j
  · subst hj
    rw [hi] at e2; cases e2
    rw [List.getElem?_set] at e1
    simp only [if_true] at e1
    split at e1
    · cases e1; exact hc
    · cases e1
  · rw [List.getElem?_set_ne hj] at e1
    refine (S.cell j o2 x e1 e2).ext (Ext.put S hi) fun b eb => ?_
    subst eb
    exact upd_ne fun e => hj (S.inj _ _ _ hi (by rw [← e]; exact e2))
theorem SimV.tupNew (S : SimH C μ H h) {xs : List MV} {vs : List V} (r : SimVs C μ H xs vs) {p : Addr} (hp : H p = none) : SimV C μ (upd H p (.tup vs)) (.tup xs) (.ref p) := by
  simp only [SimV]
  exact ⟨p, vs, rfl, .inl ⟨.inl upd_same, S.fresh hp⟩, r.ext (Ext.new S hp)⟩
theorem SimV.lstNew (S : SimH C μ H h) {xs : List MV} {vs : List V} (r : SimVs C μ H xs vs) {p : Addr} (hp : H p = none) : SimV C μ (upd H p (.lst vs)) (.lst xs) (.ref p) := by
  simp only [SimV]
  exact ⟨p, vs, rfl, ⟨upd_same, S.fresh hp⟩, r.ext (Ext.new S hp)⟩
end

/-! ### a result that is told: nothing new, a new tuple, a new list (a value), a new cell -/
section
variable {C : SC} {W : WX} {μ : Mu} {H : Hp} {h : MH} {σ : L2.St} {Q : VK}
theorem fin_same {z : MV} {Z : V} (S : SimH C μ H h) (P : OPost C W (SimV C) μ H σ Q (.ok z h)) (r : SimV C μ H z Z) : Q Z H := P μ H Z .refl S r
theorem fin_tup {xs : List MV} {vs : List V} (S : SimH C μ H h) (P : OPost C W (SimV C) μ H σ Q (.ok (.tup xs) h)) (r : SimVs C μ H xs vs) {p : Addr} (hp : H p = none) : Q (.ref p) (upd H p (.tup vs)) :=
  P μ _ _ (Ext.new S hp) (S.new hp) (SimV.tupNew S r hp)
theorem fin_lst {xs : List MV} {vs : List V} (S : SimH C μ H h) (P : OPost C W (SimV C) μ H σ Q (.ok (.lst xs) h)) (r : SimVs C μ H xs vs) {p : Addr} (hp : H p = none) : Q (.ref p) (upd H p (.lst vs)) :=
  P μ _ _ (Ext.new S hp) (S.new hp) (SimV.lstNew S r hp)
theorem fin_cell {xs : List MV} {vs : List V} (S : SimH C μ H h) (P : OPost C W (SimV C) μ H σ Q (.ok (.ref h.length) (h ++ [.lst xs]))) (r : SimVs C μ H xs vs) {p : Addr} (hp : H p = none) : Q (.ref p) (upd H p (.lst vs)) := by
  refine P (μ.push p) _ _ (Ext.push S hp) (S.push hp ⟨p, vs, rfl, upd_same, r.ext (Ext.push S hp)⟩) ?_
  simp only [SimV]
  exact ⟨p, rfl, .inl (by rw [← S.len]; simp [Mu.push])⟩
/-- a cell's list becomes another -/
theorem fin_put {i : Nat} {xs : List MV} {vs : List V} {z : MV} {Z : V} {a : Addr} (S : SimH C μ H h) (P : OPost C W (SimV C) μ H σ Q (.ok z (h.set i (.lst xs)))) (hi : μ.c[i]? = some (some a)) (r : SimVs C μ H xs vs) (rz : SimV C μ H z Z) : Q Z (upd H a (.lst vs)) := by
  have e := Ext.put (o := .lst vs) S hi
  exact P μ _ _ e (S.put hi ⟨a, vs, rfl, upd_same, r.ext e⟩) (rz.ext e)
end
end Mini
end

section
set_option Elab.async false
set_option linter.all false
set_option maxRecDepth 100000
set_option maxHeartbeats 2000000
/-! Mini: operators. -/
namespace Mini
open PySem L2

section
variable {C : SC}
/-! ### ints -/
def fI (g : Int → Int → MV) (x y : MV) (h : MH) : Out MV := match x, y with
  | .int i, .int j => .ok (g i j) h
  | _, _ => .bad
theorem op2_int {g : Int → Int → MV} {gV : Int → Int → V} (hg : ∀ (μ : Mu) (H : Hp) i j, SimV C μ H (g i j) (gV i j)) : Op2 C (fI g) (rI0 gV) := by
  intro μ H h x X y Y Q S rx ry P
  cases x <;> cases y <;> try exact P.elim
  simp only [SimV] at rx ry
  subst rx ry
  exact ⟨_, _, rfl, rfl, fin_same S P (hg ..)⟩
open Classical in
noncomputable def fIC (c : Int → Int → Prop) (g : Int → Int → MV) (x y : MV) (h : MH) : Out MV := match x, y with
  | .int i, .int j => if c i j then .ok (g i j) h else .bad
  | _, _ => .bad
theorem op2_intC {c : Int → Int → Prop} {g : Int → Int → MV} {gV : Int → Int → V} (hg : ∀ (μ : Mu) (H : Hp) i j, SimV C μ H (g i j) (gV i j)) : Op2 C (fIC c g) (rI c gV) := by
  intro μ H h x X y Y Q S rx ry P
  cases x <;> cases y <;> try exact P.elim
  simp only [SimV] at rx ry
  subst rx ry
  simp only [fIC] at P
  split at P
  · rename_i hc
    exact ⟨_, _, rfl, rfl, hc, fin_same S P (hg ..)⟩
  · exact P.elim
theorem sv_int {μ : Mu} {H : Hp} {i : Int} : SimV C μ H (.int i) (.int i) := by simp [SimV]
theorem sv_bl {μ : Mu} {H : Hp} {i : Bool} : SimV C μ H (.bl i) (.bl i) := by simp [SimV]
theorem sv_str {μ : Mu} {H : Hp} {i : Str} : SimV C μ H (.str i) (.str i) := by simp [SimV]
theorem sv_non {μ : Mu} {H : Hp} : SimV C μ H .non .non := by simp [SimV]
abbrev fLt := fI fun i j => .bl (decide (i < j))
abbrev fLe := fI fun i j => .bl (decide (i ≤ j))
abbrev fGt := fI fun i j => .bl (decide (j < i))
abbrev fGe := fI fun i j => .bl (decide (j ≤ i))
abbrev fSub := fI fun i j => .int (i - j)
noncomputable abbrev fDiv := fIC CDiv fun i j => .int (i / j)
noncomputable abbrev fMod := fIC (fun _ j => 0 < j) fun i j => .int (i % j)
noncomputable abbrev fShr := fIC (fun _ j => 0 ≤ j) fun i j => .int (i / 2 ^ j.toNat)
abbrev fAnd := fI fun i j => .int (Builtin.bitAnd i j)

/-! ### + -/
def fAdd (x y : MV) (h : MH) : Out MV := match x, y with
  | .int i, .int j => .ok (.int (i + j)) h
  | .str i, .str j => if i.length + j.length ≤ sizeLine then .ok (.str (i ++ j)) h else .bad
  | .tup xs, .tup ys => if xs.length + ys.length ≤ sizeLine then .ok (.tup (xs ++ ys)) h else .bad
  | .fro _, _ => .bad
  | _, .fro _ => .bad
  | x, y => match listOf h x, listOf h y with
    | some xs, some ys => if xs.length + ys.length ≤ sizeLine then .ok (.lst (xs ++ ys)) h else .bad
    | _, _ => .bad
def rAddG (K : PySem.W.Frag) : R2 := fun x y H Q => rI0 (fun i j => .int (i + j)) x y H Q ∨ (∃ i j, x = .str i ∧ y = .str j ∧ i.length + j.length ≤ sizeLine ∧ Q (.str (i ++ j)) H) ∨ rCatA K x y H Q ∨ rCat x y H Q
theorem op_addG {X : Cx} : OpR X (binaryOp .Add) (rAddG X.K) := op_add.or (op_add_str.or (op_catA.or op_cat))
theorem listOf_mut {μ : Mu} {H : Hp} {h : MH} (S : SimH C μ H h) {x : MV} {X : V} {xs : List MV} (r : SimV C μ H x X) (hf : ∀ ys, x ≠ .fro ys) (e : listOf h x = some xs) : ∃ a vs, X = .ref a ∧ H a = some (.lst vs) ∧ SimVs C μ H xs vs := by
  cases x with
  | lst ys =>
    simp only [listOf, Option.some.injEq] at e; subst e
    simp only [SimV] at r
    obtain ⟨a, vs, rfl, h1, h2⟩ := r
    exact ⟨a, vs, rfl, h1.1, h2⟩
  | fro ys => exact absurd rfl (hf ys)
  | ref i =>
    simp only [listOf] at e
    split at e
    · rename_i ys hi
      cases e
      obtain ⟨a, vs, rfl, _, ha, r2⟩ := S.lst hi r
      exact ⟨a, vs, rfl, ha, r2⟩
    · cases e
  | _ => simp [listOf] at e
theorem op2_add : Op2 C fAdd (rAddG C.K) := by
  intro μ H h x X y Y Q S rx ry P
  unfold fAdd at P
  split at P
  · simp only [SimV] at rx ry
    subst rx ry
    exact .inl ⟨_, _, rfl, rfl, fin_same S P sv_int⟩
  · simp only [SimV] at rx ry
    subst rx ry
    split at P
    · rename_i hz
      exact .inr (.inl ⟨_, _, rfl, rfl, hz, fin_same S P sv_str⟩)
    · exact P.elim
  · rename_i xs ys
    split at P
    · rename_i hz
      have rx0 := rx
      have ry0 := ry
      simp only [SimV] at rx ry
      obtain ⟨a, vs, rfl, ha, hxs⟩ := rx
      obtain ⟨b, ws, rfl, hb, hys⟩ := ry
      refine .inr (.inr (.inl ⟨a, b, vs, ws, rfl, rfl, ha.sqt, hb.sqt, by rw [hxs.length, hys.length]; exact hz, fun e => ?_, fun _ e => ?_, fun _ _ p hp => ?_⟩))
      · have : xs = [] := by
          have := hxs.length; rw [e] at this; exact List.eq_nil_of_length_eq_zero this.symm
        subst this
        exact fin_same S P (by simpa using ry0)
      · have : ys = [] := by
          have := hys.length; rw [e] at this; exact List.eq_nil_of_length_eq_zero this.symm
        subst this
        exact fin_same S P (by simpa using rx0)
      · exact fin_tup S P (hxs.append hys) hp
    · exact P.elim
  · exact P.elim
  · exact P.elim
  · rename_i n1 n2 n3 n4 n5
    split at P
    · rename_i xs ys e1 e2
      split at P
      · rename_i hz
        obtain ⟨a, vs, rfl, ha, hxs⟩ := listOf_mut S rx (fun ys e => n1 ys e) e1
        obtain ⟨b, ws, rfl, hb, hys⟩ := listOf_mut S ry (fun ys e => n2 ys e) e2
        exact .inr (.inr (.inr ⟨a, b, vs, ws, rfl, rfl, ha, hb, by rw [hxs.length, hys.length]; exact hz, fun p hp => fin_lst S P (hxs.append hys) hp⟩))
      · exact P.elim
    · exact P.elim

/-! ### * -/
theorem op_mul_str {X : Cx} : OpR X (binaryOp .Mult) (fun x y H Q => ∃ s n, x = .str s ∧ y = .int n ∧ MulOk s n ∧ Q (.str (Txt.mul s n)) H) := by
  intro pins s σ H x y v u Q I rx ry h
  obtain ⟨i, j, rfl, rfl, hz, q⟩ := h
  obtain ⟨t, rfl⟩ := rx
  obtain ⟨t', rfl⟩ := ry
  exact SB.mul hz fun t' k => ⟨.str _, H, I.tok _, ⟨_, rfl⟩, q⟩
open Classical in
noncomputable def fMul (x y : MV) (h : MH) : Out MV := match x, y with
  | .int i, .int j => if CMul i j then .ok (.int (i * j)) h else .bad
  | .str s, .int n => if MulOk s n then .ok (.str (Txt.mul s n)) h else .bad
  | _, _ => .bad
def rMulG : R2 := fun x y H Q => rI CMul (fun i j => .int (i * j)) x y H Q ∨ (∃ s n, x = .str s ∧ y = .int n ∧ MulOk s n ∧ Q (.str (Txt.mul s n)) H)
theorem op_mulG {X : Cx} : OpR X (binaryOp .Mult) rMulG := op_mul.or op_mul_str
theorem op2_mul : Op2 C fMul rMulG := by
  intro μ H h x X y Y Q S rx ry P
  unfold fMul at P
  split at P
  · simp only [SimV] at rx ry
    subst rx ry
    split at P
    · rename_i hz
      exact .inl ⟨_, _, rfl, rfl, hz, fin_same S P sv_int⟩
    · exact P.elim
  · simp only [SimV] at rx ry
    subst rx ry
    split at P
    · rename_i hz
      exact .inr ⟨_, _, rfl, rfl, hz, fin_same S P sv_str⟩
    · exact P.elim
  · exact P.elim

/-! ### == != -/
def fEq (x y : MV) (h : MH) : Out MV := match dat 64 h x, dat 64 h y with
  | some d, some e => .ok (.bl (PyData.eqv d e)) h
  | _, _ => .bad
def fNe (x y : MV) (h : MH) : Out MV := match dat 64 h x, dat 64 h y with
  | some d, some e => .ok (.bl (!PyData.eqv d e)) h
  | _, _ => .bad
theorem op2_eq : Op2 C fEq (rEqD C.K) := by
  intro μ H h x X y Y Q S rx ry P
  unfold fEq at P
  split at P
  · rename_i d e e1 e2
    obtain ⟨d1, s1⟩ := dat_shaped S rx e1
    obtain ⟨d2, s2⟩ := dat_shaped S ry e2
    exact ⟨d, e, d1, d2, s1, s2, fin_same S P sv_bl⟩
  · exact P.elim
theorem op2_ne : Op2 C fNe (rNeD C.K) := by
  intro μ H h x X y Y Q S rx ry P
  unfold fNe at P
  split at P
  · rename_i d e e1 e2
    obtain ⟨d1, s1⟩ := dat_shaped S rx e1
    obtain ⟨d2, s2⟩ := dat_shaped S ry e2
    exact ⟨d, e, d1, d2, s1, s2, fin_same S P sv_bl⟩
  · exact P.elim

/-! ### is None -/
def isNon : MV → Bool
  | .non => true
  | _ => false
theorem non_iff {μ : Mu} {H : Hp} {x : MV} {X : V} (r : SimV C μ H x X) : decide (X = .non) = isNon x := by
  cases x <;> simp only [SimV] at r
  case non => subst r; rfl
  case bl => subst r; rfl
  case int => subst r; rfl
  case str => subst r; rfl
  all_goals
    obtain ⟨a, r⟩ := r
    first
      | (obtain ⟨vs, rfl, _⟩ := r; rfl)
      | (obtain ⟨Ca, dx, fs, rfl, _⟩ := r; rfl)
      | (obtain ⟨rfl, _⟩ := r; rfl)

/-! ### in, not in: flat items -/
def flatM : MV → Bool
  | .non => true
  | .bl _ => true
  | .int _ => true
  | .str _ => true
  | _ => false
def eqM : MV → MV → Bool
  | .non, .non => true
  | .bl a, .bl b => a == b
  | .bl a, .int b => (if a then 1 else 0) == b
  | .int a, .bl b => a == (if b then 1 else 0)
  | .int a, .int b => a == b
  | .str a, .str b => a == b
  | _, _ => false
def fIn (neg : Bool) (x y : MV) (h : MH) : Out MV := match seqOf h y with
  | some ys => if flatM x = true ∧ ys.all flatM = true then .ok (.bl (if neg then !ys.any fun y => eqM y x else ys.any fun y => eqM y x)) h else .bad
  | none => .bad
theorem flat_sim {μ : Mu} {H : Hp} {x : MV} {X : V} (r : SimV C μ H x X) (hf : flatM x = true) : flatV X = true := by
  cases x <;> first | (simp [flatM] at hf; done) | (simp only [SimV] at r; subst r; rfl)
theorem eq_sim {μ : Mu} {H : Hp} {x y : MV} {X Y : V} (rx : SimV C μ H x X) (ry : SimV C μ H y Y) (hx : flatM x = true) (hy : flatM y = true) : eqV X Y = eqM x y := by
  cases x <;> first | (simp [flatM] at hx; done) | (cases y <;> first | (simp [flatM] at hy; done) | (simp only [SimV] at rx ry; subst rx ry; rfl))
theorem any_sim {μ : Mu} {H : Hp} {x : MV} {X : V} (rx : SimV C μ H x X) (hx : flatM x = true) : ∀ {ys : List MV} {vs : List V}, SimVs C μ H ys vs → ys.all flatM = true → vs.all flatV = true ∧ inV X vs = ys.any fun y => eqM y x
  | [], vs, r, _ => by rw [r.nil_inv]; exact ⟨rfl, rfl⟩
  | y :: ys, vs, r, hf => by
    obtain ⟨v, r', rfl, h2, h3⟩ := r.cons_inv
    simp only [List.all_cons, Bool.and_eq_true] at hf
    obtain ⟨a, b⟩ := any_sim rx hx h3 hf.2
    refine ⟨by simp [flat_sim h2 hf.1, a], ?_⟩
    unfold inV at b ⊢
    simp only [List.any_cons]
    rw [b, eq_sim h2 rx hf.1 hx]
theorem op2_in {neg : Bool} : Op2 C (fIn neg) (rIn C.K neg) := by
  intro μ H h x X y Y Q S rx ry P
  unfold fIn at P
  split at P
  · rename_i ys e
    split at P
    · rename_i hf
      obtain ⟨a, vs, rfl, hs, r⟩ := seqOf_sim S ry e
      obtain ⟨k1, k2⟩ := any_sim rx hf.1 r hf.2
      refine ⟨a, vs, rfl, hs, flat_sim rx hf.1, k1, ?_⟩
      rw [k2]
      exact fin_same S P sv_bl
    · exact P.elim
  · exact P.elim

/-! ### x[i] -/
theorem atI_sim {μ : Mu} {H : Hp} {xs : List MV} {vs : List V} {i : Int} {x : MV} (r : SimVs C μ H xs vs) (e : atI xs i = some x) : ∃ v, atI vs i = some v ∧ SimV C μ H x v := by
  unfold atI at e ⊢
  rw [r.length]
  cases q : ixN xs.length i with
  | none => rw [q] at e; cases e
  | some j =>
    rw [q] at e
    obtain ⟨v, h1, h2⟩ := r.get e
    exact ⟨v, h1, h2⟩
def fIx (x y : MV) (h : MH) : Out MV := match x, y with
  | .str z, .int i => if z.length ≤ sizeLine then (match atI z.cps.toList i with
    | some c => .ok (.str ⟨#[c]⟩) h
    | none => .bad) else .bad
  | x, .int i => match seqOf h x with
    | some xs => match atI xs i with
      | some v => .ok v h
      | none => .bad
    | none => .bad
  | _, _ => .bad
theorem op2_ix : Op2 C fIx (rIx C.K) := by
  intro μ H h x X y Y Q S rx ry P
  unfold fIx at P
  split at P
  · simp only [SimV] at rx ry
    subst rx ry
    split at P
    · rename_i hz
      split at P
      · rename_i c e
        exact .inr (.inr ⟨_, _, c, rfl, rfl, hz, e, fin_same S P sv_str⟩)
      · exact P.elim
    · exact P.elim
  · simp only [SimV] at ry
    subst ry
    split at P
    · rename_i xs e
      split at P
      · rename_i v e2
        obtain ⟨a, vs, rfl, hs, r⟩ := seqOf_sim S rx e
        obtain ⟨w, e3, r3⟩ := atI_sim r e2
        rcases hs with hs | hs
        · exact .inl ⟨a, vs, _, w, rfl, rfl, hs, e3, fin_same S P r3⟩
        · exact .inr (.inl ⟨a, vs, _, w, rfl, rfl, hs, e3, fin_same S P r3⟩)
      · exact P.elim
    · exact P.elim
  · exact P.elim

/-! ### x[i:j] -/
def cutM (xs : List MV) (lo hi : Option Int) : List MV := (xs.drop (HT.sIx xs.length 0 lo)).take (HT.sIx xs.length xs.length hi - HT.sIx xs.length 0 lo)
def fSl (x : MV) (lo hi : Option Int) (h : MH) : Out MV := match x with
  | .tup xs => .ok (.tup (cutM xs lo hi)) h
  | .str z => if z.length ≤ sizeLine then .ok (.str (cutS z lo hi)) h else .bad
  | x => match listOf h x with
    | some xs => .ok (.lst (cutM xs lo hi)) h
    | none => .bad
def rSlG (K : PySem.W.Frag) : V → Option Int → Option Int → Hp → VK → Prop := fun x lo hi H Q => rSlL K x lo hi H Q ∨ rSlA K x lo hi H Q ∨ rSlS x lo hi H Q
theorem sl_G {X : Cx} : SlR X (rSlG X.K) := sl_list.or (sl_tupA.or sl_str)
theorem cut_sim {μ : Mu} {H : Hp} {xs : List MV} {vs : List V} (r : SimVs C μ H xs vs) (lo hi : Option Int) : SimVs C μ H (cutM xs lo hi) (cutV vs lo hi) := by
  unfold cutM cutV
  rw [r.length]
  exact (r.drop _).take _
theorem sl_sim {μ : Mu} {H : Hp} {h : MH} {x : MV} {X : V} {lo hi : Option Int} {Q : VK} (S : SimH C μ H h) (rx : SimV C μ H x X) (P : OPost C (fun _ _ _ _ => False) (SimV C) μ H [] Q (fSl x lo hi h)) : rSlG C.K X lo hi H Q := by
  unfold fSl at P
  split at P
  · rename_i xs
    have rx0 := rx
    simp only [SimV] at rx
    obtain ⟨a, vs, rfl, ha, hxs⟩ := rx
    refine .inr (.inl ⟨a, vs, rfl, ha.sqt, fun e => ?_, fun _ p hp => fin_tup S P (cut_sim hxs lo hi) hp⟩)
    rw [hxs.length] at e
    have : cutM xs lo hi = xs := by unfold cutM; rw [e.1, e.2]; simp
    rw [this] at P
    exact fin_same S P rx0
  · simp only [SimV] at rx
    subst rx
    split at P
    · rename_i hz
      exact .inr (.inr ⟨_, rfl, hz, fin_same S P sv_str⟩)
    · exact P.elim
  · split at P
    · rename_i xs e
      obtain ⟨a, vs, rfl, hs, r⟩ := listOf_sim S rx e
      exact .inl ⟨a, vs, rfl, hs, fun p hp => fin_lst S P (cut_sim r lo hi) hp⟩
    · exact P.elim
end
end Mini
end

section
set_option Elab.async false
set_option linter.all false
set_option maxRecDepth 100000
set_option maxHeartbeats 2000000
/-! Mini: expressions. -/
namespace Mini
open PySem L2

section
variable {C : SC} {W : WX} {pi : Pin} {X : Cx} {σ : L2.St} {H : Hp}

/-! ### names, constants -/
def mVar (i : Nat) : ME := fun ρ h => match ρ[i]? with
  | some (some v) => .ok v h
  | _ => .bad
def mC (v : MV) : ME := fun _ h => .ok v h
theorem rd_var {i : Nat} {Q : VK} (q : rdE C W pi (mVar i) σ H Q) : tVar i σ H Q := by
  obtain ⟨μ, ρ, h, S, P⟩ := q
  unfold mVar at P
  split at P
  · rename_i v e
    obtain ⟨V, e1, r⟩ := S.env i v e
    exact ⟨V, e1, fin_same S.heap P r⟩
  · exact P.elim
theorem rd_c {m : MV} {v : V} (hs : ∀ (μ : Mu) (H : Hp), SimV C μ H m v) {Q : VK} (q : rdE C W pi (mC m) σ H Q) : tC v σ H Q := by
  obtain ⟨μ, ρ, h, S, P⟩ := q
  exact fin_same S.heap P (hs ..)
theorem sv (i : Nat) {x : Str} {pos : Pos} (hN : X.N[i]? = some x := by rfl) (hv : Vis X.env.scope x := by first | exact Or.inl rfl | exact Or.inr (Or.inl rfl) | exact Or.inr (Or.inr rfl)) (hd : (x == ("__debug__" : Str)) = false := by decide)
    (hcd : (x == ("__classdict__" : Str)) = false := by decide) : PE X (.Name x pos) (rdE C W pi (mVar i)) := PE.imp (pe_var hN hv hd hcd) fun _ _ _ => rd_var
theorem sInt {i j pos} : PE X (.Constant (.int i) j pos) (rdE C W pi (mC (.int i))) := PE.imp pe_int fun _ _ _ => rd_c fun _ _ => sv_int
theorem sBl {i j pos} : PE X (.Constant (.bool i) j pos) (rdE C W pi (mC (.bl i))) := PE.imp pe_bl fun _ _ _ => rd_c fun _ _ => sv_bl
theorem sNon {j pos} : PE X (.Constant .none j pos) (rdE C W pi (mC .non)) := PE.imp pe_non fun _ _ _ => rd_c fun _ _ => sv_non
theorem sStr {i j pos} : PE X (.Constant (.str i) j pos) (rdE C W pi (mC (.str i))) := PE.imp pe_str fun _ _ _ => rd_c fun _ _ => sv_str
/-- a module's flat constant -/
theorem sGlob {x : Str} {m : MV} {v : V} {u : Value} {pos : Pos} (hg : Gl X x) (hm : X.mg x = some u) (r : RelV v u) (hs : ∀ (μ : Mu) (H : Hp), SimV C μ H m v) (hd : (x == ("__debug__" : Str)) = false := by decide) : PE X (.Name x pos) (rdE C W pi (mC m)) :=
  PE.imp (pe_glob hg hm r hd) fun _ _ _ => rd_c hs

/-! ### operators -/
variable {a b c : Expr} {ma mb mc : ME} {pos : Pos}
theorem sOp {op : Operator} {r : R2} {f : MV → MV → MH → Out MV} (ho : OpR X (binaryOp op) r) (hf : Op2 C f r) (ha : PE X a (rdE C W pi ma)) (hb : PE X b (rdE C W pi mb)) : PE X (.BinOp a op b pos) (rdE C W pi (mOp f ma mb)) :=
  PE.imp (pe_op ho ha hb) fun _ _ _ => rd_op hf
theorem sIx {r : R2} {f : MV → MV → MH → Out MV} (hr : IxR X r) (hf : Op2 C f r) (ha : PE X a (rdE C W pi ma)) (hb : PE X b (rdE C W pi mb)) (hs : PlainIx b := by exact fun _ _ => rfl) : PE X (.Subscript a b pos) (rdE C W pi (mOp f ma mb)) :=
  PE.imp (pe_ix hr ha hb hs) fun _ _ _ => rd_op hf
theorem sCmp {op : CmpOp} {r : R2} {f : MV → MV → MH → Out MV} (ho : OpR X (compareOp op) r) (hf : Op2 C f r) (ha : PE X a (rdE C W pi ma)) (hb : PE X b (rdE C W pi mb)) (hm : behindInMarks op b = false) : PE X (.Compare a [op] [b] pos) (rdE C W pi (mOp f ma mb)) :=
  PE.imp (pe_cmpR ho ha hb hm) fun _ _ _ => rd_op hf
/-- a test of a truth value -/
def mTest (m : ME) : MT := fun ρ h => (m ρ h).bind fun x h1 => match x with
  | .bl b => .ok b h1
  | _ => .bad
theorem rd_test {m : ME} {Q : Bool → Hp → Prop} (q : rdT C W pi (mTest m) σ H Q) : tTest (rdE C W pi m) σ H Q := by
  obtain ⟨μ, ρ, h, S, P⟩ := q
  refine rd_bind S P fun μ1 h1 H1 x X e1 S1 r1 P1 => ?_
  cases x <;> try exact P1.elim
  simp only [SimV] at r1
  subst r1
  exact ⟨_, rfl, P1 μ1 H1 _ .refl S1.heap rfl⟩
theorem tCmp {op : CmpOp} {r : R2} {f : MV → MV → MH → Out MV} (ho : OpR X (compareOp op) r) (hf : Op2 C f r) (ha : PE X a (rdE C W pi ma)) (hb : PE X b (rdE C W pi mb)) (hm : behindInMarks op b = false) : PT X (.Compare a [op] [b] pos) (rdT C W pi (mTest (mOp f ma mb))) :=
  PT.imp (pt_cmpR ho ha hb hm) fun σ H Q q => by
    have q := rd_test q
    obtain ⟨μ, ρ, h, S, P⟩ := q
    exact rd_op hf ⟨μ, ρ, h, S, P⟩
theorem tVal {m : ME} {e : Expr} (h : PE X e (rdE C W pi m)) (he : ∀ whole, isTrue e X.env whole = (do let v ← whole; standAt e.pos; holding [v] (truthy v)) := by intro _; rfl) : PT X e (rdT C W pi (mTest m)) :=
  PT.imp (pt_val h he) fun _ _ _ => rd_test

/-! ### a < b < c -/
def mChain (f g : MV → MV → MH → Out MV) (a b c : ME) : ME := fun ρ h => (a ρ h).bind fun x h1 => (b ρ h1).bind fun y h2 => ((f x y h2).hard).bind fun z h3 => match z with
  | .bl k => if k = true then (c ρ h3).bind fun w h4 => (g y w h4).hard else .ok (.bl false) h3
  | _ => .bad
theorem post_bind {α β γ δ : Type} {R : Mu → Hp → α → β → Prop} {R' : Mu → Hp → γ → δ → Prop} {o : Out α} {g : α → MH → Out γ} {Q : δ → Hp → Prop} {k : β → Hp → Prop} {μ : Mu}
    (P : OPost C W R' μ H σ Q (o.hard.bind g))
    (hk : ∀ μ1 h1 H1 x X, Ext μ H μ1 H1 → SimH C μ1 H1 h1 → R μ1 H1 x X → OPost C W R' μ1 H1 σ Q (g x h1) → k X H1) : OPost C (fun _ _ _ _ => False) R μ H [] k o := by
  cases o with
  | ok x h1 => exact fun μ1 H1 X e1 hh r => hk μ1 h1 H1 x X e1 hh r (P.from e1)
  | er c h1 => exact P.elim
  | bad => exact P.elim
theorem rd_chain {r r' : R2} {f g : MV → MV → MH → Out MV} (hf : Op2 C f r) (hg : Op2 C g r') {Q : VK} (q : rdE C W pi (mChain f g ma mb mc) σ H Q) : tChain r r' (rdE C W pi ma) (rdE C W pi mb) (rdE C W pi mc) σ H Q := by
  obtain ⟨μ, ρ, h, S, P⟩ := q
  refine rd_bind S P fun μ1 h1 H1 x Xv e1 S1 r1 P1 => ?_
  refine rd_bind S1 P1 fun μ2 h2 H2 y Yv e2 S2 r2 P2 => ?_
  refine hf μ2 H2 h2 x Xv y Yv _ S2.heap (r1.ext e2) r2 (post_bind P2 fun μ3 h3 H3 z Zv e3 S3 r3 P3 => ?_)
  cases z <;> try exact P3.elim
  rename_i k
  simp only [SimV] at r3
  subst r3
  refine ⟨k, rfl, ?_⟩
  cases k with
  | false =>
    simp only [Bool.false_eq_true, if_false] at P3 ⊢
    exact fin_same S3 P3 sv_bl
  | true =>
    simp only [if_true] at P3 ⊢
    refine rd_bind (S2.go e3 S3) P3 fun μ4 h4 H4 w Wv e4 S4 r4 P4 => ?_
    exact hg μ4 H4 h4 y Yv w Wv Q S4.heap ((r2.ext e3).ext e4) r4 P4.hard
theorem sChain {op op' : CmpOp} {r r' : R2} {f g : MV → MV → MH → Out MV} (ho : OpR X (compareOp op) r) (ho' : OpR X (compareOp op') r') (hf : Op2 C f r) (hg : Op2 C g r') (ha : PE X a (rdE C W pi ma)) (hb : PE X b (rdE C W pi mb)) (hc : PE X c (rdE C W pi mc))
    (hm : lastMarks [op, op'] [b, c] = false := by with_unfolding_all rfl) : PE X (.Compare a [op, op'] [b, c] pos) (rdE C W pi (mChain f g ma mb mc)) := PE.imp (pe_chain ho ho' ha hb hc hm) fun _ _ _ => rd_chain hf hg
theorem tChn {op op' : CmpOp} {r r' : R2} {f g : MV → MV → MH → Out MV} (ho : OpR X (compareOp op) r) (ho' : OpR X (compareOp op') r') (hf : Op2 C f r) (hg : Op2 C g r') (ha : PE X a (rdE C W pi ma)) (hb : PE X b (rdE C W pi mb)) (hc : PE X c (rdE C W pi mc))
    (hm : lastMarks [op, op'] [b, c] = false := by with_unfolding_all rfl) : PT X (.Compare a [op, op'] [b, c] pos) (rdT C W pi (mTest (mChain f g ma mb mc))) :=
  PT.imp (pt_chain ho ho' ha hb hc hm) fun σ H Q q => by
    obtain ⟨μ, ρ, h, S, P⟩ := rd_test q
    exact rd_chain hf hg ⟨μ, ρ, h, S, P⟩

/-! ### is None -/
def fIs (neg : Bool) (x y : MV) (h : MH) : Out MV := match y with
  | .non => .ok (.bl (isNon x != neg)) h
  | _ => .bad
theorem op2_is : Op2 C (fIs false) (fun x y H Q => y = .non ∧ Q (.bl (decide (x = .non))) H) := by
  intro μ H h x X y Y Q S rx ry P
  cases y <;> try exact P.elim
  simp only [SimV] at ry
  refine ⟨ry, ?_⟩
  rw [non_iff rx]
  have : (isNon x != false) = isNon x := by cases isNon x <;> rfl
  simp only [fIs, this] at P
  exact fin_same S P sv_bl
theorem op2_isnt : Op2 C (fIs true) (fun x y H Q => y = .non ∧ Q (.bl (!decide (x = .non))) H) := by
  intro μ H h x X y Y Q S rx ry P
  cases y <;> try exact P.elim
  simp only [SimV] at ry
  refine ⟨ry, ?_⟩
  rw [non_iff rx]
  have : (isNon x != true) = !isNon x := by cases isNon x <;> rfl
  simp only [fIs, this] at P
  exact fin_same S P sv_bl

/-! ### and, or, not -/
def mAnd (t u : MT) : MT := fun ρ h => (t ρ h).bind fun c h1 => if c = true then u ρ h1 else .ok false h1
def mOr (t u : MT) : MT := fun ρ h => (t ρ h).bind fun c h1 => if c = true then .ok true h1 else u ρ h1
def mNot (t : MT) : MT := fun ρ h => (t ρ h).bind fun c h1 => .ok (!c) h1
variable {t u : MT}
theorem rd_and {Q : Bool → Hp → Prop} (q : rdT C W pi (mAnd t u) σ H Q) : tAnd (rdT C W pi t) (rdT C W pi u) σ H Q := by
  obtain ⟨μ, ρ, h, S, P⟩ := q
  refine rd_bind S P fun μ1 h1 H1 x Xv e1 S1 r1 P1 => ?_
  subst r1
  cases x with
  | true => simp only [if_true] at P1 ⊢; exact ⟨μ1, ρ, h1, S1, P1⟩
  | false => simp only [Bool.false_eq_true, if_false] at P1 ⊢; exact P1 μ1 H1 _ .refl S1.heap rfl
theorem rd_or {Q : Bool → Hp → Prop} (q : rdT C W pi (mOr t u) σ H Q) : tOr (rdT C W pi t) (rdT C W pi u) σ H Q := by
  obtain ⟨μ, ρ, h, S, P⟩ := q
  refine rd_bind S P fun μ1 h1 H1 x Xv e1 S1 r1 P1 => ?_
  subst r1
  cases x with
  | true => simp only [if_true] at P1 ⊢; exact P1 μ1 H1 _ .refl S1.heap rfl
  | false => simp only [Bool.false_eq_true, if_false] at P1 ⊢; exact ⟨μ1, ρ, h1, S1, P1⟩
theorem rd_not {Q : Bool → Hp → Prop} (q : rdT C W pi (mNot t) σ H Q) : tNot (rdT C W pi t) σ H Q := by
  obtain ⟨μ, ρ, h, S, P⟩ := q
  refine rd_bind S P fun μ1 h1 H1 x Xv e1 S1 r1 P1 => ?_
  subst r1
  exact P1 μ1 H1 _ .refl S1.heap rfl
variable {rest : List Expr}
theorem wAnd (ha : PT X a (rdT C W pi t)) (hb : PW X (.BoolOp .And (b :: rest) pos) (rdT C W pi u)) : PW X (.BoolOp .And (a :: b :: rest) pos) (rdT C W pi (mAnd t u)) := PW.imp (pw_and ha hb) fun _ _ _ => rd_and
theorem wOr (ha : PT X a (rdT C W pi t)) (hb : PW X (.BoolOp .Or (b :: rest) pos) (rdT C W pi u)) : PW X (.BoolOp .Or (a :: b :: rest) pos) (rdT C W pi (mOr t u)) := PW.imp (pw_or ha hb) fun _ _ _ => rd_or
theorem tNt (ha : PT X a (rdT C W pi t)) : PT X (.UnaryOp .Not a pos) (rdT C W pi (mNot t)) := PT.imp (pt_not ha) fun _ _ _ => rd_not
def mAndV (a b : ME) : ME := fun ρ h => (a ρ h).bind fun x h1 => match x with
  | .bl c => if c = true then b ρ h1 else .ok (.bl false) h1
  | _ => .bad
def mOrV (a b : ME) : ME := fun ρ h => (a ρ h).bind fun x h1 => match x with
  | .bl c => if c = true then .ok (.bl true) h1 else b ρ h1
  | _ => .bad
def mNotV (a : ME) : ME := fun ρ h => (a ρ h).bind fun x h1 => match x with
  | .bl c => .ok (.bl (!c)) h1
  | _ => .bad
theorem sAnd (ha : PE X a (rdE C W pi ma)) (hb : PE X (.BoolOp .And (b :: rest) pos) (rdE C W pi mb)) : PE X (.BoolOp .And (a :: b :: rest) pos) (rdE C W pi (mAndV ma mb)) := PE.imp (pe_and ha hb) fun σ H Q q => by
  obtain ⟨μ, ρ, h, S, P⟩ := q
  refine rd_bind S P fun μ1 h1 H1 x Xv e1 S1 r1 P1 => ?_
  cases x <;> try exact P1.elim
  rename_i k
  simp only [SimV] at r1
  subst r1
  refine ⟨k, rfl, ?_⟩
  cases k with
  | true => simp only [if_true] at P1 ⊢; exact ⟨μ1, ρ, h1, S1, P1⟩
  | false => simp only [Bool.false_eq_true, if_false] at P1 ⊢; exact fin_same S1.heap P1 sv_bl
theorem sOr (ha : PE X a (rdE C W pi ma)) (hb : PE X (.BoolOp .Or (b :: rest) pos) (rdE C W pi mb)) : PE X (.BoolOp .Or (a :: b :: rest) pos) (rdE C W pi (mOrV ma mb)) := PE.imp (pe_or ha hb) fun σ H Q q => by
  obtain ⟨μ, ρ, h, S, P⟩ := q
  refine rd_bind S P fun μ1 h1 H1 x Xv e1 S1 r1 P1 => ?_
  cases x <;> try exact P1.elim
  rename_i k
  simp only [SimV] at r1
  subst r1
  refine ⟨k, rfl, ?_⟩
  cases k with
  | true => simp only [if_true] at P1 ⊢; exact fin_same S1.heap P1 sv_bl
  | false => simp only [Bool.false_eq_true, if_false] at P1 ⊢; exact ⟨μ1, ρ, h1, S1, P1⟩
theorem sNot (ha : PE X a (rdE C W pi ma)) : PE X (.UnaryOp .Not a pos) (rdE C W pi (mNotV ma)) := PE.imp (pe_not ha) fun σ H Q q => by
  obtain ⟨μ, ρ, h, S, P⟩ := q
  refine rd_bind S P fun μ1 h1 H1 x Xv e1 S1 r1 P1 => ?_
  cases x <;> try exact P1.elim
  simp only [SimV] at r1
  subst r1
  exact ⟨_, rfl, fin_same S1.heap P1 sv_bl⟩
def mIf (t : MT) (a b : ME) : ME := fun ρ h => (t ρ h).bind fun c h1 => if c = true then a ρ h1 else b ρ h1
theorem sIf {c : Expr} (hc : PT X c (rdT C W pi t)) (ha : PE X a (rdE C W pi ma)) (hb : PE X b (rdE C W pi mb)) : PE X (.IfExp c a b pos) (rdE C W pi (mIf t ma mb)) := PE.imp (pe_ifExp hc ha hb) fun σ H Q q => by
  obtain ⟨μ, ρ, h, S, P⟩ := q
  refine rd_bind S P fun μ1 h1 H1 x Xv e1 S1 r1 P1 => ?_
  subst r1
  cases x with
  | true => simp only [if_true] at P1 ⊢; exact ⟨μ1, ρ, h1, S1, P1⟩
  | false => simp only [Bool.false_eq_true, if_false] at P1 ⊢; exact ⟨μ1, ρ, h1, S1, P1⟩

/-! ### argument lists, displays -/
def mNil : MA := fun _ h => .ok [] h
def mCons (a : ME) (r : MA) : MA := fun ρ h => (a ρ h).bind fun x h1 => (r ρ h1).bind fun xs h2 => .ok (x :: xs) h2
variable {es : List Expr} {ms : MA}
theorem aNil : PA X [] (rdA C W pi mNil) := PA.imp pa_nil fun σ H Q q => by
  obtain ⟨μ, ρ, h, S, P⟩ := q
  exact P μ H _ .refl S.heap .nil
theorem aCons (ha : PE X a (rdE C W pi ma)) (hr : PA X es (rdA C W pi ms)) (hs : starEach (a :: es) X.env = (false, eval a X.env) :: starEach es X.env := by rfl) : PA X (a :: es) (rdA C W pi (mCons ma ms)) := PA.imp (pa_cons ha hr hs) fun σ H Q q => by
  obtain ⟨μ, ρ, h, S, P⟩ := q
  refine rd_bind S P fun μ1 h1 H1 x Xv e1 S1 r1 P1 => ?_
  refine rd_bind S1 P1 fun μ2 h2 H2 xs Xs e2 S2 r2 P2 => ?_
  exact P2 μ2 H2 _ .refl S2.heap (.cons (r1.ext e2) r2)
def mTup (m : MA) : ME := fun ρ h => (m ρ h).bind fun xs h1 => if xs.length ≤ sizeLine then .ok (.tup xs) h1 else .bad
def mLst (m : MA) : ME := fun ρ h => (m ρ h).bind fun xs h1 => if xs.length ≤ sizeLine then .ok (.lst xs) h1 else .bad
def mCell (m : MA) : ME := fun ρ h => (m ρ h).bind fun xs h1 => if xs.length ≤ sizeLine then .ok (.ref h1.length) (h1 ++ [.lst xs]) else .bad
theorem sTup {x1} (hm : PA X es (rdA C W pi ms)) : PE X (.Tuple es x1 pos) (rdE C W pi (mTup ms)) := PE.imp (pe_tup hm) fun σ H Q q => by
  obtain ⟨μ, ρ, h, S, P⟩ := q
  refine rd_bind S P fun μ1 h1 H1 x Xv e1 S1 r1 P1 => ?_
  split at P1
  · rename_i hz
    exact ⟨by rw [r1.length]; exact hz, fun p hp => fin_tup S1.heap P1 r1 hp⟩
  · exact P1.elim
theorem sLst (hm : PA X es (rdA C W pi ms)) : PE X (.List es pos) (rdE C W pi (mLst ms)) := PE.imp (pe_lst hm) fun σ H Q q => by
  obtain ⟨μ, ρ, h, S, P⟩ := q
  refine rd_bind S P fun μ1 h1 H1 x Xv e1 S1 r1 P1 => ?_
  split at P1
  · rename_i hz
    exact ⟨by rw [r1.length]; exact hz, fun p hp => fin_lst S1.heap P1 r1 hp⟩
  · exact P1.elim
theorem sCell (hm : PA X es (rdA C W pi ms)) : PE X (.List es pos) (rdE C W pi (mCell ms)) := PE.imp (pe_lst hm) fun σ H Q q => by
  obtain ⟨μ, ρ, h, S, P⟩ := q
  refine rd_bind S P fun μ1 h1 H1 x Xv e1 S1 r1 P1 => ?_
  split at P1
  · rename_i hz
    exact ⟨by rw [r1.length]; exact hz, fun p hp => fin_cell S1.heap P1 r1 hp⟩
  · exact P1.elim

/-! ### calls of built-ins, methods of built-ins -/
abbrev OpA (C : SC) (f : List MV → MH → Out MV) (r : List V → Hp → VK → Prop) : Prop := Op1 C (SimVs C) f r
def mCB (f : List MV → MH → Out MV) (m : MA) : ME := fun ρ h => (m ρ h).bind fun xs h1 => (f xs h1).hard
theorem rd_cb {f : List MV → MH → Out MV} {r : List V → Hp → VK → Prop} (hf : OpA C f r) {Q : VK} (q : rdE C W pi (mCB f ms) σ H Q) : tCB r (rdA C W pi ms) σ H Q := by
  obtain ⟨μ, ρ, h, S, P⟩ := q
  refine rd_bind S P fun μ1 h1 H1 x Xv e1 S1 r1 P1 => ?_
  exact hf μ1 H1 h1 x Xv Q S1.heap r1 P1.hard
theorem sCB {id : String} {x : Str} {p : Pos} {r : List V → Hp → VK → Prop} {f : List MV → MH → Out MV} (hc : CallR X (.builtin id) r) (hf : OpA C f r) (hm : X.mg x = none) (hv : bootBuiltins x = some (.builtin id)) (ha : PA X (a :: es) (rdA C W pi ms)) (hg : Gl X x := by rfl) (hn : x ≠ "__name__" := by decide) (hdb : (x == ("__debug__" : Str)) = false := by decide)
    (he : starEach (a :: es) X.env = (false, eval a X.env) :: starEach es X.env := by rfl) (hpl : (backTo pos (starEach es X.env)).any (·.1) = false := by rfl) : PE X (.Call (.Name x p) (a :: es) [] pos) (rdE C W pi (mCB f ms)) :=
  PE.imp (pe_callB hc hg hm hv ha hn hdb he hpl) fun _ _ _ => rd_cb hf
theorem sTy {T : String} {x : Str} {p : Pos} {r : List V → Hp → VK → Prop} {f : List MV → MH → Out MV} (hc : CallR X (.type T) r) (hf : OpA C f r) (hm : X.mg x = none) (hv : bootBuiltins x = some (.type T)) (ha : PA X (a :: es) (rdA C W pi ms)) (hg : Gl X x := by rfl) (hn : x ≠ "__name__" := by decide) (hdb : (x == ("__debug__" : Str)) = false := by decide)
    (he : starEach (a :: es) X.env = (false, eval a X.env) :: starEach es X.env := by rfl) (hpl : (backTo pos (starEach es X.env)).any (·.1) = false := by rfl) : PE X (.Call (.Name x p) (a :: es) [] pos) (rdE C W pi (mCB f ms)) :=
  PE.imp (pe_callTy hc hg hm hv ha hn hdb he hpl) fun _ _ _ => rd_cb hf
def OpM (C : SC) (f : MV → List MV → MH → Out MV) (r : V → List V → Hp → VK → Prop) : Prop :=
  ∀ μ H h x X xs Xs Q, SimH C μ H h → SimV C μ H x X → SimVs C μ H xs Xs → OPost C (fun _ _ _ _ => False) (SimV C) μ H [] Q (f x xs h) → r X Xs H Q
def isList (h : MH) (x : MV) : Bool := (listOf h x).isSome
def mLM (f : MV → List MV → MH → Out MV) (o : ME) (m : MA) : ME := fun ρ h => (o ρ h).bind fun x h1 => if isList h1 x = true then (m ρ h1).bind fun xs h2 => (f x xs h2).hard else .bad
theorem ty_list {μ : Mu} {h : MH} (S : SimH C μ H h) {x : MV} {Xv : V} (r : SimV C μ H x Xv) (e : isList h x = true) : tyV C.K "list" Xv H := by
  unfold isList at e
  cases q : listOf h x with
  | none => rw [q] at e; cases e
  | some xs =>
    obtain ⟨a, vs, rfl, h1, _⟩ := listOf_sim S r q
    exact .inl ⟨rfl, vs, h1⟩
variable {o : Expr} {mo : ME} {name : String} {id : String} {apos cpos : Pos}
theorem sLM {nm : Str} {r : V → List V → Hp → VK → Prop} {f : MV → List MV → MH → Out MV} (hk : C.K = X.K) (slot : Slot "list" nm id) (hty : typeOf (.builtin id) = pure (.type "method_descriptor")) (hm : MtR X id r) (hf : OpM C f r) (ho : PE X o (rdE C W pi mo)) (ha : PA X (a :: es) (rdA C W pi ms))
    (hbase : attributeBase o nm X.env (eval o X.env) = eval o X.env := by rfl)
    (hfew : ((backTo cpos (starEach (a :: es) X.env)).all (fun x => !x.1) && (backToKw cpos (keywordEach [] X.env)).all (fun x => x.1.isSome)
      && decide ((a :: es).length + ([] : List Keyword).length + (if ([] : List Keyword).isEmpty then 0 else 1) < 30)) = true := by rfl)
    (hline : (apos.endLine == cpos.line) = true := by rfl) (hs : starEach (a :: es) X.env = (false, eval a X.env) :: starEach es X.env := by rfl) (hplain : (backTo cpos (starEach es X.env)).any (·.1) = false := by rfl) :
    PE X (.Call (.Attribute o nm apos) (a :: es) [] cpos) (rdE C W pi (mLM f mo ms)) :=
  PE.imp (pe_bm PySem.F.plainAttrs_list slot hty hm ho ha hbase hfew hline hs hplain) fun σ H Q q => by
    obtain ⟨μ, ρ, h, S, P⟩ := q
    refine rd_bind S P fun μ1 h1 H1 x Xv e1 S1 r1 P1 => ?_
    split at P1
    · rename_i hl
      refine ⟨by rw [← hk]; exact ty_list S1.heap r1 hl, ?_⟩
      refine rd_bind S1 P1 fun μ2 h2 H2 xs Xs e2 S2 r2 P2 => ?_
      exact hf μ2 H2 h2 x Xv xs Xs Q S2.heap (r1.ext e2) r2 P2.hard
    · exact P1.elim
def mLM0 (f : MV → List MV → MH → Out MV) (o : ME) : ME := fun ρ h => (o ρ h).bind fun x h1 => if isList h1 x = true then (f x [] h1).hard else .bad
theorem sLM0 {nm : Str} {r : V → List V → Hp → VK → Prop} {f : MV → List MV → MH → Out MV} (hk : C.K = X.K) (slot : Slot "list" nm id) (hty : typeOf (.builtin id) = pure (.type "method_descriptor")) (hm : MtR X id r) (hf : OpM C f r) (ho : PE X o (rdE C W pi mo))
    (hbase : attributeBase o nm X.env (eval o X.env) = eval o X.env := by rfl) (hline : (apos.endLine == cpos.line) = true := by rfl) :
    PE X (.Call (.Attribute o nm apos) [] [] cpos) (rdE C W pi (mLM0 f mo)) :=
  PE.imp (pe_bm0 PySem.F.plainAttrs_list slot hty hm ho hbase hline) fun σ H Q q => by
    obtain ⟨μ, ρ, h, S, P⟩ := q
    refine rd_bind S P fun μ1 h1 H1 x Xv e1 S1 r1 P1 => ?_
    split at P1
    · rename_i hl
      refine ⟨by rw [← hk]; exact ty_list S1.heap r1 hl, ?_⟩
      exact hf μ1 H1 h1 x Xv [] [] Q S1.heap r1 .nil P1.hard
    · exact P1.elim

/-! ### slices -/
def mPart (m : ME) : En → MH → Out (Option Int) := fun ρ h => (m ρ h).bind fun x h1 => match x with
  | .int i => .ok (some i) h1
  | _ => .bad
def mNoPart : En → MH → Out (Option Int) := fun _ h => .ok none h
def rdO (C : SC) (W : WX) (pi : Pin) (m : En → MH → Out (Option Int)) : TO := rdG C W pi (fun _ _ a b => a = b) m
theorem oSome (h : PE X a (rdE C W pi ma)) : PO X (some a) (rdO C W pi (mPart ma)) := by
  have k := po_some h
  refine ⟨fun pins s σ H Q I q => k.run pins s σ H Q I ?_⟩
  obtain ⟨μ, ρ, h, S, P⟩ := q
  refine rd_bind S P fun μ1 h1 H1 x Xv e1 S1 r1 P1 => ?_
  cases x <;> try exact P1.elim
  simp only [SimV] at r1
  subst r1
  exact ⟨_, rfl, P1 μ1 H1 _ .refl S1.heap rfl⟩
theorem oNone : PO X none (rdO C W pi mNoPart) := by
  have k := po_none (X := X)
  refine ⟨fun pins s σ H Q I q => k.run pins s σ H Q I ?_⟩
  obtain ⟨μ, ρ, h, S, P⟩ := q
  exact P μ H _ .refl S.heap rfl
def mSl (m : ME) (l u : En → MH → Out (Option Int)) : ME := fun ρ h => (m ρ h).bind fun x h1 => (l ρ h1).bind fun lo h2 => (u ρ h2).bind fun hi h3 => (fSl x lo hi h3).hard
theorem sSl (hk : C.K = X.K) {lo hi : Option Expr} {p2 : Pos} {l u : En → MH → Out (Option Int)} (he : PE X a (rdE C W pi ma)) (hl : PO X lo (rdO C W pi l)) (hu : PO X hi (rdO C W pi u)) : PE X (.Subscript a (.Slice lo hi none p2) pos) (rdE C W pi (mSl ma l u)) :=
  PE.imp (pe_slice sl_G he hl hu) fun σ H Q q => by
    obtain ⟨μ, ρ, h, S, P⟩ := q
    refine rd_bind S P fun μ1 h1 H1 x Xv e1 S1 r1 P1 => ?_
    refine rd_bind S1 P1 fun μ2 h2 H2 o1 O1 e2 S2 r2 P2 => ?_
    refine rd_bind S2 P2 fun μ3 h3 H3 o2 O2 e3 S3 r3 P3 => ?_
    subst r2 r3
    rw [← hk]
    exact sl_sim S3.heap ((r1.ext e2).ext e3) P3.hard

/-! ### isinstance of a built-in class -/
inductive Ty where
  | non | bl | int | str | tup | lst | dct
def Ty.nm : Ty → String
  | .non => "NoneType" | .bl => "bool" | .int => "int" | .str => "str" | .tup => "tuple" | .lst => "list" | .dct => "dict"
def Ty.is : Ty → Ty → Bool
  | .non, .non => true | .bl, .bl => true | .int, .int => true | .str, .str => true | .tup, .tup => true | .lst, .lst => true | .dct, .dct => true
  | .bl, .int => true
  | _, _ => false
def tyOf (h : MH) : MV → Option Ty
  | .non => some .non
  | .bl _ => some .bl
  | .int _ => some .int
  | .str _ => some .str
  | .tup _ => some .tup
  | .lst _ => some .lst
  | .fro _ => some .lst
  | .dct _ _ => some .dct
  | .ref i => match h[i]? with
    | some (.lst _) => some .lst
    | _ => none
  | _ => none
theorem kit_all (a b : Ty) : kitB a.nm b.nm = some (a.is b) := by
  cases a <;> cases b <;> decide +kernel
theorem tyOf_sim {μ : Mu} {h : MH} (S : SimH C μ H h) {x : MV} {Xv : V} {t : Ty} (r : SimV C μ H x Xv) (e : tyOf h x = some t) : TyX C.K H Xv (.type t.nm) := by
  cases x <;> simp only [tyOf, Option.some.injEq] at e
  case non => subst e; simp only [SimV] at r; subst r; exact .base .non
  case bl => subst e; simp only [SimV] at r; subst r; exact .base (.bl _)
  case int => subst e; simp only [SimV] at r; subst r; exact .base (.int _)
  case str => subst e; simp only [SimV] at r; subst r; exact .base (.str _)
  case tup =>
    subst e; simp only [SimV] at r
    obtain ⟨a, vs, rfl, (h1 | h1), _⟩ := r
    · rcases h1.1 with h2 | ⟨o, h2⟩
      · exact .base (.tup h2)
      · exact .fTuple h2
    · rcases h1 with (h1 | ⟨o, h1⟩) | ⟨o, its, n, h1, h2, _⟩
      · cases h1
      · cases h1
      · exact .kTuple h1 h2
  case lst =>
    subst e; simp only [SimV] at r
    obtain ⟨a, vs, rfl, h1, _⟩ := r
    exact .base (.lst h1.1)
  case fro =>
    subst e; simp only [SimV] at r
    obtain ⟨a, vs, rfl, (h1 | h1), _⟩ := r
    · rcases h1.1 with h2 | ⟨o, h2⟩
      · exact .base (.lst h2)
      · exact .base (.frz h2)
    · rcases h1 with (h1 | ⟨o, h1⟩) | ⟨o, its, n, h1, h2, _⟩
      · cases h1
      · cases h1
      · exact .kList h1 h2
  case dct =>
    subst e; simp only [SimV] at r
    obtain ⟨a, kvs, rfl, h1, _⟩ := r
    exact .base (.dK h1)
  case ref =>
    split at e
    · rename_i ys hi
      cases e
      obtain ⟨a, vs, rfl, _, ha, _⟩ := S.lst hi r
      exact .base (.lst ha)
    · cases e
  all_goals cases e
def mIsi (T : Ty) (m : ME) : ME := fun ρ h => (m ρ h).bind fun x h1 => match tyOf h1 x with
  | some t => .ok (.bl (t.is T)) h1
  | none => .bad
theorem sIsi (hk : C.K = X.K) {T : Ty} {x : Str} {p : Pos} (hx : x = "isinstance") (hm : X.mg x = none) (ha : PE X a (rdE C W pi ma)) (hb : PE X b (tC (.ty T.nm))) (hg : Gl X x := by rfl)
    (he : starEach [a, b] X.env = (false, eval a X.env) :: starEach [b] X.env := by rfl) (he2 : starEach [b] X.env = (false, eval b X.env) :: starEach [] X.env := by rfl) (hpl : (backTo pos (starEach [b] X.env)).any (·.1) = false := by rfl) : PE X (.Call (.Name x p) [a, b] [] pos) (rdE C W pi (mIsi T ma)) := by
  subst hx
  refine PE.imp (pe_callB call_isi hg hm (by decide +kernel) (pa_cons ha (pa_cons hb pa_nil he2) he) (by decide) (by decide) he hpl) fun σ H Q q => ?_
  obtain ⟨μ, ρ, h, S, P⟩ := q
  refine rd_bind S P fun μ1 h1 H1 x Xv e1 S1 r1 P1 => ?_
  split at P1
  · rename_i t e
    exact ⟨Xv, .ty T.nm, _, _, _, rfl, .ty _, by rw [← hk]; exact tyOf_sim S1.heap r1 e, kit_ty (kit_all t T), fin_same S1.heap P1 sv_bl⟩
  · exact P1.elim
end
end Mini
end

section
set_option Elab.async false
set_option linter.all false
set_option maxRecDepth 100000
set_option maxHeartbeats 2000000
/-! Mini: targets, iterators, statements, loops, comprehensions. -/
namespace Mini
open PySem L2

inductive SO where
  | nx (ρ : En) (h : MH) | rt (v : MV) (h : MH) | bk (ρ : En) (h : MH) | ct (ρ : En) (h : MH) | er (c : Nat) (ρ : En) (h : MH) | bad
abbrev MS := En → MH → SO
def SPost (C : SC) (W : WX) (pi : Pin) (D : Ends) (μ : Mu) (H : Hp) : SO → Prop
  | .nx ρ' h' => ∀ μ' σ' H', Ext μ H μ' H' → SimS C pi μ' ρ' h' σ' H' → D.nx σ' H'
  | .bk ρ' h' => ∀ μ' σ' H', Ext μ H μ' H' → SimS C pi μ' ρ' h' σ' H' → D.bk σ' H'
  | .ct ρ' h' => ∀ μ' σ' H', Ext μ H μ' H' → SimS C pi μ' ρ' h' σ' H' → D.ct σ' H'
  | .rt v h' => ∀ μ' H' V, Ext μ H μ' H' → SimH C μ' H' h' → SimV C μ' H' v V → D.rt V H'
  | .er c ρ' h' => ∀ μ' σ' H' Ca, Ext μ H μ' H' → SimS C pi μ' ρ' h' σ' H' → C.cl[c]? = some Ca → W (.ref Ca) none σ' H'
  | .bad => False
def rdS (C : SC) (W : WX) (pi : Pin) (m : MS) : TS := fun D σ H => ∃ μ ρ h, SimS C pi μ ρ h σ H ∧ SPost C W pi D μ H (m ρ h)
theorem SPost.from {C : SC} {W : WX} {pi : Pin} {D : Ends} {μ μ1 : Mu} {H H1 : Hp} {o : SO} (e : Ext μ H μ1 H1) (h : SPost C W pi D μ H o) : SPost C W pi D μ1 H1 o := by
  cases o with
  | nx ρ' h' => exact fun μ' σ' H' e' S => h μ' σ' H' (e.trans e') S
  | bk ρ' h' => exact fun μ' σ' H' e' S => h μ' σ' H' (e.trans e') S
  | ct ρ' h' => exact fun μ' σ' H' e' S => h μ' σ' H' (e.trans e') S
  | rt v h' => exact fun μ' H' V e' S r => h μ' H' V (e.trans e') S r
  | er c ρ' h' => exact fun μ' σ' H' Ca e' S hc => h μ' σ' H' Ca (e.trans e') S hc
  | bad => exact h
/-- an expression, then what is done with its value -/
def Out.then {α : Type} (o : Out α) (ρ : En) (f : α → MH → SO) : SO := match o with
  | .ok a h => f a h
  | .er c h => .er c ρ h
  | .bad => .bad
section
variable {C : SC} {W : WX} {pi : Pin} {X : Cx} {σ : L2.St} {H : Hp}
theorem rd_then {α β : Type} {R : Mu → Hp → α → β → Prop} {m : En → MH → Out α} {f : α → MH → SO} {D : Ends} {k : β → Hp → Prop} {μ : Mu} {ρ : En} {h : MH} (S : SimS C pi μ ρ h σ H) (P : SPost C W pi D μ H ((m ρ h).then ρ f))
    (hk : ∀ μ1 h1 H1 x X, Ext μ H μ1 H1 → SimS C pi μ1 ρ h1 σ H1 → R μ1 H1 x X → SPost C W pi D μ1 H1 (f x h1) → k X H1) : rdG C W pi R m σ H k := by
  refine ⟨μ, ρ, h, S, ?_⟩
  cases e : m ρ h with
  | ok x h1 =>
    simp only [e, Out.then] at P
    intro μ1 H1 X e1 hh r
    exact hk μ1 h1 H1 x X e1 (S.go e1 hh) r (P.from e1)
  | er c h1 =>
    simp only [e, Out.then] at P
    exact fun μ' H' Ca e' hh hc => P μ' σ H' Ca e' (S.go e' hh) hc
  | bad =>
    simp only [e, Out.then] at P
    exact P

/-! ### targets -/
inductive Tg where
  | name (i : Nat) | tup (ts : List Tg)
mutual
def Tg.set : Tg → MV → En → Option En
  | .name i, v, ρ => some (ρ.set i (some v))
  | .tup ts, v, ρ => match v with
    | .tup xs => Tg.sets ts xs ρ
    | _ => none
def Tg.sets : List Tg → List MV → En → Option En
  | [], [], ρ => some ρ
  | t :: ts, x :: xs, ρ => (t.set x ρ).bind fun ρ1 => Tg.sets ts xs ρ1
  | _, _, _ => none
end
mutual
def Tg.ix : Tg → List Nat
  | .name i => [i]
  | .tup ts => Tg.ixs ts
def Tg.ixs : List Tg → List Nat
  | [] => []
  | t :: ts => t.ix ++ Tg.ixs ts
end
mutual
def Tg.rd (K : PySem.W.Frag) : Tg → TG
  | .name i => gName i
  | .tup ts => gTup K ts.length (Tg.rds K ts)
def Tg.rds (K : PySem.W.Frag) : List Tg → TGs
  | [] => gNil
  | t :: ts => gCons (t.rd K) (Tg.rds K ts)
end
theorem sets_len : ∀ {ts : List Tg} {xs : List MV} {ρ ρ' : En}, Tg.sets ts xs ρ = some ρ' → xs.length = ts.length
  | [], [], _, _, _ => rfl
  | [], _ :: _, _, _, e => by simp [Tg.sets] at e
  | _ :: _, [], _, _, e => by simp [Tg.sets] at e
  | t :: ts, x :: xs, ρ, ρ', e => by
    simp only [Tg.sets, Option.bind_eq_some_iff] at e
    obtain ⟨ρ1, _, e2⟩ := e
    simp [sets_len e2]
mutual
theorem tg_sim {h : MH} {μ : Mu} : ∀ {t : Tg} {v : MV} {Vv : V} {ρ ρ' : En} {σ : L2.St} {Q : L2.St → Hp → Prop}, t.set v ρ = some ρ' → (∀ i w, pi = some (i, w) → i ∉ t.ix) → SimS C pi μ ρ h σ H → SimV C μ H v Vv →
    (∀ σ', SimS C pi μ ρ' h σ' H → (∀ j, j ∉ t.ix → σ'[j]? = σ[j]?) → Q σ' H) → t.rd C.K Vv σ H Q
  | .name i, v, Vv, ρ, ρ', σ, Q, e, hp, S, r, q => by
    simp only [Tg.set, Option.some.injEq] at e
    subst e
    simp only [Tg.rd]
    refine q _ (S.set (fun w hw => hp i w hw (by simp [Tg.ix])) r) fun j hj => ?_
    rw [List.getElem?_set_ne]
    intro e; subst e; simp [Tg.ix] at hj
  | .tup ts, v, Vv, ρ, ρ', σ, Q, e, hp, S, r, q => by
    simp only [Tg.set] at e
    split at e
    · rename_i xs
      simp only [SimV] at r
      obtain ⟨a, vs, rfl, ha, hxs⟩ := r
      simp only [Tg.rd]
      refine ⟨a, vs, rfl, ha.sqt, by rw [hxs.length]; exact sets_len e, ?_⟩
      exact tgs_sim e (by simpa [Tg.ix] using hp) S hxs (by simpa [Tg.ix] using q)
    · cases e
theorem tgs_sim {h : MH} {μ : Mu} : ∀ {ts : List Tg} {xs : List MV} {vs : List V} {ρ ρ' : En} {σ : L2.St} {Q : L2.St → Hp → Prop}, Tg.sets ts xs ρ = some ρ' → (∀ i w, pi = some (i, w) → i ∉ Tg.ixs ts) → SimS C pi μ ρ h σ H → SimVs C μ H xs vs →
    (∀ σ', SimS C pi μ ρ' h σ' H → (∀ j, j ∉ Tg.ixs ts → σ'[j]? = σ[j]?) → Q σ' H) → Tg.rds C.K ts vs σ H Q
  | [], [], vs, ρ, ρ', σ, Q, e, hp, S, r, q => by
    simp only [Tg.sets, Option.some.injEq] at e
    subst e
    rw [r.nil_inv]
    exact ⟨rfl, q σ S fun _ _ => rfl⟩
  | [], _ :: _, _, _, _, _, _, e, _, _, _, _ => by simp [Tg.sets] at e
  | _ :: _, [], _, _, _, _, _, e, _, _, _, _ => by simp [Tg.sets] at e
  | t :: ts, x :: xs, vs, ρ, ρ', σ, Q, e, hp, S, r, q => by
    simp only [Tg.sets, Option.bind_eq_some_iff] at e
    obtain ⟨ρ1, e1, e2⟩ := e
    obtain ⟨v, r', rfl, h2, h3⟩ := r.cons_inv
    simp only [Tg.rds]
    refine ⟨v, r', rfl, tg_sim e1 (fun i w hw => ?_) S h2 fun σ1 S1 k1 => ?_⟩
    · have := hp i w hw; simp only [Tg.ixs, List.mem_append, not_or] at this; exact this.1
    · refine tgs_sim e2 (fun i w hw => ?_) S1 h3 fun σ2 S2 k2 => q σ2 S2 fun j hj => ?_
      · have := hp i w hw; simp only [Tg.ixs, List.mem_append, not_or] at this; exact this.2
      · simp only [Tg.ixs, List.mem_append, not_or] at hj
        rw [k2 j hj.2, k1 j hj.1]
end

/-! ### iterators -/
structure Itm where
  items : List MV
  chk : MH → Prop
abbrev MI := En → MH → Out Itm
def ItSim (C : SC) (μ0 : Mu) (H0 : Hp) (t : Itm) (J : It) : Prop := ∀ (i : Nat) μ H h, Ext2 μ0 H0 μ H → SimH C μ H h → t.chk h →
  (t.items.length ≤ i → J.stop i H) ∧ ∀ x, t.items[i]? = some x → J.go i H ∧ ∀ Vv H', J.yld i H Vv H' → Ext μ H μ H' ∧ SimH C μ H' h ∧ SimV C μ H' x Vv
def rdI (C : SC) (W : WX) (pi : Pin) (m : MI) : TI := rdG C W pi (fun μ H t J => ItSim C μ H t J) m
theorem PI.imp {tg iter : Expr} {t t' : TI} (h : PI X tg iter t) (k : ∀ σ H R, t' σ H R → t σ H R) : PI X tg iter t' := ⟨fun pins s σ H R I q => h.run pins s σ H R I (k σ H R q)⟩
/-- over a list or a tuple -/
def iSeq (K : PySem.W.Frag) (tl : TE) : TI := fun σ H R => tl σ H fun x H1 => ∃ a, x = .ref a ∧ (((∃ xs, SqL K H1 a xs) ∧ R (Itl K a) H1) ∨ ((∃ xs, SqT K H1 a xs) ∧ R (Itt K a) H1))
theorem pi_seq {l : Expr} {tl : TE} {tg : Expr} (hl : PE X l tl) : PI X tg l (iSeq X.K tl) := by
  refine ⟨fun pins s σ H R I h => ?_⟩
  refine thn (hl.run pins s σ H _ I h) fun v s1 ⟨x, H1, I1, r1, q1⟩ => ?_
  obtain ⟨a, e, q⟩ := q1
  subst e
  cases r1
  rcases q with ⟨⟨xs, hq⟩, q⟩ | ⟨⟨xs, hq⟩, q⟩
  · obtain ⟨its, rv, p, hz⟩ := I1.list hq
    refine wpAny_pyIter_list p.isList ?_
    refine ⟨s1.heap.objs.size, [s1.heap.objs.size], _, _, H1, rfl, I1.kept (t' := s1.toks) fun b o e => Heap.get?_push_of_some _ e, turn_list a _, ⟨_, Heap.get?_push_size _ rfl, rfl, rfl⟩, fun b hb => ?_, q⟩
    have e : b = s1.heap.objs.size := by simpa using hb
    subst e
    exact I1.fpOk (Nat.le_refl _) (I1.hok.fresh (Nat.le_refl _))
  · obtain ⟨its, rv, p, hz⟩ := I1.tuple hq
    refine wpAny_pyIter_tuple (show s1.heap.IsTuple a its.toArray from p) ?_
    refine ⟨s1.heap.objs.size, [s1.heap.objs.size], _, _, H1, rfl, I1.kept (t' := s1.toks) fun b o e => Heap.get?_push_of_some _ e, turn_tuple a _, ⟨_, Heap.get?_push_size _ rfl, rfl, rfl⟩, fun b hb => ?_, q⟩
    have e : b = s1.heap.objs.size := by simpa using hb
    subst e
    exact I1.fpOk (Nat.le_refl _) (I1.hok.fresh (Nat.le_refl _))
def itmOf (h : MH) : MV → Option Itm
  | .tup xs => some ⟨xs, fun _ => True⟩
  | .lst xs => some ⟨xs, fun _ => True⟩
  | .fro xs => some ⟨xs, fun _ => True⟩
  | .ref i => match h[i]? with
    | some (.lst xs) => some ⟨xs, fun h' => h'[i]? = some (.lst xs)⟩
    | _ => none
  | _ => none
def mSeqI (m : ME) : MI := fun ρ h => (m ρ h).bind fun x h1 => match itmOf h1 x with
  | some t => .ok t h1
  | none => .bad
theorem itl_sim {μ0 : Mu} {H0 : Hp} {t : Itm} {a : Addr} (hl : ∀ μ H h, Ext2 μ0 H0 μ H → SimH C μ H h → t.chk h → ∃ vs, SqL C.K H a vs ∧ SimVs C μ H t.items vs) : ItSim C μ0 H0 t (Itl C.K a) := by
  intro i μ H h e S hc
  obtain ⟨vs, q, r⟩ := hl μ H h e S hc
  refine ⟨fun hi => ⟨vs, q, by rw [r.length]; exact hi⟩, fun x hx => ?_⟩
  obtain ⟨v, h1, h2⟩ := r.get hx
  refine ⟨⟨vs, v, q, h1⟩, fun Vv H' y => ?_⟩
  obtain ⟨rfl, y⟩ := y
  have := y vs q
  rw [h1] at this; cases this
  exact ⟨.refl, S, h2⟩
theorem itt_sim {μ0 : Mu} {H0 : Hp} {t : Itm} {a : Addr} (hl : ∀ μ H h, Ext2 μ0 H0 μ H → SimH C μ H h → t.chk h → ∃ vs, SqT C.K H a vs ∧ SimVs C μ H t.items vs) : ItSim C μ0 H0 t (Itt C.K a) := by
  intro i μ H h e S hc
  obtain ⟨vs, q, r⟩ := hl μ H h e S hc
  refine ⟨fun hi => ⟨vs, q, by rw [r.length]; exact hi⟩, fun x hx => ?_⟩
  obtain ⟨v, h1, h2⟩ := r.get hx
  refine ⟨⟨vs, v, q, h1⟩, fun Vv H' y => ?_⟩
  obtain ⟨rfl, y⟩ := y
  have := y vs q
  rw [h1] at this; cases this
  exact ⟨.refl, S, h2⟩
theorem iSeqR {l : Expr} {tg : Expr} {m : ME} (hk : C.K = X.K) (hl : PE X l (rdE C W pi m)) : PI X tg l (rdI C W pi (mSeqI m)) := by
  refine PI.imp (pi_seq hl) fun σ H R q => ?_
  rw [← hk]
  obtain ⟨μ, ρ, h, S, P⟩ := q
  refine rd_bind S P fun μ1 h1 H1 x Xv e1 S1 r1 P1 => ?_
  cases x with
  | tup xs =>
    simp only [itmOf] at P1
    have r0 := r1
    simp only [SimV] at r1
    obtain ⟨a, vs, rfl, ha, hxs⟩ := r1
    refine ⟨a, rfl, .inr ⟨⟨vs, ha.sqt⟩, P1 μ1 H1 _ .refl S1.heap (itt_sim fun μ H h e S _ => ?_)⟩⟩
    exact ⟨vs, (ha.ext2 e).sqt, hxs.ext2 e⟩
  | lst xs =>
    simp only [itmOf] at P1
    simp only [SimV] at r1
    obtain ⟨a, vs, rfl, ha, hxs⟩ := r1
    refine ⟨a, rfl, .inl ⟨⟨vs, .inl (.inl ha.1)⟩, P1 μ1 H1 _ .refl S1.heap (itl_sim fun μ H h e S _ => ?_)⟩⟩
    exact ⟨vs, .inl (.inl (e.1 _ _ ha.1 ha.2).1), hxs.ext2 e⟩
  | fro xs =>
    simp only [itmOf] at P1
    simp only [SimV] at r1
    obtain ⟨a, vs, rfl, ha, hxs⟩ := r1
    refine ⟨a, rfl, .inl ⟨⟨vs, ha.sql⟩, P1 μ1 H1 _ .refl S1.heap (itl_sim fun μ H h e S _ => ?_)⟩⟩
    exact ⟨vs, (ha.ext2 e).sql, hxs.ext2 e⟩
  | ref i =>
    simp only [itmOf] at P1
    split at P1
    · rename_i t e
      split at e
      · rename_i xs hi
        cases e
        obtain ⟨a, vs, rfl, ha, hH, hxs⟩ := S1.heap.lst hi r1
        refine ⟨a, rfl, .inl ⟨⟨vs, .inl (.inl hH)⟩, P1 μ1 H1 _ .refl S1.heap (itl_sim fun μ H h e S hc => ?_)⟩⟩
        obtain ⟨a', vs', e1, e2, e3, e4⟩ := S.lst hc (r1.ext2 e)
        cases e1
        exact ⟨vs', .inl (.inl e3), e4⟩
      · cases e
    · exact P1.elim
  | _ => exact P1.elim
/-- over range(n), range(a, b) -/
def rangeM (lo : Int) (n : Nat) : List MV := (List.range n).map fun (k : Nat) => MV.int (lo + (k : Int))
def okR (i : Int) : Prop := -(2 ^ 62) ≤ i ∧ i < 2 ^ 62
instance (i : Int) : Decidable (okR i) := by unfold okR; infer_instance
def mRng1 (m : MA) : MI := fun ρ h => (m ρ h).bind fun xs h1 => match xs with
  | [.int j] => if okR j then .ok ⟨rangeM 0 j.toNat, fun _ => True⟩ h1 else .bad
  | _ => .bad
def mRng2 (m : MA) : MI := fun ρ h => (m ρ h).bind fun xs h1 => match xs with
  | [.int i, .int j] => if okR i ∧ okR j then .ok ⟨rangeM i (j - i).toNat, fun _ => True⟩ h1 else .bad
  | _ => .bad
theorem itr_sim {μ0 : Mu} {H0 : Hp} {lo : Int} {n : Nat} {c : MH → Prop} : ItSim C μ0 H0 ⟨rangeM lo n, c⟩ (Itr lo n) := by
  intro i μ H h e S _
  refine ⟨fun hi => show n ≤ i by simpa [rangeM] using hi, fun x hx => ?_⟩
  simp only [rangeM, List.getElem?_map, Option.map_eq_some_iff] at hx
  obtain ⟨k, hk, rfl⟩ := hx
  have hk' := List.getElem?_eq_some_iff.mp hk
  obtain ⟨h1, h2⟩ := hk'
  simp at h1 h2
  subst h2
  refine ⟨h1, fun Vv H' y => ?_⟩
  obtain ⟨rfl, rfl⟩ := y
  exact ⟨.refl, S, sv_int⟩
theorem iRng1R {a : Expr} {tg : Expr} {m : MA} {p pos : Pos} (hm : X.mg "range" = none) (ha : PA X [a] (rdA C W pi m)) (hg : Gl X "range" := by rfl) (hs : starEach [a] X.env = [(false, eval a X.env)] := by rfl) : PI X tg (.Call (.Name "range" p) [a] [] pos) (rdI C W pi (mRng1 m)) := by
  refine PI.imp (pi_range1 hg hm ha hs) fun σ H R q => ?_
  obtain ⟨μ, ρ, h, S, P⟩ := q
  refine rd_bind S P fun μ1 h1 H1 x Xv e1 S1 r1 P1 => ?_
  split at P1
  · rename_i j
    split at P1
    · rename_i hj
      obtain ⟨v, r', rfl, h2, h3⟩ := r1.cons_inv
      have := h3.nil_inv; subst this
      simp only [SimV] at h2; subst h2
      exact ⟨j, rfl, hj.1, hj.2, P1 μ1 H1 _ .refl S1.heap itr_sim⟩
    · exact P1.elim
  · exact P1.elim
theorem iRng2R {a b : Expr} {tg : Expr} {m : MA} {p pos : Pos} (hm : X.mg "range" = none) (ha : PA X [a, b] (rdA C W pi m)) (hg : Gl X "range" := by rfl) (hs : starEach [a, b] X.env = [(false, eval a X.env), (false, eval b X.env)] := by rfl) (hs2 : starEach [b] X.env = [(false, eval b X.env)] := by rfl) : PI X tg (.Call (.Name "range" p) [a, b] [] pos) (rdI C W pi (mRng2 m)) := by
  refine PI.imp (pi_range2 hg hm ha hs hs2) fun σ H R q => ?_
  obtain ⟨μ, ρ, h, S, P⟩ := q
  refine rd_bind S P fun μ1 h1 H1 x Xv e1 S1 r1 P1 => ?_
  split at P1
  · rename_i i j
    split at P1
    · rename_i hj
      obtain ⟨v, r', rfl, h2, h3⟩ := r1.cons_inv
      obtain ⟨v', r'', rfl, h4, h5⟩ := h3.cons_inv
      have := h5.nil_inv; subst this
      simp only [SimV] at h2 h4; subst h2 h4
      exact ⟨i, j, rfl, ⟨hj.1.1, hj.1.2, hj.2.1, hj.2.2⟩, P1 μ1 H1 _ .refl S1.heap itr_sim⟩
    · exact P1.elim
  · exact P1.elim
end
end Mini
end

section
set_option Elab.async false
set_option linter.all false
set_option maxRecDepth 100000
set_option maxHeartbeats 2000000
/-! Mini: statements, loops, comprehensions. -/
namespace Mini
open PySem L2
section
variable {C : SC} {W : WX} {pi : Pin} {X : Cx} {σ : L2.St} {H : Hp} {D : Ends}
/-! ### statements -/
def mSeq (a b : MS) : MS := fun ρ h => match a ρ h with
  | .nx ρ' h' => b ρ' h'
  | o => o
def mNext : MS := fun ρ h => .nx ρ h
def mBreak : MS := fun ρ h => .bk ρ h
def mCont : MS := fun ρ h => .ct ρ h
def mDrop (e : ME) : MS := fun ρ h => (e ρ h).then ρ fun _ h1 => .nx ρ h1
def mRet (e : ME) : MS := fun ρ h => (e ρ h).then ρ fun v h1 => .rt v h1
def mRetN : MS := fun ρ h => .rt .non h
def mIte (t : MT) (a b : MS) : MS := fun ρ h => (t ρ h).then ρ fun c h1 => if c = true then a ρ h1 else b ρ h1
def mAsg (e : ME) (t : Tg) : MS := fun ρ h => (e ρ h).then ρ fun v h1 => match t.set v ρ with
  | some ρ' => .nx ρ' h1
  | none => .bad
theorem rd_seq {a b : MS} (q : rdS C W pi (mSeq a b) D σ H) : tSeq (rdS C W pi a) (rdS C W pi b) D σ H := by
  obtain ⟨μ, ρ, h, S, P⟩ := q
  refine ⟨μ, ρ, h, S, ?_⟩
  unfold mSeq at P
  cases e : a ρ h with
  | nx ρ' h' => rw [e] at P; exact fun μ' σ' H' e' S' => ⟨μ', ρ', h', S', P.from e'⟩
  | bk ρ' h' => rw [e] at P; exact P
  | ct ρ' h' => rw [e] at P; exact P
  | rt v h' => rw [e] at P; exact P
  | er c ρ' h' => rw [e] at P; exact P
  | bad => rw [e] at P; exact P
variable {st : Stmt} {rest : List Stmt} {ma mb : MS} {pos : Pos} {e : Expr} {me : ME} {mt : MT} {a b : List Stmt} {c : Expr} {tg : Expr}
theorem ssCons (h1 : PS X st (rdS C W pi ma)) (h2 : PSs X rest (rdS C W pi mb)) : PSs X (st :: rest) (rdS C W pi (mSeq ma mb)) := PSs.imp (pss_cons h1 h2) fun _ _ _ => rd_seq
theorem ssOne (h1 : PS X st (rdS C W pi ma)) : PSs X [st] (rdS C W pi ma) := pss_one h1
theorem ssNil : PSs X [] (rdS C W pi mNext) := PSs.imp pss_nil fun D σ H q => by
  obtain ⟨μ, ρ, h, S, P⟩ := q
  exact P μ σ H .refl S
theorem sPass : PS X (.Pass pos) (rdS C W pi mNext) := PS.imp ps_pass fun D σ H q => by
  obtain ⟨μ, ρ, h, S, P⟩ := q
  exact P μ σ H .refl S
theorem sBreak : PS X (.Break pos) (rdS C W pi mBreak) := PS.imp ps_break fun D σ H q => by
  obtain ⟨μ, ρ, h, S, P⟩ := q
  exact P μ σ H .refl S
theorem sCont : PS X (.Continue pos) (rdS C W pi mCont) := PS.imp ps_continue fun D σ H q => by
  obtain ⟨μ, ρ, h, S, P⟩ := q
  exact P μ σ H .refl S
theorem sExpr (he : PE X e (rdE C W pi me)) (hs : swapsWith e none pos.line X.env = pure false := by rfl) : PS X (.Expr e pos) (rdS C W pi (mDrop me)) := PS.imp (ps_expr he hs) fun D σ H q => by
  obtain ⟨μ, ρ, h, S, P⟩ := q
  refine rd_then S P fun μ1 h1 H1 x Xv e1 S1 r1 P1 => ?_
  exact P1 μ1 σ H1 .refl S1
theorem sRet (he : PE X e (rdE C W pi me)) : PS X (.Return (some e) pos) (rdS C W pi (mRet me)) := PS.imp (ps_ret he) fun D σ H q => by
  obtain ⟨μ, ρ, h, S, P⟩ := q
  refine rd_then S P fun μ1 h1 H1 x Xv e1 S1 r1 P1 => ?_
  exact P1 μ1 H1 Xv .refl S1.heap r1
theorem sRetN : PS X (.Return none pos) (rdS C W pi mRetN) := PS.imp ps_retN fun D σ H q => by
  obtain ⟨μ, ρ, h, S, P⟩ := q
  exact P μ H _ .refl S.heap sv_non
theorem sIte (hc : PT X c (rdT C W pi mt)) (ha : PSs X a (rdS C W pi ma)) (hb : PSs X b (rdS C W pi mb)) : PS X (.If c a b pos) (rdS C W pi (mIte mt ma mb)) := PS.imp (ps_if hc ha hb) fun D σ H q => by
  obtain ⟨μ, ρ, h, S, P⟩ := q
  refine rd_then S P fun μ1 h1 H1 x Xv e1 S1 r1 P1 => ?_
  subst r1
  cases x with
  | true => simp only [if_true] at P1 ⊢; exact ⟨μ1, ρ, h1, S1, P1⟩
  | false => simp only [Bool.false_eq_true, if_false] at P1 ⊢; exact ⟨μ1, ρ, h1, S1, P1⟩
def NoPin (pi : Pin) (t : Tg) : Prop := ∀ i w, pi = some (i, w) → i ∉ t.ix
theorem NoPin.none {t : Tg} : NoPin none t := fun _ _ e => nomatch e
theorem rd_asg {t : Tg} (hn : NoPin pi t) (q : rdS C W pi (mAsg me t) D σ H) : tAsg (rdE C W pi me) (t.rd C.K) D σ H := by
  obtain ⟨μ, ρ, h, S, P⟩ := q
  refine rd_then S P fun μ1 h1 H1 x Xv e1 S1 r1 P1 => ?_
  split at P1
  · rename_i ρ' e
    exact tg_sim e hn S1 r1 fun σ' S' _ => P1 μ1 σ' H1 .refl S'
  · exact P1.elim
theorem sSet (i : Nat) {x : Str} {pos' : Pos} (hn : NoPin pi (.name i)) (hN : X.N.Nodup) (he : PE X e (rdE C W pi me)) (hi : X.N[i]? = some x := by rfl) (hx : Loc X.env.scope x := by first | exact Or.inl rfl | exact Or.inr rfl)
    (hs : swapsWith e (some (.Name x pos')) pos.line X.env = pure false := by rfl) (hf : X.fn x = true ∨ X.env.scope.names.lookup x = some .local := by first | exact .inl rfl | exact .inr rfl) :
    PS X (.Assign [.Name x pos'] e pos) (rdS C W pi (mAsg me (.name i))) := PS.imp (ps_set hN hi hx he hs hf) fun D σ H q => by
  have := rd_asg hn q
  simpa only [Tg.rd] using this
theorem sAsg (t : Tg) (hn : NoPin pi t) (he : PE X e (rdE C W pi me)) (hg : PG X tg (t.rd C.K)) (hs : swapsWithSole [tg] e pos.line X.env = pure false := by rfl) (hw : swappedStores [tg] e X.env = pure none := by rfl)
    (h1 : (assignEach [tg] X.env).map (·.2) = [assign tg X.env] := by rfl) : PS X (.Assign [tg] e pos) (rdS C W pi (mAsg me t)) := PS.imp (ps_asg he hg hs hw h1) fun D σ H q => rd_asg hn q
/-- x op= e -/
def mAug (i : Nat) (f : MV → MV → MH → Out MV) (e : ME) : MS := fun ρ h => match ρ[i]? with
  | some (some x) => (e ρ h).then ρ fun y h1 => ((f x y h1).hard).then ρ fun z h2 => .nx (ρ.set i (some z)) h2
  | _ => .bad
theorem spost_bind {α β : Type} {R : Mu → Hp → α → β → Prop} {o : Out α} {g : α → MH → SO} {k : β → Hp → Prop} {μ : Mu} {ρ : En}
    (P : SPost C W pi D μ H (o.hard.then ρ g))
    (hk : ∀ μ1 h1 H1 x X, Ext μ H μ1 H1 → SimH C μ1 H1 h1 → R μ1 H1 x X → SPost C W pi D μ1 H1 (g x h1) → k X H1) : OPost C (fun _ _ _ _ => False) R μ H [] k o := by
  cases o with
  | ok x h1 => exact fun μ1 H1 X e1 hh r => hk μ1 h1 H1 x X e1 hh r (P.from e1)
  | er c h1 => exact P.elim
  | bad => exact P.elim
theorem sAug (i : Nat) {x : Str} {op : Operator} {ti : TIp} {f : MV → MV → MH → Out MV} {pos' : Pos} (hn : NoPin pi (.name i)) (hN : X.N.Nodup) (he : PE X e (rdE C W pi me)) (ho : PIp X op ti) (hfo : Op2 C f ti) (hi : X.N[i]? = some x := by rfl) (hx : Loc X.env.scope x := by first | exact Or.inl rfl | exact Or.inr rfl)
    (hf : X.fn x = true ∨ X.env.scope.names.lookup x = some .local := by first | exact .inl rfl | exact .inr rfl) : PS X (.AugAssign (.Name x pos') op e pos) (rdS C W pi (mAug i f me)) := PS.imp (ps_aug hN hi hx he ho hf) fun D σ H q => by
  obtain ⟨μ, ρ, h, S, P⟩ := q
  unfold mAug at P
  split at P
  · rename_i xv ex
    obtain ⟨Xv, e1, r1⟩ := S.env i _ ex
    refine ⟨Xv, e1, ?_⟩
    refine rd_then S P fun μ1 h1 H1 y Y e2 S1 r2 P1 => ?_
    refine hfo μ1 H1 h1 xv Xv y Y _ S1.heap (r1.ext e2) r2 (spost_bind (k := fun z H2 => D.nx (σ.set i (some z)) H2) P1 fun μ2 h2 H2 z Z e3 S2 r3 P2 => ?_)
    exact P2 μ2 _ H2 .refl ((S1.go e3 S2).set (fun v hv => hn i v hv (by simp [Tg.ix])) r3)
  · exact P.elim

/-! ### for -/
open Classical in
noncomputable def forLoop (chk : MH → Prop) (t : Tg) (body : MS) : List MV → En → MH → SO
  | [], ρ, h => if chk h then .nx ρ h else .bad
  | x :: xs, ρ, h => if chk h then (match t.set x ρ with
    | none => .bad
    | some ρ1 => match body ρ1 h with
      | .nx ρ' h' => forLoop chk t body xs ρ' h'
      | .ct ρ' h' => forLoop chk t body xs ρ' h'
      | .bk ρ' h' => .nx ρ' h'
      | o => o) else .bad
noncomputable def mFor (it : MI) (t : Tg) (body : MS) : MS := fun ρ h => (it ρ h).then ρ fun j h1 => forLoop j.chk t body j.items ρ h1
theorem rd_for {it : MI} {t : Tg} {body : MS} (hn : NoPin pi t) (q : rdS C W pi (mFor it t body) D σ H) : tFor (rdI C W pi it) (t.rd C.K) (rdS C W pi body) D σ H := by
  obtain ⟨μ, ρ, h, S, P⟩ := q
  refine rd_then S P fun μ1 h1 H1 j J e1 S1 r1 P1 => ?_
  refine ⟨fun i m σ' H' => ∃ μ' ρ' h', Ext μ1 H1 μ' H' ∧ SimS C pi μ' ρ' h' σ' H' ∧ m = (j.items.drop i).length ∧ SPost C W pi D μ' H' (forLoop j.chk t body (j.items.drop i) ρ' h'), ⟨_, μ1, ρ, h1, .refl, S1, rfl, by simpa using P1⟩, ?_⟩
  rintro i m σ' H' ⟨μ', ρ', h', e', S', rfl, P'⟩
  cases hd : j.items.drop i with
  | nil =>
    rw [hd] at P'
    unfold forLoop at P'
    split at P'
    · rename_i hc
      have hle : j.items.length ≤ i := by
        have := congrArg List.length hd
        simp at this; omega
      exact .inl ⟨(r1 i μ' H' h' e'.two S'.heap hc).1 hle, P' μ' σ' H' .refl S'⟩
    · exact P'.elim
  | cons x xs =>
    rw [hd] at P'
    unfold forLoop at P'
    split at P'
    · rename_i hc
      have hx : j.items[i]? = some x := by
        have : (j.items.drop i)[0]? = some x := by rw [hd]; rfl
        simpa using this
      have hxs : j.items.drop (i + 1) = xs := by
        have : (j.items.drop i).drop 1 = xs := by rw [hd]; rfl
        rw [List.drop_drop] at this; exact this
      obtain ⟨_, k2⟩ := r1 i μ' H' h' e'.two S'.heap hc
      obtain ⟨go, yl⟩ := k2 x hx
      refine .inr ⟨go, fun σ2 H2 => ∃ μ2 ρ2 h2, Ext μ1 H1 μ2 H2 ∧ SimS C pi μ2 ρ2 h2 σ2 H2 ∧ SPost C W pi D μ2 H2 (forLoop j.chk t body xs ρ2 h2), ?_, fun Vv H2 y => ?_⟩
      · rintro σ2 H2 ⟨μ2, ρ2, h2, e2, S2, P2⟩
        exact ⟨xs.length, by simp, μ2, ρ2, h2, e2, S2, by rw [hxs], by rw [hxs]; exact P2⟩
      · obtain ⟨e2, S2, r2⟩ := yl Vv H2 y
        split at P'
        · exact P'.elim
        · rename_i ρ1 es
          refine tg_sim es hn (S'.go e2 S2) r2 fun σ3 S3 _ => ?_
          refine ⟨μ', ρ1, h', S3, ?_⟩
          have P2 := P'.from e2
          cases eb : body ρ1 h' with
          | nx ρ4 h4 =>
            rw [eb] at P2
            exact fun μ4 σ4 H4 e4 S4 => ⟨μ4, ρ4, h4, (e'.trans e2).trans e4, S4, P2.from e4⟩
          | ct ρ4 h4 =>
            rw [eb] at P2
            exact fun μ4 σ4 H4 e4 S4 => ⟨μ4, ρ4, h4, (e'.trans e2).trans e4, S4, P2.from e4⟩
          | bk ρ4 h4 => rw [eb] at P2; exact P2
          | rt v h4 => rw [eb] at P2; exact P2
          | er c ρ4 h4 => rw [eb] at P2; exact P2
          | bad => rw [eb] at P2; exact P2.elim
    · exact P'.elim
theorem sFor {iter : Expr} {body : List Stmt} {it : MI} {mb : MS} (t : Tg) (hp : PassesOwn (model X.prog X.w) X.A X.env X.xe) (hc : X.calm = true) (hn : NoPin pi t) (hi : PI X tg iter (rdI C W pi it)) (hg : PG X tg (t.rd C.K)) (hb : PSs X body (rdS C W pi mb))
    (hs : ∀ x, foldedSetIterable iter X.env x = pure x := by intro _; rfl) : PS X (.For tg iter body [] pos) (rdS C W pi (mFor it t mb)) := PS.imp (ps_for hp hc hi hg hb hs) fun D σ H q => rd_for hn q

/-! ### while, with so much fuel -/
def whileLoop (c : MT) (body : MS) : Nat → En → MH → SO
  | 0, _, _ => .bad
  | n + 1, ρ, h => (c ρ h).then ρ fun b h1 => if b = true then (match body ρ h1 with
    | .nx ρ' h' => whileLoop c body n ρ' h'
    | .ct ρ' h' => whileLoop c body n ρ' h'
    | .bk ρ' h' => .nx ρ' h'
    | o => o) else .nx ρ h1
def mWhile (n : Nat) (c : MT) (body : MS) : MS := fun ρ h => whileLoop c body n ρ h
theorem rd_while {n : Nat} {c : MT} {body : MS} (q : rdS C W pi (mWhile n c body) D σ H) : tWhile (rdT C W pi c) (rdS C W pi body) D σ H := by
  obtain ⟨μ, ρ, h, S, P⟩ := q
  refine ⟨fun m σ' H' => ∃ μ' ρ' h', SimS C pi μ' ρ' h' σ' H' ∧ SPost C W pi D μ' H' (whileLoop c body m ρ' h'), ⟨n, μ, ρ, h, S, P⟩, ?_⟩
  rintro m σ' H' ⟨μ', ρ', h', S', P'⟩
  cases m with
  | zero => exact P'.elim
  | succ m =>
    unfold whileLoop at P'
    refine rd_then S' P' fun μ1 h1 H1 x Xv e1 S1 r1 P1 => ?_
    subst r1
    cases x with
    | false => simp only [Bool.false_eq_true, if_false] at P1 ⊢; exact P1 μ1 σ' H1 .refl S1
    | true =>
      simp only [if_true] at P1 ⊢
      refine ⟨fun σ2 H2 => ∃ μ2 ρ2 h2, SimS C pi μ2 ρ2 h2 σ2 H2 ∧ SPost C W pi D μ2 H2 (whileLoop c body m ρ2 h2), ?_, ?_⟩
      · rintro σ2 H2 ⟨μ2, ρ2, h2, S2, P2⟩
        exact ⟨m, Nat.lt_succ_self m, μ2, ρ2, h2, S2, P2⟩
      · refine ⟨μ1, ρ', h1, S1, ?_⟩
        cases eb : body ρ' h1 with
        | nx ρ4 h4 => rw [eb] at P1; exact fun μ4 σ4 H4 e4 S4 => ⟨μ4, ρ4, h4, S4, P1.from e4⟩
        | ct ρ4 h4 => rw [eb] at P1; exact fun μ4 σ4 H4 e4 S4 => ⟨μ4, ρ4, h4, S4, P1.from e4⟩
        | bk ρ4 h4 => rw [eb] at P1; exact P1
        | rt v h4 => rw [eb] at P1; exact P1
        | er c ρ4 h4 => rw [eb] at P1; exact P1
        | bad => rw [eb] at P1; exact P1.elim
theorem sWhile {c : Expr} {body : List Stmt} {mc : MT} {mb : MS} (n : Nat) (hp : PassesOwn (model X.prog X.w) X.A X.env X.xe) (hc : PT X c (rdT C W pi mc)) (hb : PSs X body (rdS C W pi mb)) : PS X (.While c body [] pos) (rdS C W pi (mWhile n mc mb)) :=
  PS.imp (ps_while hp hc hb) fun D σ H q => rd_while q
end
end Mini
end

section
set_option Elab.async false
set_option linter.all false
set_option maxRecDepth 100000
set_option maxHeartbeats 2000000
/-! Mini: comprehensions. -/
namespace Mini
open PySem L2
def wipeM (ρ : En) : List Nat → En
  | [] => ρ
  | v :: vs => (wipeM ρ vs).set v none
theorem wipe_get (σ : L2.St) : ∀ (vs : List Nat) (j : Nat), (L2.wipe σ vs)[j]? = if j ∈ vs then (σ[j]?).map (fun _ => none) else σ[j]?
  | [], j => by simp [L2.wipe]
  | v :: vs, j => by
    unfold L2.wipe
    rw [List.getElem?_set, wipe_get σ vs j]
    by_cases e : v = j
    · subst e
      simp only [if_true, List.mem_cons, true_or, L2.wipe_length]
      by_cases hl : v < σ.length
      · simp [hl]
      · simp [hl, List.getElem?_eq_none_iff.mpr (Nat.le_of_not_lt hl)]
    · have e' : ¬ j = v := fun q => e q.symm
      simp [e, e']
theorem wipeM_get (ρ : En) : ∀ (vs : List Nat) (j : Nat) (m : MV), (wipeM ρ vs)[j]? = some (some m) → ρ[j]? = some (some m) ∧ j ∉ vs
  | [], j, m, h => ⟨h, by simp⟩
  | v :: vs, j, m, h => by
    unfold wipeM at h
    rw [List.getElem?_set] at h
    by_cases e : v = j
    · subst e; simp at h
    · simp [e] at h
      obtain ⟨a, b⟩ := wipeM_get ρ vs j m h
      exact ⟨a, by simp [b]; exact fun q => e q.symm⟩
theorem wipeM_length (ρ : En) : ∀ vs : List Nat, (wipeM ρ vs).length = ρ.length
  | [] => rfl
  | v :: vs => by unfold wipeM; rw [List.length_set]; exact wipeM_length ρ vs
open Classical in
noncomputable def compLoop (chk : MH → Prop) (t : Tg) (cond : MT) (elt : ME) (ρ : En) : List MV → List MV → MH → Out (List MV)
  | [], acc, h => if chk h then .ok acc h else .bad
  | x :: xs, acc, h => if chk h then (match t.set x ρ with
    | none => .bad
    | some ρ2 => ((cond ρ2 h).hard).bind fun b h1 => if b = true then ((elt ρ2 h1).hard).bind fun y h2 => if acc.length < sizeLine then compLoop chk t cond elt ρ xs (acc ++ [y]) h2 else .bad else compLoop chk t cond elt ρ xs acc h1) else .bad
noncomputable def mLc (own : List Nat) (it : MI) (t : Tg) (cond : MT) (elt : ME) : ME := fun ρ h => (it ρ h).bind fun j h1 => (compLoop j.chk t cond elt (wipeM ρ own) j.items [] h1).hard.bind fun ys h2 => .ok (.lst ys) h2
noncomputable def mLcH (own : List Nat) (it : MI) (t : Tg) (cond : MT) (elt : ME) : ME := fun ρ h => (it ρ h).bind fun j h1 => (compLoop j.chk t cond elt (wipeM ρ own) j.items [] h1).hard.bind fun ys h2 => .ok (.ref h2.length) (h2 ++ [.lst ys])
def mYes : MT := fun _ h => .ok true h
abbrev WF : WX := fun _ _ _ _ => False

section
variable {C : SC} {W : WX} {pi : Pin} {X : Cx} {σ : L2.St} {H : Hp} {Q : VK}
/-- D set apart, and let go again -/
def Mu.apart (μ : Mu) (D : Addr) : Mu := ⟨μ.c, D :: μ.n⟩
theorem Ext2.in {μ : Mu} {D : Addr} {o : HO} (hD : H D = none) : Ext2 μ H (μ.apart D) (upd H D o) := by
  refine ⟨fun a u ha hm => ⟨by rw [upd_ne (ne_of_none ha hD)]; exact ha, ?_⟩, fun _ _ e => .inl e⟩
  rintro (q | q)
  · exact hm (.inl q)
  · rcases List.mem_cons.mp q with q | q
    · subst q; rw [hD] at ha; cases ha
    · exact hm (.inr q)
theorem Ext2.out {c : List (Option Addr)} {n : List Addr} {D : Addr} {H : Hp} : Ext2 ⟨c, D :: n⟩ H ⟨c, n⟩ H := by
  refine ⟨fun a u ha hm => ⟨ha, ?_⟩, fun _ _ e => .inl e⟩
  rintro (q | q)
  · exact hm (.inl q)
  · exact hm (.inr (List.mem_cons_of_mem _ q))
theorem Ext2.at {c : List (Option Addr)} {n : List Addr} {D : Addr} {H : Hp} {o : HO} : Ext2 ⟨c, D :: n⟩ H ⟨c, D :: n⟩ (upd H D o) :=
  ⟨fun a u ha hm => ⟨by rw [upd_ne (fun e => hm (.inr (by rw [e]; exact List.mem_cons_self)))]; exact ha, hm⟩, fun _ _ e => .inl e⟩
theorem CellOk.ext2 {μ μ' : Mu} {H' : Hp} (e : Ext2 μ H μ' H') {o : MO} {x : Option Addr} (ha : ∀ a, x = some a → H' a = H a) (c : CellOk C μ H o x) : CellOk C μ' H' o x := by
  cases o with
  | gone => exact c
  | lst xs => obtain ⟨a, vs, e1, e2, e3⟩ := c; exact ⟨a, vs, e1, by rw [ha a e1]; exact e2, e3.ext2 e⟩
  | dct ks xs => obtain ⟨a, vs, e1, e2, e3, e4⟩ := c; exact ⟨a, vs, e1, by rw [ha a e1]; exact e2, e3, e4.ext2 e⟩
  | ins c' ns xs => obtain ⟨a, Ca, dx, fs, e1, e0, e2, e3, e4⟩ := c; exact ⟨a, Ca, dx, fs, e1, e0, by rw [ha a e1]; exact e2, e3, e4.ext2 e⟩
theorem SimH.in {μ : Mu} {h : MH} (S : SimH C μ H h) {D : Addr} {o : HO} (hD : H D = none) : SimH C (μ.apart D) (upd H D o) h := by
  have nf := S.fresh hD
  refine ⟨S.len, fun a ha => ?_, fun i a e => ?_, S.inj, fun i ob x e1 e2 => (S.cell i ob x e1 e2).ext2 (Ext2.in hD) fun a ex => ?_⟩
  · rcases List.mem_cons.mp ha with q | q
    · subst q; rw [upd_same]; simp
    · rw [upd_ne (ne_has nf (.inr q))]; exact S.nn a q
  · intro ha
    rcases List.mem_cons.mp ha with q | q
    · subst q; exact nf (Mu.has_ix e)
    · exact S.dis i a e q
  · subst ex; exact upd_ne (ne_has nf (Mu.has_ix e2))
theorem SimH.out {c : List (Option Addr)} {n : List Addr} {D : Addr} {h : MH} (S : SimH C ⟨c, D :: n⟩ H h) : SimH C ⟨c, n⟩ H h :=
  ⟨S.len, fun a ha => S.nn a (List.mem_cons_of_mem _ ha), fun i a e q => S.dis i a e (List.mem_cons_of_mem _ q), S.inj, fun i ob x e1 e2 => (S.cell i ob x e1 e2).ext2 Ext2.out fun _ _ => rfl⟩
theorem SimH.at' {c : List (Option Addr)} {n : List Addr} {D : Addr} {h : MH} {o : HO} (S : SimH C ⟨c, D :: n⟩ H h) : SimH C ⟨c, D :: n⟩ (upd H D o) h := by
  refine ⟨S.len, fun a ha => ?_, S.dis, S.inj, fun i ob x e1 e2 => (S.cell i ob x e1 e2).ext2 Ext2.at fun a ex => ?_⟩
  · by_cases e : a = D
    · subst e; rw [upd_same]; simp
    · rw [upd_ne e]; exact S.nn a ha
  · subst ex
    exact upd_ne fun e => S.dis i a e2 (by rw [e]; exact List.mem_cons_self)
theorem simE_wipe {μ : Mu} {ρ : En} {h : MH} (S : SimS C pi μ ρ h σ H) (own : List Nat) : SimS C none μ (wipeM ρ own) h (L2.wipe σ own) H := by
  refine ⟨by rw [wipeM_length, L2.wipe_length]; exact S.len, fun i m e => ?_, S.heap, fun _ _ e => nomatch e⟩
  obtain ⟨e1, e2⟩ := wipeM_get ρ own i m e
  obtain ⟨v, h1, h2⟩ := S.env i m e1
  exact ⟨v, by rw [wipe_get, if_neg e2]; exact h1, h2⟩
theorem wipe_eq {σ2 : L2.St} {own ix : List Nat} (hs : ∀ j ∈ ix, j ∈ own) (hl : σ2.length = σ.length) (k : ∀ j, j ∉ ix → σ2[j]? = (L2.wipe σ own)[j]?) : L2.wipe σ2 own = L2.wipe σ own := by
  refine List.ext_getElem? fun j => ?_
  rw [wipe_get, wipe_get]
  by_cases e : j ∈ own
  · rw [if_pos e, if_pos e]
    by_cases hj : j < σ.length
    · rw [List.getElem?_eq_getElem (by omega), List.getElem?_eq_getElem hj]; rfl
    · rw [List.getElem?_eq_none_iff.mpr (by omega), List.getElem?_eq_none_iff.mpr (by omega)]
  · rw [if_neg e, if_neg e, k j (fun q => e (hs j q)), wipe_get, if_neg e]
/-- without D -/
def erase (H : Hp) (D : Addr) : Hp := fun a => if a = D then none else H a
theorem erase_at {H : Hp} {D : Addr} : erase H D D = none := by unfold erase; rw [if_pos rfl]
theorem erase_ne {H : Hp} {D a : Addr} (h : a ≠ D) : erase H D a = H a := by unfold erase; rw [if_neg h]
theorem erase_upd {H : Hp} {D : Addr} {o : HO} : erase (upd H D o) D = erase H D := by
  funext a
  by_cases e : a = D
  · rw [e, erase_at, erase_at]
  · rw [erase_ne e, erase_ne e, upd_ne e]
theorem upd_erase {H : Hp} {D : Addr} {o : HO} (h : H D = some o) : upd (erase H D) D o = H := by
  funext a
  by_cases e : a = D
  · rw [e, upd_same, h]
  · rw [upd_ne e, erase_ne e]
theorem erase_none {H : Hp} {D : Addr} (h : H D = none) : erase H D = H := by
  funext a
  by_cases e : a = D
  · rw [e, erase_at, h]
  · rw [erase_ne e]
theorem Ext2.era {c : List (Option Addr)} {n : List Addr} {D : Addr} {H : Hp} : Ext2 ⟨c, D :: n⟩ H ⟨c, n⟩ (erase H D) := by
  refine ⟨fun a u ha hm => ⟨?_, ?_⟩, fun _ _ e => .inl e⟩
  · rw [erase_ne fun e => hm (.inr (by rw [e]; exact List.mem_cons_self))]; exact ha
  · rintro (q | q)
    · exact hm (.inl q)
    · exact hm (.inr (List.mem_cons_of_mem _ q))
theorem SimH.era {c : List (Option Addr)} {n : List Addr} {D : Addr} {h : MH} (S : SimH C ⟨c, D :: n⟩ H h) (hn : D ∉ n) : SimH C ⟨c, n⟩ (erase H D) h := by
  refine ⟨S.len, fun a ha => ?_, fun i a e q => S.dis i a e (List.mem_cons_of_mem _ q), S.inj, fun i ob x e1 e2 => (S.cell i ob x e1 e2).ext2 Ext2.era fun a ex => ?_⟩
  · rw [erase_ne fun e => hn (by rw [← e]; exact ha)]
    exact S.nn a (List.mem_cons_of_mem _ ha)
  · subst ex
    exact erase_ne fun e => S.dis i a e2 (by rw [e]; exact List.mem_cons_self)
theorem Ext.era {c c4 : List (Option Addr)} {n : List Addr} {D : Addr} {H H4 : Hp} (e : Ext ⟨c, D :: n⟩ H ⟨c4, D :: n⟩ H4) : Ext ⟨c, n⟩ (erase H D) ⟨c4, n⟩ (erase H4 D) := by
  refine ⟨fun a o ha hm => ?_, e.2.1, rfl, fun a ha => ?_⟩
  · have hne : a ≠ D := fun q => by rw [q, erase_at] at ha; cases ha
    rw [erase_ne hne] at ha
    obtain ⟨k1, k2⟩ := e.1 a o ha (by
      rintro (q | q)
      · exact hm (.inl q)
      · rcases List.mem_cons.mp q with q | q
        · exact hne q
        · exact hm (.inr q))
    refine ⟨by rw [erase_ne hne]; exact k1, ?_⟩
    rintro (q | q)
    · exact k2 (.inl q)
    · exact k2 (.inr (List.mem_cons_of_mem _ q))
  · by_cases q : a = D
    · rw [q, erase_at, erase_at]
    · rw [erase_ne q, erase_ne q]; exact e.2.2.2 a (List.mem_cons_of_mem _ ha)
theorem hard_ok {α : Type} (a : α) (h : MH) : (Out.ok a h).hard = .ok a h := rfl
theorem bind_ok {α β : Type} (a : α) (h : MH) (f : α → MH → Out β) : (Out.ok a h).bind f = f a h := rfl
mutual
theorem tgset_len : ∀ {t : Tg} {v : MV} {ρ ρ' : En}, t.set v ρ = some ρ' → ρ'.length = ρ.length
  | .name i, v, ρ, ρ', e => by
    simp only [Tg.set, Option.some.injEq] at e
    subst e; simp
  | .tup ts, v, ρ, ρ', e => by
    simp only [Tg.set] at e
    split at e
    · exact tgsets_len e
    · cases e
theorem tgsets_len : ∀ {ts : List Tg} {xs : List MV} {ρ ρ' : En}, Tg.sets ts xs ρ = some ρ' → ρ'.length = ρ.length
  | [], [], ρ, ρ', e => by
    simp only [Tg.sets, Option.some.injEq] at e
    subst e; rfl
  | [], _ :: _, _, _, e => by simp [Tg.sets] at e
  | _ :: _, [], _, _, e => by simp [Tg.sets] at e
  | t :: ts, x :: xs, ρ, ρ', e => by
    simp only [Tg.sets, Option.bind_eq_some_iff] at e
    obtain ⟨ρ1, e1, e2⟩ := e
    rw [tgsets_len e2, tgset_len e1]
end
theorem lc_main {own : List Nat} {it : MI} {t : Tg} {cond : MT} {elt : ME} {fin : List MV → MH → Out MV} (hs : ∀ j ∈ t.ix, j ∈ own)
    (hf : ∀ μ H h ys vs D, SimH C μ H h → H D = none → SimVs C μ H ys vs → OPost C W (SimV C) μ H σ Q (fin ys h) → Q (.ref D) (upd H D (.lst vs)))
    (q : rdE C W pi (fun ρ h => (it ρ h).bind fun j h1 => (compLoop j.chk t cond elt (wipeM ρ own) j.items [] h1).hard.bind fin) σ H Q) :
    tLc (rdI C W pi it) (t.rd C.K) (rdT C WF none cond) (rdE C WF none elt) own σ H Q := by
  obtain ⟨μ, ρ, h, S, P⟩ := q
  refine rd_bind S P fun μ1 h1 H1 j J e1 S1 r1 P1 => ?_
  intro D hD
  have nD := S1.heap.fresh hD
  have nDn : D ∉ μ1.n := fun q => nD (.inr q)
  -- what holds ahead of the rest xs of the items
  let Iv : List MV → Hp → Prop := fun xs H' => ∃ c' h' acc vs, Ext μ1 H1 ⟨c', μ1.n⟩ (erase H' D) ∧ SimH C ⟨c', D :: μ1.n⟩ H' h' ∧ H' D = some (.lst vs) ∧ SimVs C ⟨c', D :: μ1.n⟩ H' acc vs ∧
    OPost C W (SimV C) μ1 H1 σ Q ((compLoop j.chk t cond elt (wipeM ρ own) xs acc h').hard.bind fin)
  refine ⟨fun i m H' => m = (j.items.drop i).length ∧ Iv (j.items.drop i) H', ⟨_, rfl, μ1.c, h1, [], [], ?_, S1.heap.in hD, upd_same, .nil, by simpa using P1⟩, ?_⟩
  · rw [erase_upd, erase_none hD]; exact .refl
  rintro i m H' ⟨rfl, c', h', acc, vs, eb, S', hv, ra, P'⟩
  have e2 : Ext2 μ1 H1 ⟨c', D :: μ1.n⟩ H' := by
    have := eb.two.trans (Ext2.in (o := .lst vs) (erase_at (H := H') (D := D)))
    rw [upd_erase hv] at this; exact this
  cases hd : j.items.drop i with
  | nil =>
    rw [hd] at P'
    unfold compLoop at P'
    split at P'
    · rename_i hc
      have hle : j.items.length ≤ i := by
        have := congrArg List.length hd
        simp at this; omega
      refine .inl ⟨(r1 i _ H' h' e2 S' hc).1 hle, ?_⟩
      have := hf ⟨c', μ1.n⟩ (erase H' D) h' acc vs D (S'.era nDn) erase_at (ra.ext2 Ext2.era) (P'.from eb)
      rw [upd_erase hv] at this; exact this
    · exact P'.elim
  | cons x xs =>
    rw [hd] at P'
    unfold compLoop at P'
    split at P'
    · rename_i hc
      have hx : j.items[i]? = some x := by
        have : (j.items.drop i)[0]? = some x := by rw [hd]; rfl
        simpa using this
      have hxs : j.items.drop (i + 1) = xs := by
        have : (j.items.drop i).drop 1 = xs := by rw [hd]; rfl
        rw [List.drop_drop] at this; exact this
      obtain ⟨go, yl⟩ := (r1 i _ H' h' e2 S' hc).2 x hx
      refine .inr ⟨go, Iv xs, fun H2 q => ⟨xs.length, by simp, by rw [hxs], by rw [hxs]; exact q⟩, fun Vv H2 y => ?_⟩
      obtain ⟨e3, S3, r3⟩ := yl Vv H2 y
      split at P'
      · exact P'.elim
      · rename_i ρ2 es
        have Sw := simE_wipe S1 own
        have S4 : SimS C none ⟨c', D :: μ1.n⟩ (wipeM ρ own) h' (L2.wipe σ own) H2 :=
          ⟨Sw.len, fun i m q => let ⟨v, k1, k2⟩ := Sw.env i m q; ⟨v, k1, (k2.ext2 e2).ext e3⟩, S3, fun _ _ e => nomatch e⟩
        refine tg_sim (pi := none) es (fun _ _ e => nomatch e) S4 r3 fun σ2 S5 k5 => ?_
        refine ⟨wipe_eq hs ?_ k5, ?_⟩
        · rw [← S5.len, ← S1.len, tgset_len es, wipeM_length]
        refine ⟨⟨c', D :: μ1.n⟩, ρ2, h', S5, ?_⟩
        -- the condition
        cases ec : cond ρ2 h' with
        | er c h3 => rw [ec] at P'; exact P'.elim
        | bad => rw [ec] at P'; exact P'.elim
        | ok b h3 =>
          rw [ec] at P'
          intro μ3 H3 b' e6 S6 eb'
          subst eb'
          obtain ⟨c3, n3⟩ := μ3
          obtain rfl : n3 = D :: μ1.n := e6.2.2.1
          have v3 : H3 D = some (.lst vs) := by
            rw [e6.2.2.2 D List.mem_cons_self, e3.2.2.2 D List.mem_cons_self]; exact hv
          have eb3 : Ext μ1 H1 ⟨c3, μ1.n⟩ (erase H3 D) := eb.trans ((e3.trans e6).era)
          simp only [hard_ok, bind_ok] at P'
          cases b with
          | false =>
            simp only [Bool.false_eq_true, if_false] at P' ⊢
            exact ⟨c3, h3, acc, vs, eb3, S6, v3, (ra.ext e3).ext e6, P'⟩
          | true =>
            simp only [if_true] at P' ⊢
            refine ⟨⟨c3, D :: μ1.n⟩, ρ2, h3, S5.go e6 S6, ?_⟩
            cases ee : elt ρ2 h3 with
            | er c h4 => rw [ee] at P'; exact P'.elim
            | bad => rw [ee] at P'; exact P'.elim
            | ok y h4 =>
              rw [ee] at P'
              intro μ4 H4 Y e7 S7 r7
              obtain ⟨c4, n4⟩ := μ4
              obtain rfl : n4 = D :: μ1.n := e7.2.2.1
              have v4 : H4 D = some (.lst vs) := by rw [e7.2.2.2 D List.mem_cons_self]; exact v3
              have eb4 : Ext μ1 H1 ⟨c4, μ1.n⟩ (erase H4 D) := eb3.trans e7.era
              simp only [hard_ok, bind_ok] at P'
              have ra4 := ((ra.ext e3).ext e6).ext e7
              by_cases hz : acc.length < sizeLine
              · rw [if_pos hz] at P'
                refine ⟨vs, v4, by rw [ra4.length]; exact hz, c4, h4, acc ++ [y], vs ++ [Y], by rw [erase_upd]; exact eb4, S7.at', upd_same, ?_, P'⟩
                exact (ra4.append (.cons r7 .nil)).ext2 Ext2.at
              · rw [if_neg hz] at P'
                exact P'.elim
    · exact P'.elim
theorem rd_lc {own : List Nat} {it : MI} {t : Tg} {cond : MT} {elt : ME} (hs : ∀ j ∈ t.ix, j ∈ own) (q : rdE C W pi (mLc own it t cond elt) σ H Q) :
    tLc (rdI C W pi it) (t.rd C.K) (rdT C WF none cond) (rdE C WF none elt) own σ H Q :=
  lc_main hs (fun μ H h ys vs D S hD r P => fin_lst S P r hD) q
theorem rd_lcH {own : List Nat} {it : MI} {t : Tg} {cond : MT} {elt : ME} (hs : ∀ j ∈ t.ix, j ∈ own) (q : rdE C W pi (mLcH own it t cond elt) σ H Q) :
    tLc (rdI C W pi it) (t.rd C.K) (rdT C WF none cond) (rdE C WF none elt) own σ H Q :=
  lc_main hs (fun μ H h ys vs D S hD r P => fin_cell S P r hD) q
theorem qNil : PTs X [] (rdT C W pi mYes) := by
  have k := pts_nil (X := X)
  refine ⟨fun pins s σ H Q I q => k.run pins s σ H Q I ?_⟩
  obtain ⟨μ, ρ, h, S, P⟩ := q
  exact P μ H _ .refl S.heap rfl
theorem qOne {c : Expr} {t : MT} (h : PT X c (rdT C W pi t)) : PTs X [c] (rdT C W pi t) := pts_one h
variable {elt tg iter : Expr} {ifs : List Expr} {scope : Scope} {own : List (Str × Nat)} {pos : Pos} {it : MI} {cond : MT} {me : ME}
theorem sLc (t : Tg) (hs : ∀ j ∈ t.ix, j ∈ own.map (·.2)) (hc : X.calm = true) (hN : X.N.Nodup) (ok : BlkOk X.N X.env.scope scope own) (hi : PI X tg iter (rdI C W pi it))
    (hg : ∀ (s : Shared) (H : Hp) (Ca : Addr) (cl : List (Str × Addr)) (fp : List Addr), PG (X.blk s H scope (compEnvC scope cl Ca X.env) fp) tg (t.rd C.K)) (ht : ∀ (s : Shared) (H : Hp) (Ca : Addr) (cl : List (Str × Addr)) (fp : List Addr), PTs (X.blk s H scope (compEnvC scope cl Ca X.env) fp) ifs (rdT C WF none cond))
    (he : ∀ (s : Shared) (H : Hp) (Ca : Addr) (cl : List (Str × Addr)) (fp : List Addr), PE (X.blk s H scope (compEnvC scope cl Ca X.env) fp) elt (rdE C WF none me)) (hf : ∀ x, foldedSetIterable iter X.env x = pure x := by intro _; rfl) :
    PE X (.ListComp elt [⟨tg, iter, ifs, 0⟩] scope pos) (rdE C W pi (mLc (own.map (·.2)) it t cond me)) := PE.imp (pe_lc hc hN hi ok hg ht he hf) fun σ H Q => rd_lc hs
theorem sLcH (t : Tg) (hs : ∀ j ∈ t.ix, j ∈ own.map (·.2)) (hc : X.calm = true) (hN : X.N.Nodup) (ok : BlkOk X.N X.env.scope scope own) (hi : PI X tg iter (rdI C W pi it))
    (hg : ∀ (s : Shared) (H : Hp) (Ca : Addr) (cl : List (Str × Addr)) (fp : List Addr), PG (X.blk s H scope (compEnvC scope cl Ca X.env) fp) tg (t.rd C.K)) (ht : ∀ (s : Shared) (H : Hp) (Ca : Addr) (cl : List (Str × Addr)) (fp : List Addr), PTs (X.blk s H scope (compEnvC scope cl Ca X.env) fp) ifs (rdT C WF none cond))
    (he : ∀ (s : Shared) (H : Hp) (Ca : Addr) (cl : List (Str × Addr)) (fp : List Addr), PE (X.blk s H scope (compEnvC scope cl Ca X.env) fp) elt (rdE C WF none me)) (hf : ∀ x, foldedSetIterable iter X.env x = pure x := by intro _; rfl) :
    PE X (.ListComp elt [⟨tg, iter, ifs, 0⟩] scope pos) (rdE C W pi (mLcH (own.map (·.2)) it t cond me)) := PE.imp (pe_lc hc hN hi ok hg ht he hf) fun σ H Q => rd_lcH hs
/-- y = [..] -/
theorem rd_asgBy {m : ME} {tl : TE} {i : Nat} {D : Ends} (hn : NoPin pi (.name i)) (hm : ∀ {σ : L2.St} {H : Hp} {Q : VK}, rdE C W pi m σ H Q → tl σ H Q) (q : rdS C W pi (mAsg m (.name i)) D σ H) : tAsg tl (gName i) D σ H := by
  have := rd_asg (me := m) (t := .name i) hn q
  exact hm this
theorem sSetLc (i : Nat) {y : Str} {py spos : Pos} (hn : NoPin pi (.name i)) (t : Tg) (hs : ∀ j ∈ t.ix, j ∈ own.map (·.2)) (hc : X.calm = true) (hN : X.N.Nodup) (hyl : X.env.scope.names.lookup y = some .local) (hsw : swapsWith (.ListComp elt [⟨tg, iter, ifs, 0⟩] scope pos) (some (.Name y py)) spos.line X.env = pure true) (ok : BlkOk X.N X.env.scope scope own) (hi : PI X tg iter (rdI C W pi it))
    (hg : ∀ (s : Shared) (H : Hp) (Ca : Addr) (cl : List (Str × Addr)) (fp : List Addr), PG (X.blk s H scope (compEnvC scope cl Ca X.env) fp) tg (t.rd C.K)) (ht : ∀ (s : Shared) (H : Hp) (Ca : Addr) (cl : List (Str × Addr)) (fp : List Addr), PTs (X.blk s H scope (compEnvC scope cl Ca X.env) fp) ifs (rdT C WF none cond))
    (he : ∀ (s : Shared) (H : Hp) (Ca : Addr) (cl : List (Str × Addr)) (fp : List Addr), PE (X.blk s H scope (compEnvC scope cl Ca X.env) fp) elt (rdE C WF none me)) (hy : X.N[i]? = some y := by rfl) (hf : ∀ x, foldedSetIterable iter X.env x = pure x := by intro _; rfl) :
    PS X (.Assign [.Name y py] (.ListComp elt [⟨tg, iter, ifs, 0⟩] scope pos) spos) (rdS C W pi (mAsg (mLc (own.map (·.2)) it t cond me) (.name i))) :=
  PS.imp (ps_setLc hc hN hy hyl hsw hi ok hg ht he hf) fun D σ H q => rd_asgBy hn (rd_lc hs) q
theorem sSetLcH (i : Nat) {y : Str} {py spos : Pos} (hn : NoPin pi (.name i)) (t : Tg) (hs : ∀ j ∈ t.ix, j ∈ own.map (·.2)) (hc : X.calm = true) (hN : X.N.Nodup) (hyl : X.env.scope.names.lookup y = some .local) (hsw : swapsWith (.ListComp elt [⟨tg, iter, ifs, 0⟩] scope pos) (some (.Name y py)) spos.line X.env = pure true) (ok : BlkOk X.N X.env.scope scope own) (hi : PI X tg iter (rdI C W pi it))
    (hg : ∀ (s : Shared) (H : Hp) (Ca : Addr) (cl : List (Str × Addr)) (fp : List Addr), PG (X.blk s H scope (compEnvC scope cl Ca X.env) fp) tg (t.rd C.K)) (ht : ∀ (s : Shared) (H : Hp) (Ca : Addr) (cl : List (Str × Addr)) (fp : List Addr), PTs (X.blk s H scope (compEnvC scope cl Ca X.env) fp) ifs (rdT C WF none cond))
    (he : ∀ (s : Shared) (H : Hp) (Ca : Addr) (cl : List (Str × Addr)) (fp : List Addr), PE (X.blk s H scope (compEnvC scope cl Ca X.env) fp) elt (rdE C WF none me)) (hy : X.N[i]? = some y := by rfl) (hf : ∀ x, foldedSetIterable iter X.env x = pure x := by intro _; rfl) :
    PS X (.Assign [.Name y py] (.ListComp elt [⟨tg, iter, ifs, 0⟩] scope pos) spos) (rdS C W pi (mAsg (mLcH (own.map (·.2)) it t cond me) (.name i))) :=
  PS.imp (ps_setLc hc hN hy hyl hsw hi ok hg ht he hf) fun D σ H q => rd_asgBy hn (rd_lcH hs) q
end
end Mini
end

section
set_option Elab.async false
set_option linter.all false
set_option maxRecDepth 100000
set_option maxHeartbeats 2000000
/-! Mini: defs, calls, exceptions. -/
namespace Mini
open PySem L2 PyProof.Rows
abbrev MFun := List MV → MH → Out MV
def spOf (C : SC) (n : Nat) (f : MFun) : Sp := fun vs H Q E => ∃ μ h ms, ms.length = n ∧ SimVs C μ H ms vs ∧ SimH C μ H h ∧ OPost C (fun cls d _ H => E cls d H) (SimV C) μ H [] Q (f ms h)
def mDef (n ar : Nat) (body : MS) : MFun := fun ms h => if ms.length = ar then (match body (ms.map some ++ List.replicate (n - ar) none) h with
  | .nx _ h' => .ok .non h'
  | .rt v h' => .ok v h'
  | .er c _ h' => .er c h'
  | _ => .bad) else .bad
def noFun : MFun := fun _ _ => .bad
def mCall (n : Nat) (f : MFun) (m : MA) : ME := fun ρ h => (m ρ h).bind fun xs h1 => if xs.length = n then f xs h1 else .bad

section
variable {C : SC} {W : WX} {pi : Pin} {X : Cx} {σ : L2.St} {H : Hp}
theorem spOf_len {n : Nat} {f : MFun} {vs : List V} {H : Hp} {Q : VK} {E : XK} (h : spOf C n f vs H Q E) : vs.length = n := by
  obtain ⟨μ, h, ms, hl, r, _⟩ := h
  rw [r.length, hl]
variable {x : Str} {p pos : Pos} {e : Expr} {es : List Expr} {ms : MA} {k n : Nat} {f : Addr} {fd : FuncData} {ps : List Str} {mf : MFun}
theorem opost_slots {α β : Type} {R : Mu → Hp → α → β → Prop} {μ : Mu} {Q : β → Hp → Prop} {o : Out α} (P : OPost C W R μ H σ Q o) : OPost C (fun cls d _ H => WE W σ cls d H) R μ H [] Q o := by
  cases o with
  | ok a h => exact P
  | er c h => exact P
  | bad => exact P
theorem rd_call {Q : VK} (q : rdE C W pi (mCall n mf ms) σ H Q) : tCallS (spOf C n mf) (WE W) (rdA C W pi ms) σ H Q := by
  obtain ⟨μ, ρ, h, S, P⟩ := q
  refine rd_bind S P fun μ1 h1 H1 x Xv e1 S1 r1 P1 => ?_
  split at P1
  · rename_i hl
    exact ⟨μ1, h1, x, hl, r1, S1.heap, opost_slots P1⟩
  · exact P1.elim
/-- f(..) of a def of the text -/
theorem sCall (F : FnOk X.prog X.w X.K X.mg X.base (L2.CX X.prog X.w) k f fd ps (spOf C n mf)) (tk : Takes X W) (hr : Room k X.A) (hm : X.mg x = some (.ref f)) (hk : PySem.W.keepIn X.K (.ref f) = true) (hb : Binds X.K fd ps [])
    (ha : PA X (e :: es) (rdA C W pi ms)) (hg : Gl X x := by rfl) (hdb : (x == ("__debug__" : Str)) = false := by decide) (he : starEach (e :: es) X.env = (false, eval e X.env) :: starEach es X.env := by rfl) (hpl : (backTo pos (starEach es X.env)).any (·.1) = false := by rfl) :
    PE X (.Call (.Name x p) (e :: es) [] pos) (rdE C W pi (mCall n mf ms)) := PE.imp (pe_callS F hr hg hm hk hb (fun σ => passAt tk σ) ha hdb he hpl) fun σ H Q => rd_call
theorem start_sim {μ : Mu} {h : MH} {N : List Str} {ar : Nat} {ms : List MV} {vs : List V} (S : SimH C μ H h) (r : SimVs C μ H ms vs) (hl : ms.length = ar) (hn : N.length = n) : SimS C none μ (ms.map some ++ List.replicate (n - ar) none) h (L2.start N vs) H := by
  have hv := r.length
  refine ⟨by simp [L2.start, hv, hl, hn], fun i m e => ?_, S, fun _ _ e => nomatch e⟩
  by_cases hi : i < ms.length
  · rw [List.getElem?_append_left (by simpa using hi)] at e
    simp only [List.getElem?_map, Option.map_eq_some_iff] at e
    obtain ⟨m', e1, e2⟩ := e
    cases e2
    obtain ⟨v, h1, h2⟩ := r.get e1
    refine ⟨v, ?_, h2⟩
    unfold L2.start
    rw [List.getElem?_append_left (by simp; omega)]
    simp [h1]
  · rw [List.getElem?_append_right (by simpa using Nat.le_of_not_lt hi)] at e
    rw [List.getElem?_replicate] at e
    split at e <;> simp at e
/-- a def keeps what its small semantics says -/
theorem def_ok {P : Program} {w : World} {K : PySem.W.Frag} {mg : Str → Option Value} {base : Heap} {cl : List Addr} {qual : Str} {st : Stmt} {N : List Str} {body : MS} (n ar : Nat) (F : Fun K x qual st f fd) (S : FnScope N ps (defScope st)) (hn : N.length = n) (har : ps.length = ar)
    (hbody : ∀ (cdv : Value) (A : Around) (outer : List Env) (s : Shared) (H : Hp) (E : XK), Room k (A.deeper (envOfC qual (defScope st) s.heap.objs.size f cdv)) →
      PSs (cxOf (L2.CX P w) P w K mg base N qual (defScope st) f cdv A outer s H E) (defBody st) (rdS ⟨K, mg, cl⟩ (fun cls d _ H => E cls d H) none body)) : FnOk P w K mg base (L2.CX P w) (k + 1) f fd ps (spOf ⟨K, mg, cl⟩ ar (mDef n ar body)) := by
  refine F.okX S (fun vs H Q E h => by rw [spOf_len h, har]) fun cdv A outer s H vs Q E hr hsp => ⟨_, hbody cdv A outer s H E hr, ?_⟩
  obtain ⟨μ, h, ms, hl, r, S0, P⟩ := hsp
  refine ⟨μ, _, h, start_sim S0 r hl hn, ?_⟩
  unfold mDef at P
  rw [if_pos hl] at P
  cases eb : body (ms.map some ++ List.replicate (n - ar) none) h with
  | nx ρ' h' =>
    rw [eb] at P
    exact fun μ' σ' H' e' S' => P μ' H' .non e' S'.heap sv_non
  | rt v h' => rw [eb] at P; exact P
  | er c ρ' h' =>
    rw [eb] at P
    exact fun μ' σ' H' Ca e' S' hc => P μ' H' Ca e' S'.heap hc
  | bk ρ' h' => rw [eb] at P; exact P.elim
  | ct ρ' h' => rw [eb] at P; exact P.elim
  | bad => rw [eb] at P; exact P.elim
theorem no_ok {P : Program} {w : World} {K : PySem.W.Frag} {mg : Str → Option Value} {base : Heap} {ar : Nat} : FnOk P w K mg base (L2.CX P w) k f fd ps (spOf C ar noFun) :=
  ⟨fun vs H Q E h => by obtain ⟨_, _, _, _, _, _, z⟩ := h; exact z.elim, fun A outer s H args us vs Q E hr he hb hv h => by obtain ⟨_, _, _, _, _, _, z⟩ := h; exact z.elim⟩

/-! ### raise, try -/
/-- an own error class over ValueError without __init__ -/
structure ExcK (K : PySem.W.Frag) (mg : Str → Option Value) (x : Str) (Ca : Addr) : Prop where
  g : mg x = some (.ref Ca)
  x : PySem.W.excIn K Ca [.type "ValueError", .type "Exception", .type "BaseException", .type "object"] "ValueError.__new__" = true
  k : PySem.W.keepIn K (.ref Ca) = true
  b : PySem.W.subIn K (.ref Ca) (.type "BaseException") = some true
  t : PySem.W.typeIn K (.ref Ca) = some (.type "type")
def mRaise (c : Nat) : MS := fun ρ h => .er c ρ h
theorem sRaise {c : Nat} {Ca : Addr} {m : Str} {j : Nat} {p2 pos2 : Pos} (hc : X.calm = true) (tk : Takes X W) (T : ExcK X.K X.mg x Ca) (hcl : C.cl[c]? = some Ca) (hg : Gl X x := by rfl) (hdb : (x == ("__debug__" : Str)) = false := by decide) :
    PS X (.Raise (some (.Call (.Name x p) [.Constant (.str m) j p2] [] pos)) none pos2) (rdS C W pi (mRaise c)) :=
  PS.imp (ps_raise hc tk (pmk_own PySem.F.excBase_ValueError T.x T.g T.k (raises_own T.b T.t) hg hdb)) fun D σ H q => by
    obtain ⟨μ, ρ, h, S, P⟩ := q
    exact P μ σ H Ca .refl S hcl
abbrev Sub := Nat → Nat → Option Bool
def SO.hard : SO → SO
  | .er _ _ _ => .bad
  | o => o
theorem SPost.hard {D : Ends} {μ : Mu} {o : SO} (h : SPost C W pi D μ H o.hard) : SPost C WF pi D μ H o := by
  cases o with
  | nx ρ' h' => exact h
  | rt v h' => exact h
  | bk ρ' h' => exact h
  | ct ρ' h' => exact h
  | er c ρ' h' => exact h.elim
  | bad => exact h
def mTry (sub : Sub) (k : Nat) (body : MS) (suite : Nat → MS) : MS := fun ρ h => match body ρ h with
  | .er c ρ' h' => (match sub c k with
    | some true => (suite c ρ' h').hard
    | some false => .er c ρ' h'
    | none => .bad)
  | o => o
def mTryAs (sub : Sub) (k i : Nat) (body : MS) (suite : Nat → MS) : MS := fun ρ h => match body ρ h with
  | .er c ρ' h' => (match sub c k with
    | some true => if i < ρ'.length then (match suite c (ρ'.set i none) h' with
      | .nx ρ'' h'' => .nx (ρ''.set i none) h''
      | .bk ρ'' h'' => .bk (ρ''.set i none) h''
      | .ct ρ'' h'' => .ct (ρ''.set i none) h''
      | .rt v h'' => .rt v h''
      | _ => .bad) else .bad
    | some false => .er c ρ' h'
    | none => .bad)
  | o => o
/-- the rest of a try: what the body ends as -/
theorem body_post {W' : WX} {D : Ends} {body : MS} {g : Nat → En → MH → SO} {μ : Mu} {ρ : En} {h : MH} (P : SPost C W pi D μ H (match body ρ h with | .er c ρ' h' => g c ρ' h' | o => o))
    (hk : ∀ c ρ' h' μ' σ' H' Ca, Ext μ H μ' H' → SimS C pi μ' ρ' h' σ' H' → C.cl[c]? = some Ca → SPost C W pi D μ' H' (g c ρ' h') → W' (.ref Ca) none σ' H') : SPost C W' pi D μ H (body ρ h) := by
  cases eb : body ρ h with
  | nx ρ' h' => rw [eb] at P; exact P
  | rt v h' => rw [eb] at P; exact P
  | bk ρ' h' => rw [eb] at P; exact P
  | ct ρ' h' => rw [eb] at P; exact P
  | bad => rw [eb] at P; exact P
  | er c ρ' h' =>
    rw [eb] at P
    exact fun μ' σ' H' Ca e' S' hc => hk c ρ' h' μ' σ' H' Ca e' S' hc (P.from e')
theorem suite_any {X : Cx} {st : List Stmt} {t : Nat → TS} {cls : Value} {d : Option Addr} (h : ∀ c Ca, C.cl[c]? = some Ca → cls = .ref Ca → d = none → PSs X st (t c)) : PSs X st (fun D σ H => ∃ c Ca, C.cl[c]? = some Ca ∧ cls = .ref Ca ∧ d = none ∧ t c D σ H) :=
  ⟨fun pins s σ H D I q => by
    obtain ⟨c, Ca, h1, h2, h3, q⟩ := q
    exact (h c Ca h1 h2 h3).run pins s σ H D I q⟩
theorem pin_in {μ : Mu} {ρ : En} {h : MH} {a : V} {i : Nat} (S : SimS C none μ ρ h σ H) (hi : i < σ.length) : SimS C (some (i, a)) μ (ρ.set i none) h (σ.set i (some a)) H := by
  refine ⟨by simp [S.len], fun j m e => ?_, S.heap, fun j v e => ?_⟩
  · by_cases hj : i = j
    · subst hj
      rw [List.getElem?_set] at e
      simp at e
    · rw [List.getElem?_set_ne hj] at e
      obtain ⟨v, h1, h2⟩ := S.env j m e
      exact ⟨v, by rw [List.getElem?_set_ne hj]; exact h1, h2⟩
  · cases e
    simp [hi]
theorem pin_out {μ : Mu} {ρ : En} {h : MH} {a : V} {i : Nat} (S : SimS C (some (i, a)) μ ρ h σ H) : SimS C none μ (ρ.set i none) h (σ.set i none) H := by
  refine ⟨by simp [S.len], fun j m e => ?_, S.heap, fun _ _ e => nomatch e⟩
  by_cases hj : i = j
  · subst hj
    rw [List.getElem?_set] at e
    simp at e
  · rw [List.getElem?_set_ne hj] at e
    obtain ⟨v, h1, h2⟩ := S.env j m e
    exact ⟨v, by rw [List.getElem?_set_ne hj]; exact h1, h2⟩
variable {np pos' : Pos} {body suite : List Stmt} {b₀ : Stmt} {c : Value} {mb : MS} {msu : Nat → MS} {sub : Sub} {kc : Nat}
theorem sTry (hk : C.K = X.K) (hs : X.stack = X.env :: X.outer) (hf : X.env.frame = some X.env.locals) (hc : Names X x c) (tk : Takes X W)
    (hsub : ∀ c' Ca b, C.cl[c']? = some Ca → sub c' kc = some b → PySem.W.exmOne C.K (.ref Ca) c = some b)
    (hb : ∀ (W' : WX) (pn : List (Addr × Obj)) (xe : Value → Shared → Prop), Takes (X.tr pn xe) W' → PassesOwn (model X.prog X.w) X.A X.env xe → PSs (X.tr pn xe) body (rdS C W' none mb))
    (hsu : ∀ (a : Addr) (oe : Obj) (c' : Nat) (Ca : Addr) (pn : List (Addr × Obj)), C.cl[c']? = some Ca → Zc (.ref Ca) none oe → (∃ vs, oe.data = .fields vs) → PSs (X.suite a ((a, oe) :: pn)) (b₀ :: suite) (rdS C WF none (msu c'))) :
    PS X (.Try body [.ExceptHandler (some (.Name x np)) none (b₀ :: suite) pos'] [] [] pos) (rdS C W none (mTry sub kc mb msu)) := by
  refine PS.imp (ps_try_only (tb := fun W' => rdS C W' none mb) (ts := fun a cls d D σ H => ∃ c' Ca, C.cl[c']? = some Ca ∧ cls = .ref Ca ∧ d = none ∧ rdS C WF none (msu c') D σ H) (Wout := W) hs hf hc tk hb fun a oe cls d pn hz hd => suite_any fun c' Ca h1 h2 h3 => ?_) fun D σ H q => ?_
  · subst h2 h3
    exact hsu a oe c' Ca pn h1 hz hd
  · obtain ⟨μ, ρ, h, S, P⟩ := q
    refine ⟨μ, ρ, h, S, body_post (g := fun c ρ' h' => match sub c kc with | some true => (msu c ρ' h').hard | some false => .er c ρ' h' | none => .bad) P fun c' ρ' h' μ' σ' H' Ca e' S' hcl P' => ?_⟩
    cases eb : sub c' kc with
    | none => simp only [eb] at P'; exact P'.elim
    | some b =>
      simp only [eb] at P'
      refine ⟨b, by rw [← hk]; exact hsub c' Ca b hcl eb, fun hb' a ha => ?_, fun hb' => ?_⟩
      · subst hb'
        refine ⟨c', Ca, hcl, rfl, rfl, μ', ρ', h', S', ?_⟩
        exact P'.hard
      · subst hb'
        simp only at P'
        exact P' μ' σ' H' Ca .refl S' hcl
theorem as_post {D : Ends} {i : Nat} {a : V} {μ : Mu} {o : SO} (P : SPost C W none D μ H (match o with
      | .nx ρ'' h'' => .nx (ρ''.set i none) h''
      | .bk ρ'' h'' => .bk (ρ''.set i none) h''
      | .ct ρ'' h'' => .ct (ρ''.set i none) h''
      | .rt v h'' => .rt v h''
      | _ => .bad)) : SPost C WF (some (i, a)) { nx := fun σ' H' => D.nx (σ'.set i none) H', rt := D.rt, bk := fun σ' H' => D.bk (σ'.set i none) H', ct := fun σ' H' => D.ct (σ'.set i none) H' } μ H o := by
  cases o with
  | nx ρ' h' => exact fun μ' σ' H' e' S' => P μ' _ H' e' (pin_out S')
  | bk ρ' h' => exact fun μ' σ' H' e' S' => P μ' _ H' e' (pin_out S')
  | ct ρ' h' => exact fun μ' σ' H' e' S' => P μ' _ H' e' (pin_out S')
  | rt v h' => exact P
  | er c ρ' h' => exact P.elim
  | bad => exact P.elim
theorem sTryAs (i : Nat) {n : Str} (hk : C.K = X.K) (hs : X.stack = X.env :: X.outer) (hf : X.env.frame = some X.env.locals) (hN : X.N.Nodup) (hi : X.N[i]? = some n) (hln : X.env.kindOf n = some .local) (hc : Names X x c) (tk : Takes X W)
    (hsub : ∀ c' Ca b, C.cl[c']? = some Ca → sub c' kc = some b → PySem.W.exmOne C.K (.ref Ca) c = some b)
    (hb : ∀ (W' : WX) (pn : List (Addr × Obj)) (xe : Value → Shared → Prop), Takes (X.tr pn xe) W' → PassesOwn (model X.prog X.w) X.A X.env xe → PSs (X.tr pn xe) body (rdS C W' none mb))
    (hsu : ∀ (a : Addr) (oe : Obj) (c' : Nat) (Ca : Addr) (pn : List (Addr × Obj)), C.cl[c']? = some Ca → Zc (.ref Ca) none oe → (∃ vs, oe.data = .fields vs) → PSs (X.suite a ((a, oe) :: pn)) (b₀ :: suite) (rdS C WF (some (i, .ref a)) (msu c'))) (hlen : i < X.N.length) :
    PS X (.Try body [.ExceptHandler (some (.Name x np)) (some n) (b₀ :: suite) pos'] [] [] pos) (rdS C W none (mTryAs sub kc i mb msu)) := by
  have base := ps_try_as (tb := fun W' => rdS C W' none mb) (ts := fun a cls d D σ H => ∃ c' Ca, C.cl[c']? = some Ca ∧ cls = .ref Ca ∧ d = none ∧ rdS C WF (some (i, .ref a)) (msu c') D σ H) (Wout := W) (pos := pos) (np := np) (pos' := pos') hs hf hN hi hln hc tk hb fun a oe cls d pn hz hd => suite_any fun c' Ca h1 h2 h3 => by
    subst h2 h3
    exact hsu a oe c' Ca pn h1 hz hd
  refine ⟨fun pins s σ H D I q => base.run pins s σ H D I ?_⟩
  have hσ : i < σ.length := by rw [I.len]; exact hlen
  obtain ⟨μ, ρ, h, S, P⟩ := q
  refine ⟨μ, ρ, h, S, body_post (g := fun c ρ' h' => match sub c kc with
    | some true => if i < ρ'.length then (match msu c (ρ'.set i none) h' with
      | .nx ρ'' h'' => .nx (ρ''.set i none) h''
      | .bk ρ'' h'' => .bk (ρ''.set i none) h''
      | .ct ρ'' h'' => .ct (ρ''.set i none) h''
      | .rt v h'' => .rt v h''
      | _ => .bad) else .bad
    | some false => .er c ρ' h'
    | none => .bad) P fun c' ρ' h' μ' σ' H' Ca e' S' hcl P' => ?_⟩
  cases eb : sub c' kc with
  | none => simp only [eb] at P'; exact P'.elim
  | some b =>
    simp only [eb] at P'
    refine ⟨b, by rw [← hk]; exact hsub c' Ca b hcl eb, fun hb' a ha => ?_, fun hb' => ?_⟩
    · subst hb'
      by_cases hi' : i < ρ'.length
      · simp only [hi', if_true] at P'
        exact ⟨c', Ca, hcl, rfl, rfl, μ', _, h', pin_in S' (by rw [← S'.len]; exact hi'), as_post P'⟩
      · simp only [hi', if_false] at P'
        exact P'.elim
    · subst hb'
      simp only at P'
      exact P' μ' σ' H' Ca .refl S' hcl
/-- isinstance(e, A) of the error that the suite holds -/
def mOB (o : Option Bool) : ME := fun _ h => match o with
  | some b => .ok (.bl b) h
  | none => .bad
theorem sIsE (hk : C.K = X.K) {a : Addr} {oe : Obj} {pn : List (Addr × Obj)} {Ca : Addr} {i : Nat} {y : Str} {cv : V} {cu : Value} {o : Option Bool} {py : Pos} {ec : Expr} (T : ExcC X.K Ca) (hz : Zc (.ref Ca) none oe) (hf : ∃ vs, oe.data = .fields vs) (hx : x = "isinstance") (hm : X.mg x = none)
    (hN : X.N[i]? = some y) (hv : Vis X.env.scope y) (hb : PE (X.suite a ((a, oe) :: pn)) ec (tC cv)) (hcv : ∀ u, RelV cv u → u = cu) (hkit : ∀ b, o = some b → PySem.W.kitOne X.K (.ref Ca) cu = some b)
    (hd : (y == ("__debug__" : Str)) = false := by decide) (hcd : (y == ("__classdict__" : Str)) = false := by decide) (hg : Gl X x := by rfl)
    (he : starEach [.Name y py, ec] X.env = (false, eval (.Name y py) X.env) :: starEach [ec] X.env := by rfl) (he2 : starEach [ec] X.env = (false, eval ec X.env) :: starEach [] X.env := by rfl) (hpl : (backTo pos (starEach [ec] X.env)).any (·.1) = false := by rfl) :
    PE (X.suite a ((a, oe) :: pn)) (.Call (.Name x p) [.Name y py, ec] [] pos) (rdE C WF (some (i, .ref a)) (mOB o)) := by
  subst hx
  refine PE.imp (pe_callB (X := X.suite a ((a, oe) :: pn)) (call_isE T hz hf) hg hm (by decide +kernel) (pa_cons (pe_var (i := i) hN hv hd hcd) (pa_cons hb pa_nil he2) he) (by decide) (by decide) he hpl) fun σ H Q q => ?_
  obtain ⟨μ, ρ, h, S, P⟩ := q
  cases o with
  | none => exact P.elim
  | some b =>
    exact ⟨.ref a, S.pin i _ rfl, cv, cu, b, rfl, hcv, hkit b rfl, fin_same S.heap P sv_bl⟩
end
end Mini
end

section
set_option Elab.async false
set_option linter.all false
set_option maxRecDepth 100000
set_option maxHeartbeats 2000000
/-! Mini: built-in functions and methods; what is frozen and cut off. -/
namespace Mini
open PySem L2
section
variable {C : SC}
/-! ### functions -/
def fLen (xs : List MV) (h : MH) : Out MV := match xs with
  | [.str z] => if z.length ≤ sizeLine then .ok (.int z.length) h else .bad
  | [x] => match seqOf h x with
    | some ys => .ok (.int ys.length) h
    | none => .bad
  | _ => .bad
theorem opa_len : OpA C fLen (fun xs H Q => ∃ x n, xs = [x] ∧ LenV C.K x H n ∧ Q (.int (n : Nat)) H) := by
  intro μ H h xs Xs Q S r P
  unfold fLen at P
  split at P
  · obtain ⟨v, r', rfl, h2, h3⟩ := r.cons_inv
    have := h3.nil_inv; subst this
    simp only [SimV] at h2; subst h2
    split at P
    · rename_i hz
      exact ⟨_, _, rfl, ⟨hz, rfl⟩, fin_same S P sv_int⟩
    · exact P.elim
  · obtain ⟨v, r', rfl, h2, h3⟩ := r.cons_inv
    have := h3.nil_inv; subst this
    split at P
    · rename_i ys e
      obtain ⟨a, vs, rfl, hs, r2⟩ := seqOf_sim S h2 e
      refine ⟨_, ys.length, rfl, ?_, fin_same S P sv_int⟩
      rcases hs with hs | hs
      · exact .inl ⟨vs, hs, r2.length.symm⟩
      · exact .inr ⟨vs, hs, r2.length.symm⟩
    · exact P.elim
  · exact P.elim
def fInt (xs : List MV) (h : MH) : Out MV := match xs with
  | [.int i] => .ok (.int i) h
  | [.bl k] => .ok (.int (if k = true then 1 else 0)) h
  | _ => .bad
theorem opa_int : OpA C fInt (fun xs H Q => (∃ i, xs = [.int i] ∧ Q (.int i) H) ∨ ∃ k, xs = [.bl k] ∧ Q (.int (if k = true then 1 else 0)) H) := by
  intro μ H h xs Xs Q S r P
  unfold fInt at P
  split at P
  · obtain ⟨v, r', rfl, h2, h3⟩ := r.cons_inv
    have := h3.nil_inv; subst this
    simp only [SimV] at h2; subst h2
    exact .inl ⟨_, rfl, fin_same S P sv_int⟩
  · obtain ⟨v, r', rfl, h2, h3⟩ := r.cons_inv
    have := h3.nil_inv; subst this
    simp only [SimV] at h2; subst h2
    exact .inr ⟨_, rfl, fin_same S P sv_int⟩
  · exact P.elim
def fMin2 (xs : List MV) (h : MH) : Out MV := match xs with
  | [.int i, .int j] => .ok (.int (if j < i then j else i)) h
  | _ => .bad
def fMax2 (xs : List MV) (h : MH) : Out MV := match xs with
  | [.int i, .int j] => .ok (.int (if j > i then j else i)) h
  | _ => .bad
theorem two_ints {μ : Mu} {H : Hp} {i j : Int} {Xs : List V} (r : SimVs C μ H [.int i, .int j] Xs) : Xs = [.int i, .int j] := by
  obtain ⟨v, r', rfl, h2, h3⟩ := r.cons_inv
  obtain ⟨v', r'', rfl, h4, h5⟩ := h3.cons_inv
  have := h5.nil_inv; subst this
  simp only [SimV] at h2 h4; subst h2 h4
  rfl
theorem opa_min2 : OpA C fMin2 (fun xs H Q => ∃ i j, xs = [.int i, .int j] ∧ Q (.int (if j < i then j else i)) H) := by
  intro μ H h xs Xs Q S r P
  unfold fMin2 at P
  split at P
  · rw [two_ints r]; exact ⟨_, _, rfl, fin_same S P sv_int⟩
  · exact P.elim
theorem opa_max2 : OpA C fMax2 (fun xs H Q => ∃ i j, xs = [.int i, .int j] ∧ Q (.int (if j > i then j else i)) H) := by
  intro μ H h xs Xs Q S r P
  unfold fMax2 at P
  split at P
  · rw [two_ints r]; exact ⟨_, _, rfl, fin_same S P sv_int⟩
  · exact P.elim
def fList (xs : List MV) (h : MH) : Out MV := match xs with
  | [x] => match seqOf h x with
    | some ys => .ok (.lst ys) h
    | none => .bad
  | _ => .bad
def fListH (xs : List MV) (h : MH) : Out MV := match xs with
  | [x] => match seqOf h x with
    | some ys => .ok (.ref h.length) (h ++ [.lst ys])
    | none => .bad
  | _ => .bad
theorem opa_list : OpA C fList (fun xs H Q => ∃ p ys, xs = [.ref p] ∧ (SqL C.K H p ys ∨ SqT C.K H p ys) ∧ ∀ l, H l = none → Q (.ref l) (upd H l (.lst ys))) := by
  intro μ H h xs Xs Q S r P
  unfold fList at P
  split at P
  · obtain ⟨v, r', rfl, h2, h3⟩ := r.cons_inv
    have := h3.nil_inv; subst this
    split at P
    · rename_i ys e
      obtain ⟨a, vs, rfl, hs, r2⟩ := seqOf_sim S h2 e
      exact ⟨a, vs, rfl, hs, fun l hl => fin_lst S P r2 hl⟩
    · exact P.elim
  · exact P.elim
theorem opa_listH : OpA C fListH (fun xs H Q => ∃ p ys, xs = [.ref p] ∧ (SqL C.K H p ys ∨ SqT C.K H p ys) ∧ ∀ l, H l = none → Q (.ref l) (upd H l (.lst ys))) := by
  intro μ H h xs Xs Q S r P
  unfold fListH at P
  split at P
  · obtain ⟨v, r', rfl, h2, h3⟩ := r.cons_inv
    have := h3.nil_inv; subst this
    split at P
    · rename_i ys e
      obtain ⟨a, vs, rfl, hs, r2⟩ := seqOf_sim S h2 e
      exact ⟨a, vs, rfl, hs, fun l hl => fin_cell S P r2 hl⟩
    · exact P.elim
  · exact P.elim
def fTuple (xs : List MV) (h : MH) : Out MV := match xs with
  | [.tup ys] => .ok (.tup ys) h
  | [x] => match listOf h x with
    | some ys => .ok (.tup ys) h
    | none => .bad
  | _ => .bad
theorem opa_tuple : OpA C fTuple (fun xs H Q => ∃ p ys, xs = [.ref p] ∧ ((SqL C.K H p ys ∧ ∀ l, H l = none → Q (.ref l) (upd H l (.tup ys))) ∨ (SqT C.K H p ys ∧ Q (.ref p) H))) := by
  intro μ H h xs Xs Q S r P
  unfold fTuple at P
  split at P
  · obtain ⟨v, r', rfl, h2, h3⟩ := r.cons_inv
    have := h3.nil_inv; subst this
    have h20 := h2
    simp only [SimV] at h2
    obtain ⟨a, vs, rfl, ha, hxs⟩ := h2
    exact ⟨a, vs, rfl, .inr ⟨ha.sqt, fin_same S P h20⟩⟩
  · obtain ⟨v, r', rfl, h2, h3⟩ := r.cons_inv
    have := h3.nil_inv; subst this
    split at P
    · rename_i ys e
      obtain ⟨a, vs, rfl, hs, r2⟩ := listOf_sim S h2 e
      exact ⟨a, vs, rfl, .inl ⟨hs, fun l hl => fin_tup S P r2 hl⟩⟩
    · exact P.elim
  · exact P.elim
/-- the ints of a list of ints -/
def intsOf : List MV → Option (List Int)
  | [] => some []
  | .int i :: xs => (intsOf xs).map (i :: ·)
  | _ => none
theorem ints_sim {μ : Mu} {H : Hp} : ∀ {xs : List MV} {ns : List Int} {vs : List V}, intsOf xs = some ns → SimVs C μ H xs vs → vs = ns.map V.int
  | [], ns, vs, e, r => by
    simp only [intsOf, Option.some.injEq] at e
    subst e; rw [r.nil_inv]; rfl
  | x :: xs, ns, vs, e, r => by
    cases x <;> simp only [intsOf, Option.map_eq_some_iff] at e <;> try (cases e; done)
    obtain ⟨ms, e1, rfl⟩ := e
    obtain ⟨v, r', rfl, h2, h3⟩ := r.cons_inv
    simp only [SimV] at h2; subst h2
    rw [ints_sim e1 h3]; rfl
def fSum (xs : List MV) (h : MH) : Out MV := match xs with
  | [x] => match (listOf h x).bind intsOf with
    | some ns => .ok (.int ns.sum) h
    | none => .bad
  | _ => .bad
theorem opa_sum : OpA C fSum (rSum C.K) := by
  intro μ H h xs Xs Q S r P
  unfold fSum at P
  split at P
  · obtain ⟨v, r', rfl, h2, h3⟩ := r.cons_inv
    have := h3.nil_inv; subst this
    split at P
    · rename_i ns e
      simp only [Option.bind_eq_some_iff] at e
      obtain ⟨ys, e1, e2⟩ := e
      obtain ⟨a, vs, rfl, hs, r2⟩ := listOf_sim S h2 e1
      rw [ints_sim e2 r2] at hs
      exact ⟨a, ns, rfl, hs, fin_same S P sv_int⟩
    · exact P.elim
  · exact P.elim
/-- the greatest of ints that are not none -/
def maxOf : Int → List Int → Int
  | m, [] => m
  | m, n :: ns => maxOf (if m < n then n else m) ns
theorem maxOf_ge : ∀ (m : Int) (ns : List Int), m ≤ maxOf m ns ∧ ∀ y ∈ ns, y ≤ maxOf m ns
  | m, [] => ⟨Int.le_refl _, by simp⟩
  | m, n :: ns => by
    unfold maxOf
    by_cases hc : m < n
    · simp only [hc, if_true]
      have ⟨a, b⟩ := maxOf_ge n ns
      refine ⟨by omega, fun y hy => ?_⟩
      rcases List.mem_cons.mp hy with rfl | hy
      · exact a
      · exact b y hy
    · simp only [hc, if_false]
      have ⟨a, b⟩ := maxOf_ge m ns
      refine ⟨a, fun y hy => ?_⟩
      rcases List.mem_cons.mp hy with rfl | hy
      · omega
      · exact b y hy
theorem maxOf_mem : ∀ (m : Int) (ns : List Int), maxOf m ns = m ∨ maxOf m ns ∈ ns
  | m, [] => .inl rfl
  | m, n :: ns => by
    unfold maxOf
    rcases maxOf_mem (if m < n then n else m) ns with h | h
    · split at h
      · rename_i hc; exact .inr (by simp only [hc, if_true, h, List.mem_cons, true_or])
      · rename_i hc; exact .inl (by simp only [hc, if_false, h])
    · exact .inr (List.mem_cons_of_mem _ h)
def fMaxL (xs : List MV) (h : MH) : Out MV := match xs with
  | [x] => match (listOf h x).bind intsOf with
    | some (n :: ns) => .ok (.int (maxOf n ns)) h
    | _ => .bad
  | _ => .bad
theorem opa_maxL : OpA C fMaxL (rMax C.K) := by
  intro μ H h xs Xs Q S r P
  unfold fMaxL at P
  split at P
  · obtain ⟨v, r', rfl, h2, h3⟩ := r.cons_inv
    have := h3.nil_inv; subst this
    split at P
    · rename_i n ns e
      simp only [Option.bind_eq_some_iff] at e
      obtain ⟨ys, e1, e2⟩ := e
      obtain ⟨a, vs, rfl, hs, r2⟩ := listOf_sim S h2 e1
      rw [ints_sim e2 r2] at hs
      refine ⟨a, n :: ns, rfl, hs, by simp, fun m hm hle => ?_⟩
      have ⟨a1, b1⟩ := maxOf_ge n ns
      have : m = maxOf n ns := by
        have h1 : maxOf n ns ≤ m := by
          rcases maxOf_mem n ns with q | q
          · rw [q]; exact hle n (by simp)
          · exact hle _ (List.mem_cons_of_mem _ q)
        have h2 : m ≤ maxOf n ns := by
          rcases List.mem_cons.mp hm with rfl | q
          · exact a1
          · exact b1 m q
        omega
      rw [this]
      exact fin_same S P sv_int
    · exact P.elim
  · exact P.elim

/-! ### methods of lists -/
def cellOf (h : MH) : MV → Option (Nat × List MV)
  | .ref i => match h[i]? with
    | some (.lst xs) => some (i, xs)
    | _ => none
  | _ => none
theorem cellOf_sim {μ : Mu} {H : Hp} {h : MH} (S : SimH C μ H h) {x : MV} {X : V} {i : Nat} {xs : List MV} (r : SimV C μ H x X) (e : cellOf h x = some (i, xs)) : ∃ a vs, X = .ref a ∧ μ.c[i]? = some (some a) ∧ H a = some (.lst vs) ∧ SimVs C μ H xs vs := by
  cases x <;> simp only [cellOf] at e <;> try (cases e; done)
  split at e
  · rename_i ys hi
    cases e
    exact S.lst hi r
  · cases e
def fApp (x : MV) (xs : List MV) (h : MH) : Out MV := match cellOf h x, xs with
  | some (i, ys), [y] => if ys.length < sizeLine then .ok .non (h.set i (.lst (ys ++ [y]))) else .bad
  | _, _ => .bad
theorem opm_app : OpM C fApp rAppend := by
  intro μ H h x X xs Xs Q S r rs P
  unfold fApp at P
  split at P
  · rename_i i ys y e
    obtain ⟨a, vs, rfl, hi, ha, r2⟩ := cellOf_sim S r e
    obtain ⟨v, r', rfl, h2, h3⟩ := rs.cons_inv
    have := h3.nil_inv; subst this
    split at P
    · rename_i hz
      exact ⟨a, vs, v, rfl, rfl, ha, by rw [r2.length]; exact hz, fin_put S P hi (r2.append (.cons h2 .nil)) sv_non⟩
    · exact P.elim
  · exact P.elim
def fPop (x : MV) (xs : List MV) (h : MH) : Out MV := match cellOf h x, xs with
  | some (i, ys), [] => match ys[ys.length - 1]? with
    | some y => .ok y (h.set i (.lst ys.dropLast))
    | none => .bad
  | _, _ => .bad
theorem opm_pop : OpM C fPop rPop := by
  intro μ H h x X xs Xs Q S r rs P
  unfold fPop at P
  split at P
  · rename_i i ys e
    obtain ⟨a, vs, rfl, hi, ha, r2⟩ := cellOf_sim S r e
    have := rs.nil_inv; subst this
    split at P
    · rename_i y ey
      obtain ⟨w, h1, h2⟩ := r2.get ey
      exact ⟨a, vs, w, rfl, rfl, ha, by rw [r2.length]; exact h1, fin_put S P hi r2.dropLast h2⟩
    · exact P.elim
  · exact P.elim
def fRev (x : MV) (xs : List MV) (h : MH) : Out MV := match cellOf h x, xs with
  | some (i, ys), [] => .ok .non (h.set i (.lst ys.reverse))
  | _, _ => .bad
theorem opm_rev : OpM C fRev rReverse := by
  intro μ H h x X xs Xs Q S r rs P
  unfold fRev at P
  split at P
  · rename_i i ys e
    obtain ⟨a, vs, rfl, hi, ha, r2⟩ := cellOf_sim S r e
    have := rs.nil_inv; subst this
    exact ⟨a, vs, rfl, rfl, ha, fin_put S P hi r2.reverse sv_non⟩
  · exact P.elim
def fExt (x : MV) (xs : List MV) (h : MH) : Out MV := match cellOf h x, xs with
  | some (i, ys), [y] => (match y with
    | .fro _ => .bad
    | y => match listOf h y with
      | some zs => if ys.length + zs.length ≤ sizeLine then .ok .non (h.set i (.lst (ys ++ zs))) else .bad
      | none => .bad)
  | _, _ => .bad
theorem opm_ext : OpM C fExt rExtend := by
  intro μ H h x X xs Xs Q S r rs P
  unfold fExt at P
  split at P
  · rename_i i ys y e
    obtain ⟨a, vs, rfl, hi, ha, r2⟩ := cellOf_sim S r e
    obtain ⟨v, r', rfl, h2, h3⟩ := rs.cons_inv
    have := h3.nil_inv; subst this
    split at P
    · exact P.elim
    · rename_i nf
      split at P
      · rename_i zs ez
        obtain ⟨b, ws, rfl, hb, r4⟩ := listOf_mut S h2 (fun q e => nf q e) ez
        split at P
        · rename_i hz
          exact ⟨a, b, vs, ws, rfl, rfl, ha, hb, by rw [r2.length, r4.length]; exact hz, fin_put S P hi (r2.append r4) sv_non⟩
        · exact P.elim
      · exact P.elim
  · exact P.elim
/-! ### freezing: cells that nobody writes any more become values -/
mutual
def freeze : Nat → MH → MV → Option (MV × MH)
  | 0, _, _ => none
  | n + 1, h, v => match v with
    | .ref i => match h[i]? with
      | some (.lst xs) => (freezeL n (h.set i .gone) xs).map fun p => (.lst p.1, p.2)
      | _ => none
    | .tup xs => (freezeL n h xs).map fun p => (.tup p.1, p.2)
    | .lst xs => (freezeL n h xs).map fun p => (.lst p.1, p.2)
    | v => some (v, h)
def freezeL : Nat → MH → List MV → Option (List MV × MH)
  | 0, _, _ => none
  | _ + 1, h, [] => some ([], h)
  | n + 1, h, x :: xs => (freeze n h x).bind fun p => (freezeL n p.2 xs).map fun q => (p.1 :: q.1, q.2)
end
def Mu.lose (μ : Mu) (i : Nat) : Mu := ⟨μ.c.set i none, μ.n⟩
theorem Ext.lose {μ : Mu} {H : Hp} {i : Nat} : Ext μ H (μ.lose i) H := by
  refine ⟨fun a o ha hm => ⟨ha, ?_⟩, fun j x e => ?_, rfl, fun _ _ => rfl⟩
  · rintro (q | q)
    · obtain ⟨j, hj⟩ := List.mem_iff_getElem?.mp q
      by_cases e : i = j
      · subst e
        have : (μ.c.set i none)[i]? = some (some a) := hj
        rw [List.getElem?_set] at this
        simp at this
      · have : (μ.c.set i none)[j]? = some (some a) := hj
        rw [List.getElem?_set_ne e] at this
        exact hm (Mu.has_ix this)
    · exact hm (.inr q)
  · by_cases e' : i = j
    · subst e'
      have := (List.getElem?_eq_some_iff.mp e).1
      right
      show (μ.c.set i none)[i]? = some none
      rw [List.getElem?_set]; simp [this]
    · left
      show (μ.c.set i none)[j]? = some x
      rw [List.getElem?_set_ne e']; exact e
theorem SimH.lose {μ : Mu} {H : Hp} {h : MH} (S : SimH C μ H h) {i : Nat} : SimH C (μ.lose i) H (h.set i .gone) := by
  have get : ∀ {j : Nat} {a : Addr}, (μ.c.set i none)[j]? = some (some a) → i ≠ j ∧ μ.c[j]? = some (some a) := fun {j a} e => by
    by_cases e' : i = j
    · subst e'; rw [List.getElem?_set] at e; simp at e
    · exact ⟨e', by rw [List.getElem?_set_ne e'] at e; exact e⟩
  refine ⟨by simp [Mu.lose, S.len], S.nn, fun j a e => S.dis j a (get e).2, fun j k a e1 e2 => S.inj j k a (get e1).2 (get e2).2, fun j o x e1 e2 => ?_⟩
  by_cases e' : i = j
  · subst e'
    have e2 : (μ.c.set i none)[i]? = some x := e2
    rw [List.getElem?_set] at e1 e2
    simp only [if_true] at e1 e2
    split at e1
    · split at e2
      · cases e1; cases e2; rfl
      · cases e2
    · cases e1
  · rw [List.getElem?_set_ne e'] at e1
    have e2 : (μ.c.set i none)[j]? = some x := e2
    rw [List.getElem?_set_ne e'] at e2
    exact (S.cell j o x e1 e2).ext Ext.lose fun _ _ => rfl
mutual
theorem freeze_sim {H : Hp} : ∀ {n : Nat} {μ : Mu} {h h' : MH} {x v : MV} {X : V}, SimH C μ H h → SimV C μ H x X → freeze n h x = some (v, h') → ∃ μ', Ext μ H μ' H ∧ SimH C μ' H h' ∧ SimV C μ' H v X
  | 0, _, _, _, _, _, _, _, _, e => by simp [freeze] at e
  | n + 1, μ, h, h', x, v, X, S, r, e => by
    cases x with
    | ref i =>
      simp only [freeze] at e
      split at e
      · rename_i xs hi
        simp only [Option.map_eq_some_iff] at e
        obtain ⟨⟨ys, h2⟩, e1, e2⟩ := e
        cases e2
        obtain ⟨a, vs, rfl, ha, hH, r2⟩ := S.lst hi r
        obtain ⟨μ', e3, S3, r3⟩ := freezeL_sim S.lose (r2.ext (Ext.lose (i := i))) e1
        refine ⟨μ', Ext.lose.trans e3, S3, ?_⟩
        simp only [SimV]
        have nh : ¬ (μ.lose i).has a := by
          rintro (q | q)
          · obtain ⟨j, hj⟩ := List.mem_iff_getElem?.mp q
            have hj : (μ.c.set i none)[j]? = some (some a) := hj
            by_cases e' : i = j
            · subst e'; rw [List.getElem?_set] at hj; simp at hj
            · rw [List.getElem?_set_ne e'] at hj
              exact e' (S.inj i j a ha hj)
          · exact S.dis i a ha q
        exact ⟨a, vs, rfl, e3.1 a _ hH nh, r3⟩
      · cases e
    | tup xs =>
      simp only [freeze, Option.map_eq_some_iff] at e
      obtain ⟨⟨ys, h2⟩, e1, e2⟩ := e
      cases e2
      simp only [SimV] at r
      obtain ⟨a, vs, rfl, ha, hxs⟩ := r
      obtain ⟨μ', e3, S3, r3⟩ := freezeL_sim S hxs e1
      refine ⟨μ', e3, S3, ?_⟩
      simp only [SimV]
      exact ⟨a, vs, rfl, ha.ext e3, r3⟩
    | lst xs =>
      simp only [freeze, Option.map_eq_some_iff] at e
      obtain ⟨⟨ys, h2⟩, e1, e2⟩ := e
      cases e2
      simp only [SimV] at r
      obtain ⟨a, vs, rfl, ha, hxs⟩ := r
      obtain ⟨μ', e3, S3, r3⟩ := freezeL_sim S hxs e1
      refine ⟨μ', e3, S3, ?_⟩
      simp only [SimV]
      exact ⟨a, vs, rfl, e3.1 _ _ ha.1 ha.2, r3⟩
    | _ =>
      simp only [freeze, Option.some.injEq, Prod.mk.injEq] at e
      obtain ⟨rfl, rfl⟩ := e
      exact ⟨μ, .refl, S, r⟩
theorem freezeL_sim {H : Hp} : ∀ {n : Nat} {μ : Mu} {h h' : MH} {xs vs : List MV} {Xs : List V}, SimH C μ H h → SimVs C μ H xs Xs → freezeL n h xs = some (vs, h') → ∃ μ', Ext μ H μ' H ∧ SimH C μ' H h' ∧ SimVs C μ' H vs Xs
  | 0, _, _, _, _, _, _, _, _, e => by simp [freezeL] at e
  | n + 1, μ, h, h', [], vs, Xs, S, r, e => by
    simp only [freezeL, Option.some.injEq, Prod.mk.injEq] at e
    obtain ⟨rfl, rfl⟩ := e
    exact ⟨μ, .refl, S, r⟩
  | n + 1, μ, h, h', x :: xs, vs, Xs, S, r, e => by
    simp only [freezeL, Option.bind_eq_some_iff, Option.map_eq_some_iff] at e
    obtain ⟨⟨y, h1⟩, e1, ⟨ys, h2⟩, e2, e3⟩ := e
    cases e3
    obtain ⟨v, r', rfl, k2, k3⟩ := r.cons_inv
    obtain ⟨μ1, a1, S1, r1⟩ := freeze_sim S k2 e1
    obtain ⟨μ2, a2, S2, r2⟩ := freezeL_sim S1 (k3.ext a1) e2
    exact ⟨μ2, a1.trans a2, S2, .cons (r1.ext a2) r2⟩
end
/-- the result of m frozen -/
def Out.frz (o : Out MV) : Out MV := o.bind fun v h => match freeze 1000000 h v with
  | some p => .ok p.1 p.2
  | none => .bad
theorem OPost.frz {W : WX} {μ : Mu} {H : Hp} {σ : L2.St} {Q : VK} {o : Out MV} (P : OPost C W (SimV C) μ H σ Q o.frz) : OPost C W (SimV C) μ H σ Q o := by
  cases o with
  | er c h => exact P
  | bad => exact P
  | ok v h =>
    intro μ' H' V e' S' r'
    unfold Out.frz at P
    simp only [bind_ok] at P
    split at P
    · rename_i p hp
      obtain ⟨μ2, e2, S2, r2⟩ := freeze_sim (v := p.1) (h' := p.2) S' r' hp
      exact P μ2 H' V (e'.trans e2) S2 r2
    · exact P.elim
def frzF (f : MFun) : MFun := fun ms h => (f ms h).frz

/-! ### cutting off: what stands behind the cells that were there at the start -/
mutual
def MV.lt (n : Nat) : MV → Prop
  | .tup xs => MV.lts n xs
  | .lst xs => MV.lts n xs
  | .fro xs => MV.lts n xs
  | .obj _ _ xs => MV.lts n xs
  | .dct _ xs => MV.lts n xs
  | .ref i => i < n
  | _ => True
def MV.lts (n : Nat) : List MV → Prop
  | [] => True
  | x :: xs => x.lt n ∧ MV.lts n xs
end
def MO.lt (n : Nat) : MO → Prop
  | .gone => True
  | .lst xs => MV.lts n xs
  | .dct _ xs => MV.lts n xs
  | .ins _ _ xs => MV.lts n xs
def Mu.cut (μ : Mu) (n : Nat) : Mu := ⟨μ.c.take n, μ.n⟩
theorem Ext2.cut {μ : Mu} {H : Hp} {n : Nat} : ∀ a o, H a = some o → ¬ μ.has a → H a = some o ∧ ¬ (μ.cut n).has a := fun a o ha hm => ⟨ha, by
  rintro (q | q)
  · exact hm (.inl (List.mem_of_mem_take q))
  · exact hm (.inr q)⟩
mutual
theorem SimV.cut {μ : Mu} {H : Hp} {n : Nat} : ∀ {x : MV} {v : V}, x.lt n → SimV C μ H x v → SimV C (μ.cut n) H x v
  | .non, v, _, h => by simpa [SimV] using h
  | .bl b, v, _, h => by simpa [SimV] using h
  | .int i, v, _, h => by simpa [SimV] using h
  | .str s, v, _, h => by simpa [SimV] using h
  | .tup xs, v, l, h => by
    simp only [SimV] at h ⊢
    obtain ⟨a, vs, h1, h2, h3⟩ := h
    refine ⟨a, vs, h1, ?_, SimVs.cut (by simpa [MV.lt] using l) h3⟩
    rcases h2 with ⟨(h2 | ⟨o, h2⟩), k⟩ | h2
    · exact .inl ⟨.inl h2, (Ext2.cut a _ h2 k).2⟩
    · exact .inl ⟨.inr ⟨o, h2⟩, (Ext2.cut a _ h2 k).2⟩
    · exact .inr h2
  | .lst xs, v, l, h => by
    simp only [SimV] at h ⊢
    obtain ⟨a, vs, h1, h2, h3⟩ := h
    exact ⟨a, vs, h1, Ext2.cut a _ h2.1 h2.2, SimVs.cut (by simpa [MV.lt] using l) h3⟩
  | .fro xs, v, l, h => by
    simp only [SimV] at h ⊢
    obtain ⟨a, vs, h1, h2, h3⟩ := h
    refine ⟨a, vs, h1, ?_, SimVs.cut (by simpa [MV.lt] using l) h3⟩
    rcases h2 with ⟨(h2 | ⟨o, h2⟩), k⟩ | h2
    · exact .inl ⟨.inl h2, (Ext2.cut a _ h2 k).2⟩
    · exact .inl ⟨.inr ⟨o, h2⟩, (Ext2.cut a _ h2 k).2⟩
    · exact .inr h2
  | .obj c ns xs, v, l, h => by
    simp only [SimV] at h ⊢
    obtain ⟨a, Ca, dx, fs, h1, h2, h3, h4, h5, h6⟩ := h
    exact ⟨a, Ca, dx, fs, h1, h2, h3, (Ext2.cut a _ h3 h4).2, h5, SimVs.cut (by simpa [MV.lt] using l) h6⟩
  | .dct ks xs, v, l, h => by
    simp only [SimV] at h ⊢
    obtain ⟨a, kvs, h1, h3, h4, h5, h6⟩ := h
    exact ⟨a, kvs, h1, h3, (Ext2.cut a _ h3 h4).2, h5, SimVs.cut (by simpa [MV.lt] using l) h6⟩
  | .ref i, v, l, h => by
    simp only [SimV] at h ⊢
    obtain ⟨a, h1, h2⟩ := h
    have l : i < n := by simpa [MV.lt] using l
    refine ⟨a, h1, ?_⟩
    show (μ.c.take n)[i]? = _ ∨ (μ.c.take n)[i]? = _
    rw [List.getElem?_take_of_lt l]
    exact h2
theorem SimVs.cut {μ : Mu} {H : Hp} {n : Nat} : ∀ {xs : List MV} {vs : List V}, MV.lts n xs → SimVs C μ H xs vs → SimVs C (μ.cut n) H xs vs
  | [], vs, _, h => by simpa [SimVs] using h
  | x :: xs, vs, l, h => by
    simp only [MV.lts] at l
    simp only [SimVs] at h ⊢
    obtain ⟨v, r, h1, h2, h3⟩ := h
    exact ⟨v, r, h1, SimV.cut l.1 h2, SimVs.cut l.2 h3⟩
end
mutual
theorem SimV.lt {μ : Mu} {H : Hp} {n : Nat} (hn : μ.c.length = n) : ∀ {x : MV} {v : V}, SimV C μ H x v → x.lt n
  | .non, v, h => by simp [MV.lt]
  | .bl b, v, h => by simp [MV.lt]
  | .int i, v, h => by simp [MV.lt]
  | .str s, v, h => by simp [MV.lt]
  | .tup xs, v, h => by
    simp only [SimV] at h
    obtain ⟨a, vs, h1, h2, h3⟩ := h
    simpa [MV.lt] using SimVs.lt hn h3
  | .lst xs, v, h => by
    simp only [SimV] at h
    obtain ⟨a, vs, h1, h2, h3⟩ := h
    simpa [MV.lt] using SimVs.lt hn h3
  | .fro xs, v, h => by
    simp only [SimV] at h
    obtain ⟨a, vs, h1, h2, h3⟩ := h
    simpa [MV.lt] using SimVs.lt hn h3
  | .obj c ns xs, v, h => by
    simp only [SimV] at h
    obtain ⟨a, Ca, dx, fs, h1, h2, h3, h4, h5, h6⟩ := h
    simpa [MV.lt] using SimVs.lt hn h6
  | .dct ks xs, v, h => by
    simp only [SimV] at h
    obtain ⟨a, kvs, h1, h3, h4, h5, h6⟩ := h
    simpa [MV.lt] using SimVs.lt hn h6
  | .ref i, v, h => by
    simp only [SimV] at h
    obtain ⟨a, h1, h2⟩ := h
    simp only [MV.lt]
    rcases h2 with h2 | h2
    · have := (List.getElem?_eq_some_iff.mp h2).1; omega
    · have := (List.getElem?_eq_some_iff.mp h2).1; omega
theorem SimVs.lt {μ : Mu} {H : Hp} {n : Nat} (hn : μ.c.length = n) : ∀ {xs : List MV} {vs : List V}, SimVs C μ H xs vs → MV.lts n xs
  | [], vs, _ => by simp [MV.lts]
  | x :: xs, vs, h => by
    simp only [SimVs] at h
    obtain ⟨v, r, h1, h2, h3⟩ := h
    simp only [MV.lts]
    exact ⟨SimV.lt hn h2, SimVs.lt hn h3⟩
end
theorem CellOk.lt {μ : Mu} {H : Hp} {n : Nat} (hn : μ.c.length = n) {o : MO} {x : Option Addr} (c : CellOk C μ H o x) : o.lt n := by
  cases o with
  | gone => trivial
  | lst xs => obtain ⟨a, vs, e1, e2, e3⟩ := c; exact e3.lt hn
  | dct ks xs => obtain ⟨a, vs, e1, e2, e3, e4⟩ := c; exact e4.lt hn
  | ins c' ns xs => obtain ⟨a, Ca, dx, fs, e1, e0, e2, e3, e4⟩ := c; exact e4.lt hn
theorem CellOk.cut {μ : Mu} {H : Hp} {n : Nat} {o : MO} {x : Option Addr} (l : o.lt n) (c : CellOk C μ H o x) : CellOk C (μ.cut n) H o x := by
  cases o with
  | gone => exact c
  | lst xs => obtain ⟨a, vs, e1, e2, e3⟩ := c; exact ⟨a, vs, e1, e2, e3.cut l⟩
  | dct ks xs => obtain ⟨a, vs, e1, e2, e3, e4⟩ := c; exact ⟨a, vs, e1, e2, e3, e4.cut l⟩
  | ins c' ns xs => obtain ⟨a, Ca, dx, fs, e1, e0, e2, e3, e4⟩ := c; exact ⟨a, Ca, dx, fs, e1, e0, e2, e3, e4.cut l⟩
/-- the cells of h' below h's length speak of such cells alone -/
def Tidy (h h' : MH) : Prop := ∀ (i : Nat), i < h.length → h'[i]? = h[i]? ∨ ∃ o, h'[i]? = some o ∧ o.lt h.length
open Classical in
noncomputable def Out.cut (h : MH) (o : Out MV) : Out MV := match o with
  | .ok v h' => if v.lt h.length ∧ Tidy h h' then .ok v (h'.take h.length) else .bad
  | .er c h' => if Tidy h h' then .er c (h'.take h.length) else .bad
  | .bad => .bad
theorem cut_all {μ μ' : Mu} {H H' : Hp} {h h' : MH} (S : SimH C μ H h) (e : Ext μ H μ' H') (S' : SimH C μ' H' h') (t : Tidy h h') : Ext μ H (μ'.cut h.length) H' ∧ SimH C (μ'.cut h.length) H' (h'.take h.length) := by
  have get : ∀ {j : Nat} {x : Option Addr}, (μ'.c.take h.length)[j]? = some x → j < h.length ∧ μ'.c[j]? = some x := fun {j x} q => by
    have l := (List.getElem?_eq_some_iff.mp q).1
    rw [List.length_take] at l
    have l1 : j < h.length := Nat.lt_of_lt_of_le l (Nat.min_le_left _ _)
    rw [List.getElem?_take_of_lt l1] at q
    exact ⟨l1, q⟩
  refine ⟨⟨fun a o ha hm => ?_, fun i x q => ?_, e.2.2.1, e.2.2.2⟩, ⟨by simp [Mu.cut, S'.len], S'.nn, fun i a q => S'.dis i a (get q).2, fun i j a q1 q2 => S'.inj i j a (get q1).2 (get q2).2, fun i o x q1 q2 => ?_⟩⟩
  · obtain ⟨k1, k2⟩ := e.1 a o ha hm
    exact ⟨k1, (Ext2.cut a o k1 k2).2⟩
  · have l : i < h.length := by rw [← S.len]; exact (List.getElem?_eq_some_iff.mp q).1
    show (μ'.c.take h.length)[i]? = _ ∨ (μ'.c.take h.length)[i]? = _
    rw [List.getElem?_take_of_lt l]
    exact e.2.1 i x q
  · obtain ⟨l, q2⟩ := get q2
    rw [List.getElem?_take_of_lt l] at q1
    have c := S'.cell i o x q1 q2
    refine c.cut ?_
    rcases t i l with t | ⟨o', t1, t2⟩
    · rw [q1] at t
      exact (S.cell i o _ t.symm (by rw [List.getElem?_eq_getElem (by rw [S.len]; exact l)])).lt S.len
    · rw [q1] at t1; cases t1; exact t2
theorem OPost.cut {W : WX} {μ : Mu} {H : Hp} {σ : L2.St} {Q : VK} {h : MH} {o : Out MV} (S : SimH C μ H h) (P : OPost C W (SimV C) μ H σ Q (o.cut h)) : OPost C W (SimV C) μ H σ Q o := by
  cases o with
  | bad => exact P
  | er c h' =>
    intro μ' H' Ca e' S' hc
    unfold Out.cut at P
    simp only at P
    split at P
    · rename_i t
      obtain ⟨e2, S2⟩ := cut_all S e' S' t
      exact P _ H' Ca e2 S2 hc
    · exact P.elim
  | ok v h' =>
    intro μ' H' V e' S' r'
    unfold Out.cut at P
    simp only at P
    split at P
    · rename_i t
      obtain ⟨e2, S2⟩ := cut_all S e' S' t.2
      exact P _ H' V e2 S2 (r'.cut t.1)
    · exact P.elim
noncomputable def cutF (f : MFun) : MFun := fun ms h => (f ms h).cut h
theorem ok_frz {P : Program} {w : World} {K : PySem.W.Frag} {mg : Str → Option Value} {base : Heap} {CX : CXT} {k n : Nat} {f : Addr} {fd : FuncData} {ps : List Str} {mf : MFun} (F : FnOk P w K mg base CX k f fd ps (spOf C n mf)) : FnOk P w K mg base CX k f fd ps (spOf C n (frzF mf)) :=
  F.imp fun vs H Q E ⟨μ, h, ms, a, b, c, p⟩ => ⟨μ, h, ms, a, b, c, p.frz⟩
theorem ok_cut {P : Program} {w : World} {K : PySem.W.Frag} {mg : Str → Option Value} {base : Heap} {CX : CXT} {k n : Nat} {f : Addr} {fd : FuncData} {ps : List Str} {mf : MFun} (F : FnOk P w K mg base CX k f fd ps (spOf C n mf)) : FnOk P w K mg base CX k f fd ps (spOf C n (cutF mf)) :=
  F.imp fun vs H Q E ⟨μ, h, ms, a, b, c, p⟩ => ⟨μ, h, ms, a, b, c, OPost.cut c p⟩
end
end Mini
end

section
set_option Elab.async false
set_option linter.all false
set_option maxRecDepth 100000
set_option maxHeartbeats 2000000
/-! Mini: instances. -/
namespace Mini
open PySem L2 PyProof.Rows
def lookM (f : Str) : List Str → List MV → Option MV
  | g :: ns, x :: xs => if f == g then some x else lookM f ns xs
  | _, _ => none
def putN (f : Str) : List Str → List Str
  | [] => [f]
  | g :: ns => if g = f then g :: ns else g :: putN f ns
def putX (f : Str) (v : MV) : List Str → List MV → List MV
  | [], _ => [v]
  | g :: ns, x :: xs => if g = f then v :: xs else x :: putX f v ns xs
  | _ :: _, [] => []
section
variable {C : SC} {W : WX} {pi : Pin} {X : Cx} {σ : L2.St} {H : Hp}
theorem look_sim {μ : Mu} {f : Str} {v : MV} : ∀ {ns : List Str} {xs : List MV} {fs : List (Str × V)}, lookM f ns xs = some v → fs.map (·.1) = ns → SimVs C μ H xs (fs.map (·.2)) → ∃ w, fs.lookup f = some w ∧ SimV C μ H v w
  | [], _, _, e, _, _ => by simp [lookM] at e
  | _ :: _, [], _, e, _, _ => by simp [lookM] at e
  | g :: ns, x :: xs, [], _, en, _ => by simp at en
  | g :: ns, x :: xs, (g', y) :: fs, e, en, r => by
    simp only [List.map_cons, List.cons.injEq] at en
    obtain ⟨rfl, en⟩ := en
    obtain ⟨v', r', e1, h2, h3⟩ := r.cons_inv
    simp only [List.map_cons, List.cons.injEq] at e1
    obtain ⟨rfl, rfl⟩ := e1
    simp only [lookM] at e
    split at e
    · rename_i hg
      cases e
      exact ⟨y, by simp [List.lookup, hg], h2⟩
    · rename_i hg
      obtain ⟨w, k1, k2⟩ := look_sim e en h3
      exact ⟨w, by simp [List.lookup, Bool.eq_false_iff.mpr hg, k1], k2⟩
theorem put_sim {μ : Mu} {f : Str} {v : MV} {y : V} (hv : SimV C μ H v y) : ∀ {ns : List Str} {xs : List MV} {fs : List (Str × V)}, fs.map (·.1) = ns → SimVs C μ H xs (fs.map (·.2)) → (putF f y fs).map (·.1) = putN f ns ∧ SimVs C μ H (putX f v ns xs) ((putF f y fs).map (·.2))
  | [], xs, [], _, r => by simp only [putF, putN, putX, List.map]; exact ⟨by trivial, .cons hv .nil⟩
  | [], _, _ :: _, en, _ => by simp at en
  | _ :: _, _, [], en, _ => by simp at en
  | g :: ns, [], (g', z) :: fs, en, r => by
    have := r.nil_inv
    simp at this
  | g :: ns, x :: xs, (g', z) :: fs, en, r => by
    simp only [List.map_cons, List.cons.injEq] at en
    obtain ⟨rfl, en⟩ := en
    obtain ⟨v', r', e1, h2, h3⟩ := r.cons_inv
    simp only [List.map_cons, List.cons.injEq] at e1
    obtain ⟨rfl, rfl⟩ := e1
    obtain ⟨a, b⟩ := put_sim hv en h3
    simp only [putF, putN, putX]
    by_cases hg : g' = f
    · simp only [hg, if_true, List.map_cons]
      exact ⟨by rw [en], .cons hv h3⟩
    · simp only [hg, if_false, List.map_cons]
      exact ⟨by rw [a], .cons h2 b⟩

/-! ### o.f -/
def insOf (h : MH) : MV → Option (Nat × List Str × List MV)
  | .obj c ns xs => some (c, ns, xs)
  | .ref i => match h[i]? with
    | some (.ins c ns xs) => some (c, ns, xs)
    | _ => none
  | _ => none
theorem insOf_sim {μ : Mu} {h : MH} (S : SimH C μ H h) {x : MV} {Xv : V} {c : Nat} {ns : List Str} {xs : List MV} (r : SimV C μ H x Xv) (e : insOf h x = some (c, ns, xs)) : ∃ a Ca dx fs, Xv = .ref a ∧ C.cl[c]? = some Ca ∧ H a = some (.ins Ca dx fs) ∧ fs.map (·.1) = ns ∧ SimVs C μ H xs (fs.map (·.2)) := by
  cases x <;> simp only [insOf] at e <;> try (cases e; done)
  case obj =>
    cases e
    simp only [SimV] at r
    obtain ⟨a, Ca, dx, fs, h1, h2, h3, _, h5, h6⟩ := r
    exact ⟨a, Ca, dx, fs, h1, h2, h3, h5, h6⟩
  case ref i =>
    split at e
    · rename_i c' ns' xs' hi
      cases e
      obtain ⟨o, ho, ck⟩ := S.at hi
      obtain ⟨a, Ca, dx, fs, e1, e0, e2, e3, e4⟩ := ck
      simp only [SimV] at r
      obtain ⟨a', rfl, q | q⟩ := r
      · rw [ho] at q; cases q; cases e1
        exact ⟨_, Ca, dx, fs, rfl, e0, e2, e3, e4⟩
      · rw [ho] at q; cases q; cases e1
    · cases e
def mFld (c : Nat) (f : Str) (o : ME) : ME := fun ρ h => (o ρ h).bind fun x h1 => match insOf h1 x with
  | some (c', ns, xs) => if c' = c then (match lookM f ns xs with
    | some v => .ok v h1
    | none => .bad) else .bad
  | none => .bad
variable {e : Expr} {me mv : ME} {pos pos' : Pos} {f : Str} {c : Nat} {Ca : Addr}
theorem sFldR (hk : C.K = X.K) (hcl : C.cl[c]? = some Ca) (T : Cls X.K Ca) (hn : NoAttr X.K Ca f) (he : PE X e (rdE C W pi me)) (hb : attributeBase e f X.env (eval e X.env) = eval e X.env := by rfl) : PE X (.Attribute e f pos) (rdE C W pi (mFld c f me)) :=
  PE.imp (pe_fld he hb) fun σ H Q q => by
    obtain ⟨μ, ρ, h, S, P⟩ := q
    refine rd_bind S P fun μ1 h1 H1 x Xv e1 S1 r1 P1 => ?_
    split at P1
    · rename_i c' ns xs ei
      split at P1
      · rename_i hc
        subst hc
        split at P1
        · rename_i v el
          obtain ⟨a, Cb, dx, fs, rfl, k1, k2, k3, k4⟩ := insOf_sim S1.heap r1 ei
          rw [hcl] at k1; cases k1
          obtain ⟨w, l1, l2⟩ := look_sim el k3 k4
          exact ⟨a, Ca, dx, fs, w, rfl, k2, T, hn, l1, fin_same S1.heap P1 l2⟩
        · exact P1.elim
      · exact P1.elim
    · exact P1.elim
/-- o.f = e, the object a cell -/
def mSetFld (c : Nat) (f : Str) (o e : ME) : MS := fun ρ h => (e ρ h).then ρ fun y h1 => (o ρ h1).then ρ fun x h2 => match x with
  | .ref i => (match h2[i]? with
    | some (.ins c' ns xs) => if c' = c ∧ ns.length < 1000 then .nx ρ (h2.set i (.ins c (putN f ns) (putX f y ns xs))) else .bad
    | _ => .bad)
  | _ => .bad
theorem sSetFld {o : Expr} {mo : ME} (hk : C.K = X.K) (hcl : C.cl[c]? = some Ca) (T : Cls X.K Ca) (hn : NoAttr X.K Ca f) (ho : PE X o (rdE C W pi mo)) (he : PE X e (rdE C W pi me)) (hs : swapsWith e (some (.Attribute o f pos')) pos.line X.env = pure false := by rfl) :
    PS X (.Assign [.Attribute o f pos'] e pos) (rdS C W pi (mSetFld c f mo me)) := PS.imp (ps_fld ho he hs) fun D σ H q => by
  obtain ⟨μ, ρ, h, S, P⟩ := q
  refine rd_then S P fun μ1 h1 H1 y Yv e1 S1 r1 P1 => ?_
  refine rd_then S1 P1 fun μ2 h2 H2 x Xv e2 S2 r2 P2 => ?_
  cases x <;> simp only at P2 <;> try exact P2.elim
  rename_i i
  split at P2
  · rename_i c' ns xs hi
    split at P2
    · rename_i hc
      obtain ⟨rfl, hl⟩ := hc
      obtain ⟨ob, hob, ck⟩ := S2.heap.at hi
      obtain ⟨a, Cb, dx, fs, q1, q0, q2, q3, q4⟩ := ck
      subst q1
      rw [hcl] at q0; cases q0
      simp only [SimV] at r2
      obtain ⟨a', rfl, z | z⟩ := r2
      · rw [hob] at z; cases z
        refine ⟨a, Ca, dx, fs, rfl, q2, T, hn, by rw [← q3, List.length_map] at hl; exact hl, ?_⟩
        have ex := Ext.put (o := .ins Ca dx (putF f Yv fs)) S2.heap hob
        obtain ⟨p1, p2⟩ := put_sim (f := f) ((r1.ext e2).ext ex) q3 (q4.ext ex)
        exact P2 μ2 σ _ ex (S2.go ex (S2.heap.put hob ⟨a, Ca, dx, _, rfl, hcl, upd_same, p1, p2⟩))
      · rw [hob] at z; cases z
    · exact P2.elim
  · exact P2.elim

/-! ### o.m(..) -/
def mMeth (c n : Nat) (m : Str) (f : MFun) (o : ME) (as : MA) : ME := fun ρ h => (o ρ h).bind fun x h1 => match insOf h1 x with
  | some (c', ns, xs) => if c' = c ∧ lookM m ns xs = none ∧ ns.length = xs.length then (as ρ h1).bind fun ys h2 => if ys.length + 1 = n then (f (x :: ys) h2).hard else .bad else .bad
  | none => .bad
theorem look_none {m : Str} : ∀ {fs : List (Str × V)} {xs : List MV}, lookM m (fs.map (·.1)) xs = none → fs.length = xs.length → fs.lookup m = none
  | [], _, _, _ => rfl
  | _ :: _, [], _, e => by simp at e
  | (g, y) :: fs, x :: xs, h, e => by
    simp only [List.map_cons, lookM] at h
    split at h
    · cases h
    · rename_i hg
      simp only [List.length_cons, Nat.add_right_cancel_iff] at e
      simp [List.lookup, Bool.eq_false_iff.mpr hg, look_none h e]
variable {o : Expr} {mo : ME} {es : List Expr} {ms : MA} {m : Str} {apos : Pos} {k n : Nat} {g : Addr} {fd : FuncData} {ps : List Str} {mf : MFun} {a1 : Expr}
theorem rd_meth {Q : VK} (hcl : C.cl[c]? = some Ca) (q : rdE C W pi (mMeth c n m mf mo ms) σ H Q) : tMeth Ca m (spOf C n mf) [] E0 (rdE C W pi mo) (rdA C W pi ms) σ H Q := by
  obtain ⟨μ, ρ, h, S, P⟩ := q
  refine rd_bind S P fun μ1 h1 H1 x Xv e1 S1 r1 P1 => ?_
  split at P1
  · rename_i c' ns xs ei
    split at P1
    · rename_i hc
      obtain ⟨rfl, hl, hle⟩ := hc
      obtain ⟨a, Cb, dx, fs, rfl, k1, k2, k3, k4⟩ := insOf_sim S1.heap r1 ei
      rw [hcl] at k1; cases k1
      subst k3
      refine ⟨a, dx, fs, rfl, k2, look_none hl (by simpa using hle), ?_⟩
      refine rd_bind S1 P1 fun μ2 h2 H2 ys Ys e2 S2 r2 P2 => ?_
      split at P2
      · rename_i hn
        rw [List.append_nil]
        refine ⟨μ2, h2, x :: ys, by simpa using hn, .cons (r1.ext e2) r2, S2.heap, ?_⟩
        have := P2.hard
        cases eo : mf (x :: ys) h2 with
        | ok v h3 => rw [eo] at this; exact this
        | er c h3 => rw [eo] at P2; exact P2.elim
        | bad => rw [eo] at this; exact this
      · exact P2.elim
    · exact P1.elim
  · exact P1.elim
theorem opost_mono {α β : Type} {R : Mu → Hp → α → β → Prop} {μ : Mu} {Q Q' : β → Hp → Prop} {o : Out α} (P : OPost C W R μ H σ Q o) (hq : ∀ v H, Q v H → Q' v H) : OPost C W R μ H σ Q' o := by
  cases o with
  | ok a h => exact fun μ' H' b e' S' r => hq _ _ (P μ' H' b e' S' r)
  | er c h => exact P
  | bad => exact P
theorem rdG_mono {α β : Type} {R : Mu → Hp → α → β → Prop} {m' : En → MH → Out α} {Q Q' : β → Hp → Prop} (q : rdG C W pi R m' σ H Q) (hq : ∀ v H, Q v H → Q' v H) : rdG C W pi R m' σ H Q' := by
  obtain ⟨μ, ρ, h, S, P⟩ := q
  exact ⟨μ, ρ, h, S, opost_mono P hq⟩
theorem rd_nil {Q : List V → Hp → Prop} (q : rdA C W pi mNil σ H Q) : tNil σ H Q := by
  obtain ⟨μ, ρ, h, S, P⟩ := q
  exact P μ H _ .refl S.heap .nil
/-- o.m(..): hp is the layer's own rule -/
theorem sMeth (hcl : C.cl[c]? = some Ca) (hp : PE X e (tMeth Ca m (spOf C n mf) [] E0 (rdE C W pi mo) (rdA C W pi ms))) : PE X e (rdE C W pi (mMeth c n m mf mo ms)) := PE.imp hp fun σ H Q q => rd_meth hcl q
theorem sMeth0 (hcl : C.cl[c]? = some Ca) (hp : PE X e (tMeth Ca m (spOf C n mf) [] E0 (rdE C W pi mo) tNil)) : PE X e (rdE C W pi (mMeth c n m mf mo mNil)) := PE.imp hp fun σ H Q q => by
  have := rd_meth hcl q
  refine rdG_mono (this) fun v H1 z => ?_
  obtain ⟨a, dx, fs, z1, z2, z3, z4⟩ := z
  exact ⟨a, dx, fs, z1, z2, z3, rd_nil z4⟩

/-! ### C(..) -/
def mMk (c : Nat) (f : MFun) (xs : List MV) (h1 : MH) : Out MV := (f (.ref h1.length :: xs) (h1 ++ [.ins c [] []])).bind fun v h2 => match v, h2[h1.length]? with
  | .non, some (.ins c' ns ys) => if c' = c then .ok (.obj c ns ys) (h2.set h1.length .gone) else .bad
  | _, _ => .bad
noncomputable def mMake (c n : Nat) (f : MFun) (ds : List MV) (m : MA) : ME := fun ρ h => (m ρ h).bind fun xs h1 => if (xs ++ ds).length + 1 = n then (mMk c f (xs ++ ds) h1).cut h1 else .bad
/-- C(..), what is raised wished for at the caller's slots -/
def tMakeS (Ca : Addr) (sp : Sp) (dvs : List V) (E : L2.St → XK) (t : TA) : TE := fun σ H Q => t σ H fun vs H1 => ∀ x dx, H1 x = none → H1 dx = none → dx ≠ x →
  sp (.ref x :: (vs ++ dvs)) (upd (upd H1 dx (.own x)) x (.ins Ca dx [])) (fun v H2 => v = .non ∧ Q (.ref x) H2) (E σ)
theorem mk_sim {μ : Mu} {h : MH} {xs : List MV} {Xs : List V} {Q : VK} (hcl : C.cl[c]? = some Ca) (S : SimH C μ H h) (r : SimVs C μ H xs Xs) (hn : xs.length + 1 = n) (P : OPost C W (SimV C) μ H σ Q ((mMk c mf xs h).cut h)) {x dx : Addr} (hx : H x = none) (hdx : H dx = none) (hne : dx ≠ x) :
    spOf C n mf (.ref x :: Xs) (upd (upd H dx (.own x)) x (.ins Ca dx [])) (fun v H2 => v = .non ∧ Q (.ref x) H2) (WE W σ) := by
  have P := P.cut S
  have S1 := S.new (o := .own x) hdx
  have hx1 : upd H dx (.own x) x = none := by rw [upd_ne hne.symm]; exact hx
  have e1 : Ext μ H μ (upd H dx (.own x)) := Ext.new S hdx
  have e2 : Ext μ (upd H dx (.own x)) (μ.push x) (upd (upd H dx (.own x)) x (.ins Ca dx [])) := Ext.push S1 hx1
  have S2 : SimH C (μ.push x) (upd (upd H dx (.own x)) x (.ins Ca dx [])) (h ++ [.ins c [] []]) := S1.push hx1 ⟨x, Ca, dx, [], rfl, hcl, upd_same, rfl, .nil⟩
  have hat : (μ.push x).c[h.length]? = some (some x) := by
    show (μ.c ++ [some x])[h.length]? = some (some x)
    rw [← S.len]; simp
  refine ⟨μ.push x, h ++ [.ins c [] []], .ref h.length :: xs, by simpa using hn, .cons ?_ ((r.ext e1).ext e2), S2, ?_⟩
  · simp only [SimV]; exact ⟨x, rfl, .inl hat⟩
  · unfold mMk at P
    cases eo : mf (.ref h.length :: xs) (h ++ [.ins c [] []]) with
    | er c' h2 =>
      rw [eo] at P
      exact fun μ' H' Cb e' S' hc => P μ' H' Cb ((e1.trans e2).trans e') S' hc
    | bad => rw [eo] at P; exact P.elim
    | ok v h2 =>
      rw [eo] at P
      simp only [bind_ok] at P
      intro μ' H' V e' S' r'
      split at P
      · rename_i c' ns ys hi
        split at P
        · rename_i hc
          subst hc
          simp only [SimV] at r'
          refine ⟨r', ?_⟩
          obtain ⟨ob, hob, ck⟩ := S'.at hi
          obtain ⟨a, Cb, dx', fs, q1, q0, q2, q3, q4⟩ := ck
          subst q1
          have ea : a = x := by
            rcases e'.2.1 _ _ hat with z | z
            · rw [hob] at z; cases z; rfl
            · rw [hob] at z; cases z
          subst ea
          refine P (μ'.lose h.length) H' _ (((e1.trans e2).trans e').trans Ext.lose) S'.lose ?_
          simp only [SimV]
          refine ⟨a, Cb, dx', fs, rfl, q0, q2, ?_, q3, q4.ext Ext.lose⟩
          rintro (q | q)
          · obtain ⟨j, hj⟩ := List.mem_iff_getElem?.mp q
            have hj : (μ'.c.set h.length none)[j]? = some (some a) := hj
            by_cases ej : h.length = j
            · subst ej; rw [List.getElem?_set] at hj; simp at hj
            · rw [List.getElem?_set_ne ej] at hj
              exact ej (S'.inj _ _ a hob hj)
          · exact S'.dis _ a hob q
        · exact P.elim
      · exact P.elim
variable {x : Str} {p : Pos} {fI : Addr} {ds : List Value} {dvs : List V} {dms : List MV}
theorem rd_make {Q : VK} (hcl : C.cl[c]? = some Ca) (hds : ∀ (μ : Mu) (H : Hp), SimVs C μ H dms dvs) (q : rdE C W pi (mMake c n mf dms ms) σ H Q) : tMakeS Ca (spOf C n mf) dvs (WE W) (rdA C W pi ms) σ H Q := by
  obtain ⟨μ, ρ, h, S, P⟩ := q
  refine rd_bind S P fun μ1 h1 H1 xs Xs e1 S1 r1 P1 => ?_
  intro y dy hy hdy hne
  split at P1
  · rename_i hn
    exact mk_sim hcl S1.heap (r1.append (hds ..)) hn P1 hy hdy hne
  · exact P1.elim
end
end Mini
end

section
set_option Elab.async false
set_option linter.all false
set_option maxRecDepth 100000
set_option maxHeartbeats 2000000
/-! Mini: a class called, where its __init__ may raise within a try. -/
namespace Mini
open PySem L2 PyProof.Rows
section
variable {C : SC} {W : WX} {pi : Pin} {X : Cx} {σ : L2.St} {H : Hp} {k : Nat} {Ca fI : Addr} {fd : FuncData} {ps : List Str} {sp : Sp} {ds : List Value} {dvs : List V}
theorem made_at {E : XK} {pins : List (Addr × Obj)} {s : Shared} {Q : VK} {us : List Value} {vs : List V} (M : Mk X.K Ca fI) (F : FnOk X.prog X.w X.K X.mg X.base (L2.CX X.prog X.w) k fI fd ps sp) (hr : Room (k + 1) X.A) (hb : Binds X.K fd ps ds) (hd : Vals dvs ds)
    (hx : PassesAt (L2.CX X.prog X.w) X σ E) (I : Inv X pins σ H s) (r : Vals vs us)
    (q : ∀ x dx, H x = none → H dx = none → dx ≠ x → sp (.ref x :: (vs ++ dvs)) (upd (upd H dx (.own x)) x (.ins Ca dx [])) (fun v H2 => v = .non ∧ Q (.ref x) H2) E) :
    wpAny (model X.prog X.w) X.A (call (.ref Ca) us) (EP X pins σ Q) X.xe s := by
  -- where the instance and its dict will stand
  have n0 : H s.heap.objs.size = none := I.hok.fresh (Nat.le_refl _)
  have n1 : H (s.heap.objs.size + 1) = none := I.hok.fresh (Nat.le_succ _)
  have q1 := q (s.heap.objs.size + 1) s.heap.objs.size n1 n0 (Nat.ne_of_lt (Nat.lt_succ_self _))
  have J := I.made (C := Ca)
  have rr : Vals (V.ref (s.heap.objs.size + 1) :: (vs ++ dvs)) (Value.ref (s.heap.objs.size + 1) :: (us ++ ds)) := .cons rfl (r.append hd)
  have len : (Value.ref (s.heap.objs.size + 1) :: us ++ ds).length = ps.length := (F.len _ _ _ _ q1 ▸ rr.length).symm
  have binds := hb _ (Value.ref (s.heap.objs.size + 1) :: us) J.kIn len
  have run := F.run _ X.stack _ _ ⟨Value.ref (s.heap.objs.size + 1) :: us, []⟩ _ _ _ E (hr.make Ca us []) (J.env0.make Ca us []) binds rr q1
  refine wpAny_call (make_map (f := fI) I.kIn M.makes M.init (beq_iff_eq.mp M.fn) (codeAny_mono run fun res s' hres => ?_))
  match res, hres with
  | .error e, hres => exact hx pins _ _ e s' J hres
  | .ok (.ret u), hres =>
    obtain ⟨v, H', K3, rv, ev, q3⟩ := J.after hres
    subst ev
    exact ⟨rv, V.ref _, H', K3, rfl, q3⟩
variable {x : Str} {p pos : Pos} {e : Expr} {es : List Expr} {t : TA} {c n : Nat} {mf : MFun} {ms : MA} {dms : List MV}
theorem pe_makeS {E : L2.St → XK} (M : Mk X.K Ca fI) (F : FnOk X.prog X.w X.K X.mg X.base (L2.CX X.prog X.w) k fI fd ps sp) (hr : Room (k + 1) X.A) (hg : Gl X x) (hm : X.mg x = some (.ref Ca)) (hb : Binds X.K fd ps ds) (hd : Vals dvs ds) (hx : ∀ σ, PassesAt (L2.CX X.prog X.w) X σ (E σ))
    (ha : PA X (e :: es) t) (hdb : (x == ("__debug__" : Str)) = false := by decide) (he : starEach (e :: es) X.env = (false, eval e X.env) :: starEach es X.env := by rfl) (hpl : (backTo pos (starEach es X.env)).any (·.1) = false := by rfl) :
    PE X (.Call (.Name x p) (e :: es) [] pos) (tMakeS Ca sp dvs E t) := by
  constructor
  intro pins s σ H Q I q
  refine wpAny_Call_Name_kw (ld_glob I hg hm ?_ hdb)
  refine PySem.W.callWith_K (h₀ := X.base) I.ok.mod.kin M.kp ?_ he hpl
  exact thn (ha.run pos pins s σ H _ I q) fun us s1 ⟨vs, H1, I1, r1, q1⟩ => ⟨I1.kIn, made_at M F hr hb hd (hx σ) I1 r1 q1⟩
theorem pe_makeS0 {E : L2.St → XK} (M : Mk X.K Ca fI) (F : FnOk X.prog X.w X.K X.mg X.base (L2.CX X.prog X.w) k fI fd ps sp) (hr : Room (k + 1) X.A) (hg : Gl X x) (hm : X.mg x = some (.ref Ca)) (hb : Binds X.K fd ps ds) (hd : Vals dvs ds) (hx : ∀ σ, PassesAt (L2.CX X.prog X.w) X σ (E σ))
    (hdb : (x == ("__debug__" : Str)) = false := by decide) : PE X (.Call (.Name x p) [] [] pos) (tMakeS Ca sp dvs E tNil) := by
  constructor
  intro pins s σ H Q I q
  refine wpAny_Call_Name_kw (ld_glob I hg hm ?_ hdb)
  exact PySem.W.callWith_K0 I.kIn M.kp (made_at (us := []) M F hr hb hd (hx σ) I .nil q)
theorem sMake (hcl : C.cl[c]? = some Ca) (M : Mk X.K Ca fI) (F : FnOk X.prog X.w X.K X.mg X.base (L2.CX X.prog X.w) k fI fd ps (spOf C n mf)) (tk : Takes X W) (hr : Room (k + 1) X.A) (hm : X.mg x = some (.ref Ca)) (hb : Binds X.K fd ps ds) (hd : Vals dvs ds) (hds : ∀ (μ : Mu) (H : Hp), SimVs C μ H dms dvs)
    (ha : PA X (e :: es) (rdA C W pi ms)) (hg : Gl X x := by rfl) (hdb : (x == ("__debug__" : Str)) = false := by decide) (he : starEach (e :: es) X.env = (false, eval e X.env) :: starEach es X.env := by rfl) (hpl : (backTo pos (starEach es X.env)).any (·.1) = false := by rfl) :
    PE X (.Call (.Name x p) (e :: es) [] pos) (rdE C W pi (mMake c n mf dms ms)) := PE.imp (pe_makeS M F hr hg hm hb hd (fun σ => passAt tk σ) ha hdb he hpl) fun σ H Q q => rd_make hcl hds q
theorem sMake0 (hcl : C.cl[c]? = some Ca) (M : Mk X.K Ca fI) (F : FnOk X.prog X.w X.K X.mg X.base (L2.CX X.prog X.w) k fI fd ps (spOf C n mf)) (tk : Takes X W) (hr : Room (k + 1) X.A) (hm : X.mg x = some (.ref Ca)) (hb : Binds X.K fd ps ds) (hd : Vals dvs ds) (hds : ∀ (μ : Mu) (H : Hp), SimVs C μ H dms dvs)
    (hg : Gl X x := by rfl) (hdb : (x == ("__debug__" : Str)) = false := by decide) :
    PE X (.Call (.Name x p) [] [] pos) (rdE C W pi (mMake c n mf dms mNil)) := PE.imp (pe_makeS0 M F hr hg hm hb hd (fun σ => passAt tk σ) hdb) fun σ H Q q => by
  have := rd_make hcl hds q
  exact rd_nil this
end
end Mini
end

section
set_option Elab.async false
set_option linter.all false
set_option maxRecDepth 100000
set_option maxHeartbeats 2000000
/-! Mini: what is left: minus, ranges downward, stores by place, targets in the text, a def with all that its callers ask. -/
namespace Mini
open PySem L2 PyProof.Rows
section
variable {C : SC} {W : WX} {pi : Pin} {X : Cx} {σ : L2.St} {H : Hp}
def fNeg (x : MV) (h : MH) : Out MV := match x with
  | .int i => .ok (.int (-i)) h
  | _ => .bad
theorem op1_neg : Op1 C (SimV C) fNeg (rU fun i => .int (-i)) := by
  intro μ H h x X Q S rx P
  cases x <;> try exact P.elim
  simp only [SimV] at rx
  subst rx
  exact ⟨_, rfl, fin_same S P sv_int⟩
theorem sUn {op : UnaryOp} {r : V → Hp → VK → Prop} {f : MV → MH → Out MV} {a : Expr} {ma : ME} {pos : Pos} (ho : UnR X (unaryOp op) r) (hf : Op1 C (SimV C) f r) (ha : PE X a (rdE C W pi ma)) : PE X (.UnaryOp op a pos) (rdE C W pi (mUn f ma)) :=
  PE.imp (pe_un ho ha) fun _ _ _ => rd_un hf
/-- range(a, b, -1) -/
def rangeD (lo : Int) (n : Nat) : List MV := (List.range n).map fun (k : Nat) => MV.int (lo + (k : Int) * (-1))
def mRngD (m : MA) : MI := fun ρ h => (m ρ h).bind fun xs h1 => match xs with
  | [.int i, .int j, .int (-1)] => if okR i ∧ okR j then .ok ⟨rangeD i (i - j).toNat, fun _ => True⟩ h1 else .bad
  | _ => .bad
theorem itd_sim {μ0 : Mu} {H0 : Hp} {lo : Int} {n : Nat} {c : MH → Prop} : ItSim C μ0 H0 ⟨rangeD lo n, c⟩ (Itc lo (-1) n) := by
  intro i μ H h e S _
  refine ⟨fun hi => show n ≤ i by simpa [rangeD] using hi, fun x hx => ?_⟩
  simp only [rangeD, List.getElem?_map, Option.map_eq_some_iff] at hx
  obtain ⟨k, hk, rfl⟩ := hx
  obtain ⟨h1, h2⟩ := List.getElem?_eq_some_iff.mp hk
  simp at h1 h2
  subst h2
  refine ⟨h1, fun Vv H' y => ?_⟩
  obtain ⟨rfl, rfl⟩ := y
  exact ⟨.refl, S, sv_int⟩
theorem iRngDR {a b c : Expr} {tg : Expr} {m : MA} {p pos : Pos} (hm : X.mg "range" = none) (ha : PA X [a, b, c] (rdA C W pi m)) (hg : Gl X "range" := by rfl)
    (hs : starEach [a, b, c] X.env = (false, eval a X.env) :: starEach [b, c] X.env := by rfl) (hpl : (backTo pos (starEach [b, c] X.env)).any (·.1) = false := by rfl) : PI X tg (.Call (.Name "range" p) [a, b, c] [] pos) (rdI C W pi (mRngD m)) := by
  refine PI.imp (pi_range3 hg hm ha hs hpl) fun σ H R q => ?_
  obtain ⟨μ, ρ, h, S, P⟩ := q
  refine rd_bind S P fun μ1 h1 H1 x Xv e1 S1 r1 P1 => ?_
  split at P1
  · rename_i i j
    split at P1
    · rename_i hj
      obtain ⟨v, r', rfl, h2, h3⟩ := r1.cons_inv
      obtain ⟨v', r'', rfl, h4, h5⟩ := h3.cons_inv
      obtain ⟨v'', r3, rfl, h6, h7⟩ := h5.cons_inv
      have := h7.nil_inv; subst this
      simp only [SimV] at h2 h4 h6; subst h2 h4 h6
      exact ⟨i, j, -1, _, rfl, .neg hj.1.1 hj.1.2 hj.2.1 hj.2.2, P1 μ1 H1 _ .refl S1.heap itd_sim⟩
    · exact P1.elim
  · exact P1.elim

/-! ### o[i] = e, o a cell -/
def mSetIx (o i e : ME) : MS := fun ρ h => (e ρ h).then ρ fun y h1 => (o ρ h1).then ρ fun x h2 => (i ρ h2).then ρ fun k h3 => match cellOf h3 x, k with
  | some (c, xs), .int j => (match ixN xs.length j with
    | some n => .nx ρ (h3.set c (.lst (xs.set n y)))
    | none => .bad)
  | _, _ => .bad
theorem rd_setIx {mo mi me : ME} {D : Ends} (q : rdS C W pi (mSetIx mo mi me) D σ H) : tAsg (rdE C W pi me) (gSub (rdE C W pi mo) (rdE C W pi mi) rSetL) D σ H := by
  obtain ⟨μ, ρ, h, S, P⟩ := q
  refine rd_then S P fun μ1 h1 H1 y Yv e1 S1 r1 P1 => ?_
  refine rd_then S1 P1 fun μ2 h2 H2 x Xv e2 S2 r2 P2 => ?_
  refine rd_then S2 P2 fun μ3 h3 H3 k Kv e3 S3 r3 P3 => ?_
  split at P3
  · rename_i c xs j ec
    split at P3
    · rename_i n en
      obtain ⟨a, vs, rfl, hc, ha, r4⟩ := cellOf_sim S3.heap (r2.ext e3) ec
      simp only [SimV] at r3
      subst r3
      refine ⟨a, vs, j, n, rfl, rfl, ha, by rw [r4.length]; exact en, ?_⟩
      have ex := Ext.put (o := .lst (vs.set n Yv)) S3.heap hc
      have ry := ((r1.ext e2).ext e3)
      exact P3 μ3 σ _ ex (S3.go ex (S3.heap.put hc ⟨a, _, rfl, upd_same, (r4.set ry n).ext ex⟩))
    · exact P3.elim
  · exact P3.elim
/-- hp is the layer's own rule -/
theorem sSetIx {st : Stmt} {mo mi me : ME} (hp : PS X st (tAsg (rdE C W pi me) (gSub (rdE C W pi mo) (rdE C W pi mi) rSetL))) : PS X st (rdS C W pi (mSetIx mo mi me)) := PS.imp hp fun D σ H q => rd_setIx q

/-! ### targets as they stand in the text -/
theorem gN (i : Nat) {x : Str} {pos : Pos} {K : PySem.W.Frag} (hN : X.N.Nodup) (hi : X.N[i]? = some x := by rfl) (hx : Loc X.env.scope x := by first | exact Or.inl rfl | exact Or.inr rfl) (hf : X.fn x = true ∨ X.env.scope.names.lookup x = some .local := by first | exact .inl rfl | exact .inr rfl) : PG X (.Name x pos) ((Tg.name i).rd K) := by
  simp only [Tg.rd]; exact pg_name hN hi hx hf
theorem gsN {K : PySem.W.Frag} : PGs X [] (Tg.rds K []) := by simp only [Tg.rds]; exact pgs_nil
theorem gsC {K : PySem.W.Frag} {e : Expr} {es : List Expr} {t : Tg} {ts : List Tg} (h1 : PG X e (t.rd K)) (h2 : PGs X es (Tg.rds K ts)) (hs : (assignEach (e :: es) X.env).map (·.2) = assign e X.env :: (assignEach es X.env).map (·.2) := by rfl) : PGs X (e :: es) (Tg.rds K (t :: ts)) := by
  simp only [Tg.rds]; exact pgs_cons h1 h2 hs
theorem gT {es : List Expr} {k : Nat} {pos : Pos} {ts : List Tg} (hc : X.calm = true) (h : PGs X es (Tg.rds X.K ts)) (hn : (assignEach es X.env).length = ts.length := by rfl) (hst : (assignEach es X.env).findIdx? (·.1) = none := by rfl) : PG X (.Tuple es k pos) ((Tg.tup ts).rd X.K) := by
  simp only [Tg.rd]; exact pg_tup hc h hn hst

/-! ### a def with all that its callers ask -/
def IsFd (K : PySem.W.Frag) (f : Addr) (fd : FuncData) : Prop := ∃ oc od sl, K.lookup f = some ⟨oc, od, .func fd, sl⟩
structure Has (P : Program) (w : World) (K : PySem.W.Frag) (mg : Str → Option Value) (base : Heap) (cl : List Addr) (k : Nat) (x : Str) (ps : List Str) (n : Nat) (mf : MFun) : Prop where
  ex : ∃ f fd, FnOk P w K mg base (L2.CX P w) k f fd ps (spOf ⟨K, mg, cl⟩ n mf) ∧ mg x = some (.ref f) ∧ PySem.W.keepIn K (.ref f) = true ∧ Binds K fd ps [] ∧ IsFd K f fd
/-- where a def stands in the text -/
structure At (K : PySem.W.Frag) (mg : Str → Option Value) (x : Str) (st : Stmt) (ps : List Str) : Prop where
  ex : ∃ f fd, Fun K x x st f fd ∧ mg x = some (.ref f) ∧ PySem.W.keepIn K (.ref f) = true ∧ Binds K fd ps [] ∧ IsFd K f fd
theorem cCall {cl : List Addr} {x : Str} {p pos : Pos} {e : Expr} {es : List Expr} {ms : MA} {k n : Nat} {ps : List Str} {mf : MFun} (G : Has X.prog X.w X.K X.mg X.base cl k x ps n mf) (tk : Takes X W) (hr : Room k X.A)
    (ha : PA X (e :: es) (rdA ⟨X.K, X.mg, cl⟩ W pi ms)) (hg : Gl X x := by rfl) (hdb : (x == ("__debug__" : Str)) = false := by decide) (he : starEach (e :: es) X.env = (false, eval e X.env) :: starEach es X.env := by rfl) (hpl : (backTo pos (starEach es X.env)).any (·.1) = false := by rfl) :
    PE X (.Call (.Name x p) (e :: es) [] pos) (rdE ⟨X.K, X.mg, cl⟩ W pi (mCall n mf ms)) := by
  obtain ⟨f, fd, F, hm, hk, hb, _⟩ := G.ex
  exact sCall F tk hr hm hk hb ha hg hdb he hpl
section
variable {P : Program} {w : World} {K : PySem.W.Frag} {mg : Str → Option Value} {base : Heap} {cl : List Addr} {k n : Nat} {x : Str} {ps : List Str} {mf : MFun}
theorem Has.mono {j : Nat} (G : Has P w K mg base cl k x ps n mf) (h : k ≤ j) : Has P w K mg base cl j x ps n mf := by
  obtain ⟨f, fd, F, r⟩ := G.ex
  exact ⟨f, fd, F.mono h, r⟩
theorem Has.frz (G : Has P w K mg base cl k x ps n mf) : Has P w K mg base cl k x ps n (frzF mf) := by
  obtain ⟨f, fd, F, r⟩ := G.ex
  exact ⟨f, fd, ok_frz F, r⟩
theorem Has.cut (G : Has P w K mg base cl k x ps n mf) : Has P w K mg base cl k x ps n (cutF mf) := by
  obtain ⟨f, fd, F, r⟩ := G.ex
  exact ⟨f, fd, ok_cut F, r⟩
theorem At.no {st : Stmt} (A : At K mg x st ps) : Has P w K mg base cl k x ps n noFun := by
  obtain ⟨f, fd, F, r⟩ := A.ex
  exact ⟨f, fd, no_ok, r⟩
/-- a def of the text: its body's small semantics -/
theorem has_def {st : Stmt} {N : List Str} {body : MS} (nn : Nat) (A : At K mg x st ps) (S : FnScope N ps (defScope st)) (hn : N.length = nn := by rfl) (har : ps.length = n := by rfl)
    (hbody : ∀ (f : Addr) (cdv : Value) (A : Around) (outer : List Env) (s : Shared) (H : Hp) (E : XK), Room k (A.deeper (envOfC x (defScope st) s.heap.objs.size f cdv)) →
      PSs (cxOf (L2.CX P w) P w K mg base N x (defScope st) f cdv A outer s H E) (defBody st) (rdS ⟨K, mg, cl⟩ (fun cls d _ H => E cls d H) none body)) : Has P w K mg base cl (k + 1) x ps n (mDef nn n body) := by
  obtain ⟨f, fd, F, r⟩ := A.ex
  exact ⟨f, fd, def_ok nn n F S hn har (hbody f), r⟩
end
end
end Mini
end

section
set_option Elab.async false
set_option linter.all false
set_option maxRecDepth 100000
set_option maxHeartbeats 2000000
/-! Mini: classes of the text, their methods, the operators by name. -/
namespace Mini
open PySem L2 PyProof.Rows
section
variable {C : SC} {W : WX} {pi : Pin} {X : Cx} {σ : L2.St} {H : Hp}
theorem op2_sub : Op2 C fSub (rI0 fun i j => .int (i - j)) := op2_int fun _ _ _ _ => sv_int
theorem op2_div : Op2 C fDiv (rI CDiv fun i j => .int (i / j)) := op2_intC fun _ _ _ _ => sv_int
theorem op2_mod : Op2 C fMod (rI (fun _ j => 0 < j) fun i j => .int (i % j)) := op2_intC fun _ _ _ _ => sv_int
theorem op2_shr : Op2 C fShr (rI (fun _ j => 0 ≤ j) fun i j => .int (i / 2 ^ j.toNat)) := op2_intC fun _ _ _ _ => sv_int
theorem op2_and : Op2 C fAnd (rI0 fun i j => .int (Builtin.bitAnd i j)) := op2_int fun _ _ _ _ => sv_int
noncomputable abbrev fPow := fIC CPow fun i j => .int (i ^ j.toNat)
theorem op2_pow : Op2 C fPow (rI CPow fun i j => .int (i ^ j.toNat)) := op2_intC fun _ _ _ _ => sv_int
theorem op2_lt : Op2 C fLt (rI0 fun i j => .bl (decide (i < j))) := op2_int fun _ _ _ _ => sv_bl
theorem op2_le : Op2 C fLe (rI0 fun i j => .bl (decide (i ≤ j))) := op2_int fun _ _ _ _ => sv_bl
theorem op2_gt : Op2 C fGt (rI0 fun i j => .bl (decide (j < i))) := op2_int fun _ _ _ _ => sv_bl
theorem op2_ge : Op2 C fGe (rI0 fun i j => .bl (decide (j ≤ i))) := op2_int fun _ _ _ _ => sv_bl
abbrev fAddI := fI fun i j => .int (i + j)
theorem opi_add : Op2 C fAddI (ipI fun i j => i + j) := op2_int (gV := fun i j => .int (i + j)) fun _ _ _ _ => sv_int
theorem opi_sub : Op2 C fSub (ipI fun i j => i - j) := op2_int (gV := fun i j => .int (i - j)) fun _ _ _ _ => sv_int
/-- a slice of a list as a new cell -/
def mSlH (m : ME) (l u : En → MH → Out (Option Int)) : ME := fun ρ h => (m ρ h).bind fun x h1 => (l ρ h1).bind fun lo h2 => (u ρ h2).bind fun hi h3 => match listOf h3 x with
  | some xs => .ok (.ref h3.length) (h3 ++ [.lst (cutM xs lo hi)])
  | none => .bad
theorem sSlH (hk : C.K = X.K) {a : Expr} {ma : ME} {pos : Pos} {lo hi : Option Expr} {p2 : Pos} {l u : En → MH → Out (Option Int)} (he : PE X a (rdE C W pi ma)) (hl : PO X lo (rdO C W pi l)) (hu : PO X hi (rdO C W pi u)) : PE X (.Subscript a (.Slice lo hi none p2) pos) (rdE C W pi (mSlH ma l u)) :=
  PE.imp (pe_slice sl_G he hl hu) fun σ H Q q => by
    obtain ⟨μ, ρ, h, S, P⟩ := q
    refine rd_bind S P fun μ1 h1 H1 x Xv e1 S1 r1 P1 => ?_
    refine rd_bind S1 P1 fun μ2 h2 H2 o1 O1 e2 S2 r2 P2 => ?_
    refine rd_bind S2 P2 fun μ3 h3 H3 o2 O2 e3 S3 r3 P3 => ?_
    subst r2 r3
    rw [← hk]
    split at P3
    · rename_i xs ex
      obtain ⟨b, vs, rfl, hs, r4⟩ := listOf_sim S3.heap ((r1.ext e2).ext e3) ex
      exact .inl ⟨b, vs, rfl, hs, fun p hp => fin_cell S3.heap P3 (cut_sim r4 _ _) hp⟩
    · exact P3.elim
end

structure AtI (K : PySem.W.Frag) (mg : Str → Option Value) (cl : List Addr) (c : Nat) (qual x : Str) (st : Stmt) (ps : List Str) (dvs : List V) : Prop where
  ex : ∃ Ca f fd, cl[c]? = some Ca ∧ mg x = some (.ref Ca) ∧ Mk K Ca f ∧ FunD K "__init__" qual (defArgs st) (defBody st) (defScope st) dvs [] f fd ∧ Binds K fd ps []
structure AtM (K : PySem.W.Frag) (mg : Str → Option Value) (cl : List Addr) (c : Nat) (qual m : Str) (st : Stmt) (ps : List Str) : Prop where
  ex : ∃ Ca f fd, cl[c]? = some Ca ∧ Meth K Ca m f ∧ Fun K m qual st f fd ∧ Binds K fd ps []
structure HasI (P : Program) (w : World) (K : PySem.W.Frag) (mg : Str → Option Value) (base : Heap) (cl : List Addr) (c : Nat) (k : Nat) (x : Str) (ps : List Str) (n : Nat) (mf : MFun) : Prop where
  ex : ∃ Ca f fd, cl[c]? = some Ca ∧ mg x = some (.ref Ca) ∧ Mk K Ca f ∧ FnOk P w K mg base (L2.CX P w) k f fd ps (spOf ⟨K, mg, cl⟩ n mf) ∧ Binds K fd ps [] ∧ IsFd K f fd
structure HasM (P : Program) (w : World) (K : PySem.W.Frag) (mg : Str → Option Value) (base : Heap) (cl : List Addr) (c : Nat) (k : Nat) (m : Str) (ps : List Str) (n : Nat) (mf : MFun) : Prop where
  ex : ∃ Ca f fd, cl[c]? = some Ca ∧ Meth K Ca m f ∧ FnOk P w K mg base (L2.CX P w) k f fd ps (spOf ⟨K, mg, cl⟩ n mf) ∧ Binds K fd ps []
structure ClsOk (K : PySem.W.Frag) (cl : List Addr) (c : Nat) : Prop where
  ex : ∃ Ca, cl[c]? = some Ca ∧ Cls K Ca
structure FldOk (K : PySem.W.Frag) (cl : List Addr) (c : Nat) (f : Str) : Prop where
  ex : ∃ Ca, cl[c]? = some Ca ∧ Cls K Ca ∧ NoAttr K Ca f
structure ExcOk (K : PySem.W.Frag) (mg : Str → Option Value) (cl : List Addr) (c : Nat) (x : Str) : Prop where
  ex : ∃ Ca, cl[c]? = some Ca ∧ ExcK K mg x Ca
section
variable {P : Program} {w : World} {K : PySem.W.Frag} {mg : Str → Option Value} {base : Heap} {cl : List Addr} {k n c : Nat} {x : Str} {ps : List Str} {mf : MFun}
theorem HasI.frz (G : HasI P w K mg base cl c k x ps n mf) : HasI P w K mg base cl c k x ps n (frzF mf) := by
  obtain ⟨Ca, f, fd, h1, h2, h3, F, r⟩ := G.ex
  exact ⟨Ca, f, fd, h1, h2, h3, ok_frz F, r⟩
theorem HasI.cut (G : HasI P w K mg base cl c k x ps n mf) : HasI P w K mg base cl c k x ps n (cutF mf) := by
  obtain ⟨Ca, f, fd, h1, h2, h3, F, r⟩ := G.ex
  exact ⟨Ca, f, fd, h1, h2, h3, ok_cut F, r⟩
theorem HasM.frz (G : HasM P w K mg base cl c k x ps n mf) : HasM P w K mg base cl c k x ps n (frzF mf) := by
  obtain ⟨Ca, f, fd, h1, h2, F, r⟩ := G.ex
  exact ⟨Ca, f, fd, h1, h2, ok_frz F, r⟩
theorem HasM.cut (G : HasM P w K mg base cl c k x ps n mf) : HasM P w K mg base cl c k x ps n (cutF mf) := by
  obtain ⟨Ca, f, fd, h1, h2, F, r⟩ := G.ex
  exact ⟨Ca, f, fd, h1, h2, ok_cut F, r⟩
/-- the body's run told by its small semantics (as in def_ok) -/
theorem body_run {qual : Str} {scope : Scope} {N : List Str} {body : MS} {st : List Stmt} {nn : Nat} {f : Addr} {cdv : Value} {A : Around} {outer : List Env} {s : Shared} {H : Hp} {vs : List V} {Q : VK} {E : XK} (hn : N.length = nn)
    (hb : PSs (cxOf (L2.CX P w) P w K mg base N qual scope f cdv A outer s H E) st (rdS ⟨K, mg, cl⟩ (fun cls d _ H => E cls d H) none body)) (hsp : spOf ⟨K, mg, cl⟩ n (mDef nn n body) vs H Q E) :
    ∃ t, PSs (cxOf (L2.CX P w) P w K mg base N qual scope f cdv A outer s H E) st t ∧ t { nx := fun _ H' => Q .non H', rt := Q } (L2.start N vs) H := by
  refine ⟨_, hb, ?_⟩
  obtain ⟨μ, h, ms, hl, r, S0, P⟩ := hsp
  refine ⟨μ, _, h, start_sim S0 r hl hn, ?_⟩
  unfold mDef at P
  rw [if_pos hl] at P
  cases eb : body (ms.map some ++ List.replicate (nn - n) none) h with
  | nx ρ' h' =>
    rw [eb] at P
    exact fun μ' σ' H' e' S' => P μ' H' .non e' S'.heap sv_non
  | rt v h' => rw [eb] at P; exact P
  | er c ρ' h' =>
    rw [eb] at P
    exact fun μ' σ' H' Ca e' S' hc => P μ' H' Ca e' S'.heap hc
  | bk ρ' h' => rw [eb] at P; exact P.elim
  | ct ρ' h' => rw [eb] at P; exact P.elim
  | bad => rw [eb] at P; exact P.elim
theorem has_init {qual : Str} {st : Stmt} {N : List Str} {body : MS} {dvs : List V} (nn : Nat) (A : AtI K mg cl c qual x st ps dvs) (S : FnScope N ps (defScope st)) (hn : N.length = nn := by rfl) (har : ps.length = n := by rfl)
    (hbody : ∀ (f : Addr) (cdv : Value) (A : Around) (outer : List Env) (s : Shared) (H : Hp) (E : XK), Room k (A.deeper (envOfC qual (defScope st) s.heap.objs.size f cdv)) →
      PSs (cxOf (L2.CX P w) P w K mg base N qual (defScope st) f cdv A outer s H E) (defBody st) (rdS ⟨K, mg, cl⟩ (fun cls d _ H => E cls d H) none body)) : HasI P w K mg base cl c (k + 1) x ps n (mDef nn n body) := by
  obtain ⟨Ca, f, fd, h1, h2, h3, F, r⟩ := A.ex
  have lk : IsFd K f fd := by
    obtain ⟨oc, od, dV, kV, doc, pm, an, cdv, ct, osl, e1, e2, _⟩ := F.ex
    exact ⟨oc, od, osl, e2⟩
  exact ⟨Ca, f, fd, h1, h2, h3, F.ok S (fun vs H Q E h => by rw [spOf_len h, har]) fun cdv A outer s H vs Q E hr hsp => body_run hn (hbody f cdv A outer s H E hr) hsp, r, lk⟩
theorem has_meth {qual : Str} {st : Stmt} {N : List Str} {body : MS} (nn : Nat) (A : AtM K mg cl c qual x st ps) (S : FnScope N ps (defScope st)) (hn : N.length = nn := by rfl) (har : ps.length = n := by rfl)
    (hbody : ∀ (f : Addr) (cdv : Value) (A : Around) (outer : List Env) (s : Shared) (H : Hp) (E : XK), Room k (A.deeper (envOfC qual (defScope st) s.heap.objs.size f cdv)) →
      PSs (cxOf (L2.CX P w) P w K mg base N qual (defScope st) f cdv A outer s H E) (defBody st) (rdS ⟨K, mg, cl⟩ (fun cls d _ H => E cls d H) none body)) : HasM P w K mg base cl c (k + 1) x ps n (mDef nn n body) := by
  obtain ⟨Ca, f, fd, h1, h2, F, r⟩ := A.ex
  exact ⟨Ca, f, fd, h1, h2, F.okX S (fun vs H Q E h => by rw [spOf_len h, har]) fun cdv A outer s H vs Q E hr hsp => body_run hn (hbody f cdv A outer s H E hr) hsp, r⟩
end
section
variable {W : WX} {pi : Pin} {X : Cx} {cl : List Addr} {c : Nat} {e o : Expr} {me mo : ME} {pos pos' p p2 pos2 : Pos} {f x m : Str} {es : List Expr} {ms : MA} {k n : Nat} {ps : List Str} {mf : MFun}
theorem cFld (T : FldOk X.K cl c f) (he : PE X e (rdE ⟨X.K, X.mg, cl⟩ W pi me)) (hb : attributeBase e f X.env (eval e X.env) = eval e X.env := by rfl) : PE X (.Attribute e f pos) (rdE ⟨X.K, X.mg, cl⟩ W pi (mFld c f me)) := by
  obtain ⟨Ca, h1, h2, h3⟩ := T.ex
  exact sFldR rfl h1 h2 h3 he hb
theorem cSetFld (T : FldOk X.K cl c f) (ho : PE X o (rdE ⟨X.K, X.mg, cl⟩ W pi mo)) (he : PE X e (rdE ⟨X.K, X.mg, cl⟩ W pi me)) (hs : swapsWith e (some (.Attribute o f pos')) pos.line X.env = pure false := by rfl) :
    PS X (.Assign [.Attribute o f pos'] e pos) (rdS ⟨X.K, X.mg, cl⟩ W pi (mSetFld c f mo me)) := by
  obtain ⟨Ca, h1, h2, h3⟩ := T.ex
  exact sSetFld rfl h1 h2 h3 ho he hs
theorem cRaise {s : Str} {j : Nat} (hc : X.calm = true) (tk : Takes X W) (T : ExcOk X.K X.mg cl c x) (hg : Gl X x := by rfl) (hdb : (x == ("__debug__" : Str)) = false := by decide) :
    PS X (.Raise (some (.Call (.Name x p) [.Constant (.str s) j p2] [] pos)) none pos2) (rdS ⟨X.K, X.mg, cl⟩ W pi (mRaise c)) := by
  obtain ⟨Ca, h1, h2⟩ := T.ex
  exact sRaise hc tk h2 h1 hg hdb
theorem cMake (G : HasI X.prog X.w X.K X.mg X.base cl c k x ps n mf) (tk : Takes X W) (hr : Room (k + 1) X.A) (ha : PA X (e :: es) (rdA ⟨X.K, X.mg, cl⟩ W pi ms)) (hg : Gl X x := by rfl) (hdb : (x == ("__debug__" : Str)) = false := by decide)
    (he : starEach (e :: es) X.env = (false, eval e X.env) :: starEach es X.env := by rfl) (hpl : (backTo pos (starEach es X.env)).any (·.1) = false := by rfl) : PE X (.Call (.Name x p) (e :: es) [] pos) (rdE ⟨X.K, X.mg, cl⟩ W pi (mMake c n mf [] ms)) := by
  obtain ⟨Ca, f, fd, h1, h2, h3, F, hb, _⟩ := G.ex
  exact sMake h1 h3 F tk hr h2 hb .nil (fun _ _ => .nil) ha hg hdb he hpl
/-- o.m(..): hp is the layer's rule for every class, method and def that may stand there -/
theorem cMeth (T : ClsOk X.K cl c) (G : HasM X.prog X.w X.K X.mg X.base cl c k m ps n mf)
    (hp : ∀ (Ca g : Addr) (fd : FuncData), Cls X.K Ca → Meth X.K Ca m g → FnOk X.prog X.w X.K X.mg X.base (L2.CX X.prog X.w) k g fd ps (spOf ⟨X.K, X.mg, cl⟩ n mf) → Binds X.K fd ps [] →
      PE X e (tMeth Ca m (spOf ⟨X.K, X.mg, cl⟩ n mf) [] E0 (rdE ⟨X.K, X.mg, cl⟩ W pi mo) (rdA ⟨X.K, X.mg, cl⟩ W pi ms))) : PE X e (rdE ⟨X.K, X.mg, cl⟩ W pi (mMeth c n m mf mo ms)) := by
  obtain ⟨Ca, g, fd, h1, h2, F, hb⟩ := G.ex
  obtain ⟨Cb, q1, q2⟩ := T.ex
  rw [h1] at q1; cases q1
  exact sMeth h1 (hp Ca g fd q2 h2 F hb)
theorem cMeth0 (T : ClsOk X.K cl c) (G : HasM X.prog X.w X.K X.mg X.base cl c k m ps n mf)
    (hp : ∀ (Ca g : Addr) (fd : FuncData), Cls X.K Ca → Meth X.K Ca m g → FnOk X.prog X.w X.K X.mg X.base (L2.CX X.prog X.w) k g fd ps (spOf ⟨X.K, X.mg, cl⟩ n mf) → Binds X.K fd ps [] →
      PE X e (tMeth Ca m (spOf ⟨X.K, X.mg, cl⟩ n mf) [] E0 (rdE ⟨X.K, X.mg, cl⟩ W pi mo) tNil)) : PE X e (rdE ⟨X.K, X.mg, cl⟩ W pi (mMeth c n m mf mo mNil)) := by
  obtain ⟨Ca, g, fd, h1, h2, F, hb⟩ := G.ex
  obtain ⟨Cb, q1, q2⟩ := T.ex
  rw [h1] at q1; cases q1
  exact sMeth0 h1 (hp Ca g fd q2 h2 F hb)
end
/-- a block within a block: only the def's scope is asked -/
def dummyEnv (dsc : Scope) : PySem.Env := envOfC "x" dsc 0 0 .none
theorem relabel_scope {sc0 : Scope} {env env' : PySem.Env} (h : env.scope = env'.scope) : relabel sc0 env = relabel sc0 env' := by
  obtain ⟨_, _, _, _, _, _, _, _, _⟩ := env
  obtain ⟨_, _, _, _, _, _, _, _, _⟩ := env'
  simp only at h
  subst h
  rfl
theorem blkIn {N : List Str} {sc0 scope dsc : Scope} {own : List (Str × Nat)} {env : PySem.Env} (he : env.scope = dsc) (h : blkC N (relabel sc0 (dummyEnv dsc)) scope own = true) : BlkOk N (relabel sc0 env) scope own := by
  have e : relabel sc0 env = relabel sc0 (dummyEnv dsc) := relabel_scope he
  rw [e]
  exact blkOk_by h
/-! ### the end: what the head tells -/
section
variable {K : PySem.W.Frag} {mg : Str → Option Value} {h : Heap} {x : Str} {st : Stmt} {f : Addr} {oc : Value} {od an : Option Addr} {osl : Array (Option Value)} {kV doc pm cdv ct : Value} {ps : List Str}
theorem at_mk (X : K.In h) (G : h.Ns mainGlobals mg) (a : PySem.W.nsIn K mainGlobals x = some (some (.ref f))) (l : K.lookup f = some ⟨oc, od, .func (PySem.W.fnOf x x (defArgs st) (defBody st) (defScope st) .none kV doc pm an cdv ct), osl⟩) (c : PySem.W.codeIn K cdv x = true) (k : PySem.W.keepIn K (.ref f) = true)
    (hb : ∀ (kV doc pm : Value) (an : Option Addr) (cdv ct : Value) (us : List Value), us.length = ps.length → bindArgs (PySem.W.fnOf x x (defArgs st) (defBody st) (defScope st) .none kV doc pm an cdv ct) ⟨us, []⟩ = pure (ps.zip us)) : At K mg x st ps :=
  ⟨f, _, fun_mk l c k, PySem.W.mg_of X G a, k, (fun_mk l c k).binds hb, _, _, _, l⟩
variable {cl : List Addr} {c : Nat} {Ca : Addr} {qual m : Str}
theorem atm_mk (hcl : cl[c]? = some Ca) (a : PySem.W.findIn K (.ref Ca) m = some (some (.ref f))) (i : PySem.W.isFn K (.ref f) = true) (l : K.lookup f = some ⟨oc, od, .func (PySem.W.fnOf m qual (defArgs st) (defBody st) (defScope st) .none kV doc pm an cdv ct), osl⟩) (co : PySem.W.codeIn K cdv qual = true) (k : PySem.W.keepIn K (.ref f) = true)
    (hb : ∀ (kV doc pm : Value) (an : Option Addr) (cdv ct : Value) (us : List Value), us.length = ps.length → bindArgs (PySem.W.fnOf m qual (defArgs st) (defBody st) (defScope st) .none kV doc pm an cdv ct) ⟨us, []⟩ = pure (ps.zip us)) : AtM K mg cl c qual m st ps :=
  ⟨Ca, f, _, hcl, ⟨a, i, k⟩, fun_mk l co k, (fun_mk l co k).binds hb⟩
/-- an __init__ whose last parameter has one default, all parameters given -/
theorem ati_mk {T e : Addr} {ot : Value} {odt : Option Addr} {nt : Nat} {slt : Array (Option Value)} (X : K.In h) (G : h.Ns mainGlobals mg) (hcl : cl[c]? = some Ca) (aC : PySem.W.nsIn K mainGlobals x = some (some (.ref Ca))) (mk : PySem.W.makesIn K Ca = true) (kc : PySem.W.keepIn K (.ref Ca) = true)
    (a : PySem.W.findIn K (.ref Ca) "__init__" = some (some (.ref f))) (i : PySem.W.isFn K (.ref f) = true) (l : K.lookup f = some ⟨oc, od, .func (PySem.W.fnOf "__init__" qual (defArgs st) (defBody st) (defScope st) (.ref T) kV doc pm an cdv ct), osl⟩) (co : PySem.W.codeIn K cdv qual = true) (k : PySem.W.keepIn K (.ref f) = true)
    (lT : K.lookup T = some ⟨ot, odt, .seq #[.ref e] nt, slt⟩) (hn : ps.length = n)
    (hb : ∀ (T : Addr) (kV doc pm : Value) (an : Option Addr) (cdv ct : Value) (us its : List Value), us.length = n → its.length = 1 →
      ∃ k, bindArgs (PySem.W.fnOf "__init__" qual (defArgs st) (defBody st) (defScope st) (.ref T) kV doc pm an cdv ct) ⟨us, []⟩ = seqItems? (.ref T) >>= k ∧ k (some its.toArray) = pure (ps.zip (us ++ its.drop 1))) : AtI K mg cl c qual x st ps [V.ref e] := by
  have F : FunD K "__init__" qual (defArgs st) (defBody st) (defScope st) [V.ref e] [] f (PySem.W.fnOf "__init__" qual (defArgs st) (defBody st) (defScope st) (.ref T) kV doc pm an cdv ct) :=
    ⟨⟨oc, od, .ref T, kV, doc, pm, an, cdv, ct, osl, rfl, l, co, .inr ⟨by simp, T, _, [.ref e], nt, rfl, lT, rfl, .cons rfl .nil⟩, .inl rfl⟩, k⟩
  obtain ⟨ds, v, b⟩ := F.binds1 (ps := ps) n 1 (by simp) (by simp [hn]) hb
  cases v
  exact ⟨Ca, f, _, hcl, PySem.W.mg_of X G aC, ⟨mk, a, i, kc⟩, F, b⟩
theorem exc_mk (X : K.In h) (G : h.Ns mainGlobals mg) (hcl : cl[c]? = some Ca) (a : PySem.W.nsIn K mainGlobals x = some (some (.ref Ca))) (e : PySem.W.excIn K Ca [.type "ValueError", .type "Exception", .type "BaseException", .type "object"] "ValueError.__new__" = true) (k : PySem.W.keepIn K (.ref Ca) = true)
    (b : PySem.W.subIn K (.ref Ca) (.type "BaseException") = some true) (t : PySem.W.typeIn K (.ref Ca) = some (.type "type")) : ExcOk K mg cl c x := ⟨Ca, hcl, PySem.W.mg_of X G a, e, k, b, t⟩
end
/-- what is asked of a law -/
def spLaw (K : PySem.W.Frag) : Sp := fun vs H Q _ => ∃ (a : Addr) (ns : List Int), vs = [.ref a] ∧ SqL K H a (ns.map V.int) ∧ ns.length ≤ 63 ∧ ∀ H', Q (.bl true) H'
def scriptM (ns : List Int) : MV := .fro (ns.map MV.int)
theorem ints_simV {C : SC} {μ : Mu} {H : Hp} : ∀ ns : List Int, SimVs C μ H (ns.map MV.int) (ns.map V.int)
  | [] => .nil
  | n :: ns => .cons sv_int (ints_simV ns)
theorem law_sp {K : PySem.W.Frag} {mg : Str → Option Value} {cl : List Addr} {mf : MFun} (hp : ∀ ns : List Int, ns.length ≤ 63 → ∃ h', mf [scriptM ns] [] = .ok (.bl true) h') (vs : List V) (H : Hp) (Q : VK) (E : XK) (h : spLaw K vs H Q E) : spOf ⟨K, mg, cl⟩ 1 mf vs H Q E := by
  obtain ⟨a, ns, rfl, hS, hl, k⟩ := h
  obtain ⟨h', e⟩ := hp ns hl
  refine ⟨⟨[], []⟩, [], [scriptM ns], rfl, .cons ?_ .nil, ⟨rfl, fun _ q => by simp at q, fun _ _ q => by simp at q, fun _ _ _ q => by simp at q, fun _ _ _ q => by simp at q⟩, ?_⟩
  · simp only [scriptM, SimV]
    refine ⟨a, ns.map V.int, rfl, ?_, ints_simV ns⟩
    rcases hS with hS | hS
    · exact .inl ⟨hS, fun q => by rcases q with q | q <;> simp at q⟩
    · exact .inr (.inr hS)
  · rw [e]
    intro μ' H' V _ _ r
    simp only [SimV] at r
    rw [r]; exact k H'
theorem cx_none {P : Program} {w : World} {H : Hp} {s : Shared} {e : Value} {s' : Shared} (h : L2.CX P w [] H s (fun _ _ _ => False) e s') : False := by
  obtain ⟨_, _, _, _, _, _, _, _, _, _, _, _, z⟩ := h
  exact z
end Mini
end

section
set_option Elab.async false
set_option linter.all false
set_option maxRecDepth 100000
set_option maxHeartbeats 4000000
/-! Mini: try with several clauses, each with a name or without one. -/
namespace Mini
open PySem L2 PyProof.Rows
/-- one clause: the class, the slot of its name (if it has one), what its suite tells -/
structure Clz where
  c : Value
  slot : Option Nat
  ts : Addr → Value → Option Addr → TS
def slotIn (i : Option Nat) (a : Addr) (σ : L2.St) : L2.St := match i with
  | none => σ
  | some i => σ.set i (some (.ref a))
def slotOut (i : Option Nat) (D : Ends) : Ends := match i with
  | none => D
  | some i => { nx := fun σ' H' => D.nx (σ'.set i none) H', rt := D.rt, bk := fun σ' H' => D.bk (σ'.set i none) H', ct := fun σ' H' => D.ct (σ'.set i none) H' }
def wClz (K : PySem.W.Frag) (Wout : WX) (D : Ends) : List Clz → WX
  | [] => Wout
  | z :: r => fun cls d σ H => ∃ b, PySem.W.exmOne K cls z.c = some b ∧ (b = true → ∀ a, H a = none → z.ts a cls d (slotOut z.slot D) (slotIn z.slot a σ) H) ∧ (b = false → wClz K Wout D r cls d σ H)
inductive ClzOk (X : Cx) : List ExceptHandler → List Clz → Prop
  | nil : ClzOk X [] []
  | bare {x : Str} {c : Value} {ts : Addr → Value → Option Addr → TS} {b₀ : Stmt} {suite : List Stmt} {np pos' : Pos} {hds : List ExceptHandler} {l : List Clz} (hc : Names X x c)
      (hsu : ∀ (a : Addr) (oe : Obj) (cls : Value) (d : Option Addr) (pn : List (Addr × Obj)), Zc cls d oe → (∃ vs, oe.data = .fields vs) → PSs (X.suite a ((a, oe) :: pn)) (b₀ :: suite) (ts a cls d)) (r : ClzOk X hds l) :
      ClzOk X (.ExceptHandler (some (.Name x np)) none (b₀ :: suite) pos' :: hds) (⟨c, none, ts⟩ :: l)
  | named {x n : Str} {i : Nat} {c : Value} {ts : Addr → Value → Option Addr → TS} {b₀ : Stmt} {suite : List Stmt} {np pos' : Pos} {hds : List ExceptHandler} {l : List Clz} (hc : Names X x c) (hi : X.N[i]? = some n) (hln : X.env.kindOf n = some .local)
      (hsu : ∀ (a : Addr) (oe : Obj) (cls : Value) (d : Option Addr) (pn : List (Addr × Obj)), Zc cls d oe → (∃ vs, oe.data = .fields vs) → PSs (X.suite a ((a, oe) :: pn)) (b₀ :: suite) (ts a cls d)) (r : ClzOk X hds l) :
      ClzOk X (.ExceptHandler (some (.Name x np)) (some n) (b₀ :: suite) pos' :: hds) (⟨c, some i, ts⟩ :: l)
section
variable {X : Cx} {body : List Stmt} {h₀ : ExceptHandler} {hds : List ExceptHandler} {l : List Clz} {pos : Pos} {tb : WX → TS} {Wout : WX}
theorem ps_try_clz (hs : X.stack = X.env :: X.outer) (hf : X.env.frame = some X.env.locals) (hN : X.N.Nodup) (tk : Takes X Wout)
    (hb : ∀ (W : WX) (pn : List (Addr × Obj)) (xe : Value → Shared → Prop), Takes (X.tr pn xe) W → PassesOwn (model X.prog X.w) X.A X.env xe → PSs (X.tr pn xe) body (tb W))
    (hh : ClzOk X (h₀ :: hds) l) : PS X (.Try body (h₀ :: hds) [] [] pos) (fun D σ H => tb (wClz X.K Wout D l) D σ H) := by
  constructor
  intro pins s σ H D I hq
  have okX := I.ok
  have frames : X.A.frames = some (X.env :: X.outer) := okX.frames.trans (by rw [hs])
  let onward : Value → Shared → Prop := fun e s₁ => wpAny (model X.prog X.w) X.A (noteFrame e X.env) (fun _ s₂ => wpAny (model X.prog X.w) X.A (setFlight e none) (fun _ s₃ =>
    wpAny (model X.prog X.w) X.A (handleBy e X.env (h₀ :: hds)) (SP X pins D) X.xe s₃) X.xe s₂) X.xe s₁
  have taken : Takes (X.tr (X.pn ++ pins) onward) (wClz X.K Wout D l) := by
    intro u s' xx
    obtain ⟨a, B, sI, pins', σ1, H1, cls, d, eu, IT, nb, up, sky, na, os, ag, w⟩ := xx
    subst eu
    have J := IT.ofTry okX
    have sky1 : Sky B (X.env :: X.outer) a (Zc cls d) X.env.locals s'.heap := hs ▸ sky
    show wpAny (model X.prog X.w) X.A (noteFrame (.ref a) X.env) _ _ _
    refine Sky.land Zc.steady frames hf sky1 fun g fl upg => ?_
    have up1 := up.trans upg
    have Jg : Inv X pins σ1 H1 { s' with heap := g } := J.landed nb fl.1 up1 os ag
    obtain ⟨og, vg, eg, zg, dg⟩ := fl.there
    have outside : a ∉ frs (X.env :: X.outer) := fun hm => by
      obtain ⟨_, o2, e2, isf⟩ := fl.2.2.1.mem hm
      cases eg.symm.trans e2
      exact isf _ dg
    have aL : a ≠ X.env.locals := fun z => outside (List.mem_filterMap.mpr ⟨_, .head _, z ▸ hf⟩)
    have aF : a ∉ X.fs := fun hm => by
      obtain ⟨e, he, q⟩ := List.mem_filterMap.mp hm
      exact outside (List.mem_filterMap.mpr ⟨e, .tail _ he, q⟩)
    have Sg := Jg.suite eg dg na aL aF
    -- the suite of a clause, behind its landing
    have enter : ∀ (A' : Around) (E' : Value → Shared → Prop) (P : Shared → Prop), (∀ (g2 : Heap) (o2 : Obj) (v2 : Array Value), Zc cls d o2 → o2.data = .fields v2 → Inv (X.suite a ((a, o2) :: (X.pn ++ pins))) [] σ1 H1 { s' with heap := g2 } → P { s' with heap := g2 }) →
        wpAny (model X.prog X.w) A' (setFlight (.ref a) none) (fun _ s4 => P s4) E' { s' with heap := g } := fun A' E' P hP =>
      HandSPX.lands_againZ fl fun g2 fl2 upg2 => by
        have J2 : Inv X pins σ1 H1 { s' with heap := g2 } := J.landed nb fl2.1 (up1.trans upg2) os ag
        obtain ⟨o2, v2, e2, z2, d2⟩ := fl2.there
        exact hP g2 o2 v2 z2 d2 (J2.suite e2 d2 na aL aF)
    have looks : PySem.W.Looks (model X.prog X.w) g (typeOf (.ref a)) cls := fun A' Q E t k q => wpAny_typeOf_ref (k _ _ eg) (zg.1.symm ▸ q)
    have reads : ∀ {x : Str} {np : Pos} {c : Value} {Q E : Value → Shared → Prop}, Names X x c → Q c { s' with heap := g } → wpAny (model X.prog X.w) (X.A.mark (some (.ref a))) (eval (.Name x np) X.env) Q E { s' with heap := g } := fun {x np c Q E} nm q => by
      obtain ⟨k1, k2, k3⟩ := nm
      cases k3 with
      | inl k => exact ld_glob (X := X.suite a ((a, og) :: (X.pn ++ pins))) Sg k1 k q k2
      | inr k => exact ld_blt (X := X.suite a ((a, og) :: (X.pn ++ pins))) Sg k1 k.1 k.2.1 q k.2.2 k2
    have go : ∀ {hs' : List ExceptHandler} {l' : List Clz}, ClzOk X hs' l' → wClz X.K Wout D l' cls d σ1 H1 → wpAny (model X.prog X.w) X.A (handleBy (.ref a) X.env hs') (SP X pins D) X.xe { s' with heap := g } := by
      intro hs' l' ck
      induction ck with
      | nil =>
        intro w
        refine wpAny_handleBy_nil ?_
        obtain ⟨p1, p2, p3, ob, vs, T, oT, ts', q1, q2, q3, q4, q5⟩ := id fl
        unfold PySem.passOn
        refine wpAny_bind (wpAny_field q1 q3 q4 ?_)
        have nn : ¬ ((Value.ref T == Value.none) = true) := by simp
        rw [if_neg nn]
        have last : wpAny (model X.prog X.w) X.A (setFlight (.ref a) X.env.frame) (fun _ s4 => wpAny (model X.prog X.w) X.A (throw (.ref a) : Sem Flow) (SP X pins D) X.xe s4) X.xe { s' with heap := g } := by
          rw [hf]
          exact HandSPX.setFlight_upZ fl fun g2 hd2 up2 => wpAny_throw (tk _ _ ⟨a, B, sI, pins, σ1, H1, cls, d, rfl, J, nb, up1.trans up2, .inr (.inr (hs ▸ hd2)), na, os, ag, w⟩)
        first
          | exact wpAny_bind (wpAny_pure (wpAny_bind last))
          | exact wpAny_bind last
      | @bare x c ts b₀ suite np pos' hds2 l2 nm hsu r ih =>
        intro ⟨b, e1, yes, no⟩
        refine wpAny_handleBy_cons (codeAny_handlers_test ?_) (by intro q; cases q)
        refine reads nm ((PySem.W.exm_one (M := model X.prog X.w) Jg.kIn looks e1).here ?_)
        cases b with
        | false => exact ih (no rfl)
        | true =>
          refine codeAny_handlers_suite (enter _ _ _ fun g2 o2 v2 z2 d2 S2 => ?_)
          refine wpAny_mono ((hsu a o2 cls d (X.pn ++ pins) z2 ⟨_, d2⟩).run [] _ _ H1 _ S2 (yes rfl a na)) (fun fw s6 hsp => ?_) (fun _ _ z => z.elim)
          cases fw <;> simp only [SP] at hsp ⊢
          case ret u =>
            obtain ⟨v, σ6, H6, S6, r6, q6⟩ := hsp
            exact ⟨v, σ6, H6, S6.unsuite okX, r6, q6⟩
          all_goals
            obtain ⟨σ6, H6, S6, q6⟩ := hsp
            exact ⟨σ6, H6, S6.unsuite okX, q6⟩
      | @named x n i c ts b₀ suite np pos' hds2 l2 nm hi hln hsu r ih =>
        intro ⟨b, e1, yes, no⟩
        refine wpAny_handleBy_cons (codeAny_handlers_test ?_) (by intro q; cases q)
        refine reads nm ((PySem.W.exm_one (M := model X.prog X.w) Jg.kIn looks e1).here ?_)
        cases b with
        | false => exact ih (no rfl)
        | true =>
          refine codeAny_handlers_suite_as (enter _ _ _ fun g2 o2 v2 z2 d2 S2 => ?_)
          refine store_ok (X := X.suite a ((a, o2) :: (X.pn ++ pins))) (v := .ref a) S2 hN hi (.inl hln) rfl (fun s5 S5 => ?_) (.inr hln)
          refine wpAny_mono ((hsu a o2 cls d (X.pn ++ pins) z2 ⟨_, d2⟩).run [] s5 _ H1 _ S5 (yes rfl a na)) (fun fw s6 hsp => ?_) (fun _ _ z => z.elim)
          have off : ∀ {σ6 : L2.St} {H6 : Hp} {P : Shared → Prop}, Inv (X.suite a ((a, o2) :: (X.pn ++ pins))) [] σ6 H6 s6 → (∀ s7, Inv X pins (σ6.set i none) H6 s7 → P s7) →
              wpAny (model X.prog X.w) X.A (do bindName X.env n .none; unbindBehindTheSuite X.env n pos') (fun _ s7 => P s7) X.xe s6 := fun S6 k => gone_ok (S6.unsuite okX) hN hi hln k
          cases fw with
          | next =>
            obtain ⟨σ6, H6, S6, q6⟩ := hsp
            exact off S6 fun s7 J7 => ⟨_, H6, J7, q6⟩
          | brk =>
            obtain ⟨σ6, H6, S6, q6⟩ := hsp
            exact off S6 fun s7 J7 => ⟨_, H6, J7, q6⟩
          | cont =>
            obtain ⟨σ6, H6, S6, q6⟩ := hsp
            exact off S6 fun s7 J7 => ⟨_, H6, J7, q6⟩
          | ret u =>
            obtain ⟨v, σ6, H6, S6, r6, q6⟩ := hsp
            exact off S6 fun s7 J7 => ⟨v, _, H6, J7, r6, q6⟩
    exact go hh w
  refine wpAny_Try_except ?_
  refine wpAny_mono ((hb (wClz X.K Wout D l) (X.pn ++ pins) onward taken PassesOwn.looking).run [] s σ H D (I.toTry _) hq) (fun fw s1 hsp => ?_) (fun e s1 he => he)
  cases fw with
  | next =>
    obtain ⟨σ1, H1, J1, q⟩ := hsp
    exact wpAny_execs_nil ⟨σ1, H1, J1.ofTry okX, q⟩
  | brk =>
    obtain ⟨σ1, H1, J1, q⟩ := hsp
    exact ⟨σ1, H1, J1.ofTry okX, q⟩
  | cont =>
    obtain ⟨σ1, H1, J1, q⟩ := hsp
    exact ⟨σ1, H1, J1.ofTry okX, q⟩
  | ret u =>
    obtain ⟨v, σ1, H1, J1, r, q⟩ := hsp
    exact ⟨v, σ1, H1, J1.ofTry okX, r, q⟩
end

/-! ### the small semantics -/
abbrev MCl := Nat × Option Nat × (Nat → MS)
def SO.unset (i : Nat) : SO → SO
  | .nx ρ h => .nx (ρ.set i none) h
  | .bk ρ h => .bk (ρ.set i none) h
  | .ct ρ h => .ct (ρ.set i none) h
  | .rt v h => .rt v h
  | .er _ _ _ => .bad
  | .bad => .bad
def suiteN (i : Option Nat) (su : MS) : MS := fun ρ h => match i with
  | none => (su ρ h).hard
  | some i => if i < ρ.length then (su (ρ.set i none) h).unset i else .bad
def clzM (sub : Sub) (c : Nat) (ρ : En) (h : MH) : List MCl → SO
  | [] => .er c ρ h
  | z :: r => match sub c z.1 with
    | some true => suiteN z.2.1 (z.2.2 c) ρ h
    | some false => clzM sub c ρ h r
    | none => .bad
def catchM (sub : Sub) (hs : List MCl) : SO → SO
  | .er c ρ h => clzM sub c ρ h hs
  | o => o
def mTryN (sub : Sub) (body : MS) (hs : List MCl) : MS := fun ρ h => catchM sub hs (body ρ h)
def pinOf (i : Option Nat) (a : Addr) : Pin := i.map fun i => (i, .ref a)
section
variable {C : SC} {W : WX} {X : Cx} {σ : L2.St} {H : Hp} {sub : Sub}
inductive HdsM (C : SC) (X : Cx) (sub : Sub) : List ExceptHandler → List MCl → Prop
  | nil : HdsM C X sub [] []
  | bare {x : Str} {Ck : Addr} {k : Nat} {b₀ : Stmt} {suite : List Stmt} {np pos' : Pos} {hds : List ExceptHandler} {l : List MCl} {su : Nat → MS} (hc : Names X x (.ref Ck))
      (hsub : ∀ c' Ca b, C.cl[c']? = some Ca → sub c' k = some b → PySem.W.exmOne C.K (.ref Ca) (.ref Ck) = some b)
      (hsu : ∀ (a : Addr) (oe : Obj) (c' : Nat) (Ca : Addr) (pn : List (Addr × Obj)), C.cl[c']? = some Ca → Zc (.ref Ca) none oe → (∃ vs, oe.data = .fields vs) → PSs (X.suite a ((a, oe) :: pn)) (b₀ :: suite) (rdS C WF none (su c'))) (r : HdsM C X sub hds l) :
      HdsM C X sub (.ExceptHandler (some (.Name x np)) none (b₀ :: suite) pos' :: hds) ((k, none, su) :: l)
  | named {x n : Str} {i : Nat} {Ck : Addr} {k : Nat} {b₀ : Stmt} {suite : List Stmt} {np pos' : Pos} {hds : List ExceptHandler} {l : List MCl} {su : Nat → MS} (hc : Names X x (.ref Ck)) (hi : X.N[i]? = some n) (hln : X.env.kindOf n = some .local)
      (hsub : ∀ c' Ca b, C.cl[c']? = some Ca → sub c' k = some b → PySem.W.exmOne C.K (.ref Ca) (.ref Ck) = some b)
      (hsu : ∀ (a : Addr) (oe : Obj) (c' : Nat) (Ca : Addr) (pn : List (Addr × Obj)), C.cl[c']? = some Ca → Zc (.ref Ca) none oe → (∃ vs, oe.data = .fields vs) → PSs (X.suite a ((a, oe) :: pn)) (b₀ :: suite) (rdS C WF (some (i, .ref a)) (su c'))) (r : HdsM C X sub hds l) :
      HdsM C X sub (.ExceptHandler (some (.Name x np)) (some n) (b₀ :: suite) pos' :: hds) ((k, some i, su) :: l)
def clzOf (C : SC) (z : MCl) (Ck : Addr) : Clz := ⟨.ref Ck, z.2.1, fun a cls d D σ H => ∃ c' Ca, C.cl[c']? = some Ca ∧ cls = .ref Ca ∧ d = none ∧ rdS C WF (pinOf z.2.1 a) (z.2.2 c') D σ H⟩
theorem unset_post {D : Ends} {i : Nat} {a : V} {μ : Mu} {o : SO} (P : SPost C W none D μ H (o.unset i)) : SPost C WF (some (i, a)) (slotOut (some i) D) μ H o := by
  cases o with
  | nx ρ' h' => exact fun μ' σ' H' e' S' => P μ' _ H' e' (pin_out S')
  | bk ρ' h' => exact fun μ' σ' H' e' S' => P μ' _ H' e' (pin_out S')
  | ct ρ' h' => exact fun μ' σ' H' e' S' => P μ' _ H' e' (pin_out S')
  | rt v h' => exact P
  | er c ρ' h' => exact P.elim
  | bad => exact P.elim
theorem hds_sim {hs : List ExceptHandler} {l : List MCl} (hk : C.K = X.K) (ck : HdsM C X sub hs l) : ∃ zs : List Clz, ClzOk X hs zs ∧
    ∀ (D : Ends) (c : Nat) (Ca : Addr) (ρ : En) (h : MH) (μ : Mu) (σ : L2.St) (H : Hp), C.cl[c]? = some Ca → SimS C none μ ρ h σ H → SPost C W none D μ H (clzM sub c ρ h l) → wClz X.K W D zs (.ref Ca) none σ H := by
  induction ck with
  | nil => exact ⟨[], .nil, fun D c Ca ρ h μ σ H hc S P => P μ σ H Ca .refl S hc⟩
  | @bare x Ck k b₀ suite np pos' hds l su nm hsub hsu r ih =>
    obtain ⟨zs, z1, z2⟩ := ih
    refine ⟨clzOf C (k, none, su) Ck :: zs, .bare nm (fun a oe cls d pn hz hd => suite_any fun c' Ca h1 h2 h3 => ?_) z1, fun D c Ca ρ h μ σ H hc S P => ?_⟩
    · subst h2 h3; exact hsu a oe c' Ca pn h1 hz hd
    · simp only [clzM] at P
      cases eb : sub c k with
      | none => simp only [eb] at P; exact P.elim
      | some b =>
        simp only [eb] at P
        refine ⟨b, by rw [← hk]; exact hsub c Ca b hc eb, fun hb a ha => ?_, fun hb => ?_⟩
        · subst hb
          exact ⟨c, Ca, hc, rfl, rfl, μ, ρ, h, S, P.hard⟩
        · subst hb
          exact z2 D c Ca ρ h μ σ H hc S P
  | @named x n i Ck k b₀ suite np pos' hds l su nm hi hln hsub hsu r ih =>
    obtain ⟨zs, z1, z2⟩ := ih
    refine ⟨clzOf C (k, some i, su) Ck :: zs, .named nm hi hln (fun a oe cls d pn hz hd => suite_any fun c' Ca h1 h2 h3 => ?_) z1, fun D c Ca ρ h μ σ H hc S P => ?_⟩
    · subst h2 h3; exact hsu a oe c' Ca pn h1 hz hd
    · simp only [clzM] at P
      cases eb : sub c k with
      | none => simp only [eb] at P; exact P.elim
      | some b =>
        simp only [eb] at P
        refine ⟨b, by rw [← hk]; exact hsub c Ca b hc eb, fun hb a ha => ?_, fun hb => ?_⟩
        · subst hb
          simp only [suiteN] at P
          split at P
          · rename_i hlt
            exact ⟨c, Ca, hc, rfl, rfl, μ, _, h, pin_in S (by rw [← S.len]; exact hlt), unset_post P⟩
          · exact P.elim
        · subst hb
          exact z2 D c Ca ρ h μ σ H hc S P
variable {body : List Stmt} {h₀ : ExceptHandler} {hds : List ExceptHandler} {l : List MCl} {pos : Pos} {mb : MS}
theorem sTryN (hk : C.K = X.K) (hs : X.stack = X.env :: X.outer) (hf : X.env.frame = some X.env.locals) (hN : X.N.Nodup) (tk : Takes X W)
    (hb : ∀ (W' : WX) (pn : List (Addr × Obj)) (xe : Value → Shared → Prop), Takes (X.tr pn xe) W' → PassesOwn (model X.prog X.w) X.A X.env xe → PSs (X.tr pn xe) body (rdS C W' none mb)) (hh : HdsM C X sub (h₀ :: hds) l) :
    PS X (.Try body (h₀ :: hds) [] [] pos) (rdS C W none (mTryN sub mb l)) := by
  refine ⟨fun pins s σ H D I q => ?_⟩
  obtain ⟨zs, z1, z2⟩ := hds_sim (W := W) hk hh
  refine (ps_try_clz (tb := fun W' => rdS C W' none mb) (Wout := W) (pos := pos) hs hf hN tk hb z1).run pins s σ H D I ?_
  obtain ⟨μ, ρ, h, S, P⟩ := q
  refine ⟨μ, ρ, h, S, body_post (g := fun c ρ' h' => clzM sub c ρ' h' l) (by
    unfold mTryN at P
    cases eb : mb ρ h with
    | er c ρ' h' => rw [eb] at P; exact P
    | nx ρ' h' => rw [eb] at P; exact P
    | rt v h' => rw [eb] at P; exact P
    | bk ρ' h' => rw [eb] at P; exact P
    | ct ρ' h' => rw [eb] at P; exact P
    | bad => rw [eb] at P; exact P) fun c' ρ' h' μ' σ' H' Ca e' S' hcl P' => z2 D c' Ca ρ' h' μ' σ' H' hcl S' P'⟩

end
end Mini
end

section
set_option Elab.async false
set_option linter.all false
set_option maxRecDepth 100000
set_option maxHeartbeats 4000000
/-! Mini: own error classes in clauses, isinstance of what a clause has caught. -/
namespace Mini
open PySem L2 PyProof.Rows
/-- the numbers of the error classes -/
def excs : List Nat := [0, 1, 2, 3, 4, 5, 6, 7, 8, 12, 13, 14, 15, 16, 18, 19, 20, 22, 24, 27, 28, 30, 31, 32, 36, 37, 38, 39, 41]
/-- is the error class c under k (0 is over all) -/
def subG (c k : Nat) : Option Bool := if (excs.contains c && excs.contains k) = true then some (c == k || k == 0) else none
/-- isinstance(e, A) where a clause of the class k has caught an error of the class c -/
def isaG (k A c : Nat) : Option Bool := if subG c k = some true then subG c A else none
def isbG (k c : Nat) : Option Bool := if subG c k = some true then some true else none
def AllAt (P : Nat → Addr → Prop) : Nat → List Addr → Prop
  | _, [] => True
  | n, a :: as => P n a ∧ AllAt P (n + 1) as
theorem AllAt.get {P : Nat → Addr → Prop} : ∀ {n : Nat} {as : List Addr} {i : Nat} {a : Addr}, AllAt P n as → as[i]? = some a → P (n + i) a
  | _, [], _, _, _, e => by simp at e
  | n, b :: as, 0, a, h, e => by
    simp only [List.getElem?_cons_zero, Option.some.injEq] at e
    subst e
    exact h.1
  | n, b :: as, i + 1, a, h, e => by
    have := AllAt.get (n := n + 1) (i := i) h.2 (by simpa using e)
    rw [show n + (i + 1) = n + 1 + i by omega]
    exact this
/-- a class that a clause names -/
structure HdlOk (K : PySem.W.Frag) (mg : Str → Option Value) (cl : List Addr) (k : Nat) (x : Str) : Prop where
  ex : ∃ Ck, mg x = some (.ref Ck) ∧ ∀ c' Ca b, cl[c']? = some Ca → subG c' k = some b → PySem.W.exmOne K (.ref Ca) (.ref Ck) = some b
/-- isinstance(e, x) in a suite of the class k -/
structure IsaOk (K : PySem.W.Frag) (mg : Str → Option Value) (cl : List Addr) (k A : Nat) (x : Str) : Prop where
  ex : ∃ CA, mg x = some (.ref CA) ∧ ∀ c' Ca b, cl[c']? = some Ca → isaG k A c' = some b → ExcC K Ca ∧ PySem.W.kitOne K (.ref Ca) (.ref CA) = some b
structure IsbOk (K : PySem.W.Frag) (mg : Str → Option Value) (cl : List Addr) (k : Nat) (x : Str) (Ty : String) : Prop where
  mg : mg x = none
  bv : bootBuiltins x = some (.type Ty)
  ex : ∀ c' Ca b, cl[c']? = some Ca → isbG k c' = some b → ExcC K Ca ∧ PySem.W.kitOne K (.ref Ca) (.type Ty) = some b
section
variable {K : PySem.W.Frag} {mg : Str → Option Value} {h : Heap} {cl : List Addr} {k A : Nat} {x : Str} {Ck : Addr}
theorem hdl_mk (X : K.In h) (G : h.Ns mainGlobals mg) (a : PySem.W.nsIn K mainGlobals x = some (some (.ref Ck))) (t : AllAt (fun c Ca => ∀ b, subG c k = some b → PySem.W.exmOne K (.ref Ca) (.ref Ck) = some b) 0 cl) : HdlOk K mg cl k x :=
  ⟨Ck, PySem.W.mg_of X G a, fun c' Ca b e1 e2 => by
    have := t.get e1
    rw [Nat.zero_add] at this
    exact this b e2⟩
theorem isa_mk (X : K.In h) (G : h.Ns mainGlobals mg) (a : PySem.W.nsIn K mainGlobals x = some (some (.ref Ck))) (t : AllAt (fun c Ca => ∀ b, isaG k A c = some b → ExcC K Ca ∧ PySem.W.kitOne K (.ref Ca) (.ref Ck) = some b) 0 cl) : IsaOk K mg cl k A x :=
  ⟨Ck, PySem.W.mg_of X G a, fun c' Ca b e1 e2 => by
    have := t.get e1
    rw [Nat.zero_add] at this
    exact this b e2⟩
theorem isb_mk {Ty : String} (hm : mg x = none) (bv : bootBuiltins x = some (.type Ty)) (t : AllAt (fun c Ca => ∀ b, isbG k c = some b → ExcC K Ca ∧ PySem.W.kitOne K (.ref Ca) (.type Ty) = some b) 0 cl) : IsbOk K mg cl k x Ty :=
  ⟨hm, bv, fun c' Ca b e1 e2 => by
    have := t.get e1
    rw [Nat.zero_add] at this
    exact this b e2⟩
theorem exm_mk {C : Addr} {cls : Value} {b : Bool} (h1 : PySem.W.subIn K (.ref C) (.type "BaseException") = some true) (hd : PySem.W.hasDictIn K C = true) (ht : PySem.W.typeIn K (.ref C) = some (.type "type")) (h4 : PySem.W.subIn K cls (.ref C) = some b) : PySem.W.exmOne K cls (.ref C) = some b :=
  PySem.W.exm_ref h1 hd ht h4
theorem kit_mk {j C : Addr} {b : Bool} (h1 : PySem.W.subIn K (.ref C) (.type "BaseException") = some true) (hd : PySem.W.hasDictIn K C = true) (ht : PySem.W.typeIn K (.ref C) = some (.type "type")) (h4 : PySem.W.subIn K (.ref j) (.ref C) = some b) (hself : PySem.W.subIn K (.ref C) (.ref C) = some true) : PySem.W.kitOne K (.ref j) (.ref C) = some b := by
  have e := exm_mk h1 hd ht h4
  unfold PySem.W.exmOne at e
  have q : (PySem.W.subIn K (.ref C) (.type "BaseException") == some true) = true := by rw [h1]; rfl
  rw [if_pos q] at e
  unfold PySem.W.kitOne
  by_cases z : (Value.ref j == Value.ref C) = true
  · rw [if_pos z]
    have : j = C := Value.ref.inj (beq_iff_eq.mp z)
    subst this
    rw [hself] at h4
    exact h4
  · rw [if_neg z]; exact e
theorem kit_mkB {j : Addr} (h : PySem.W.subIn K (.ref j) (.type "ValueError") = some true) : PySem.W.kitOne K (.ref j) (.type "ValueError") = some true := by
  unfold PySem.W.kitOne
  have z : ¬ (Value.ref j == Value.type "ValueError") = true := by
    intro q
    have := beq_iff_eq.mp q
    cases this
  rw [if_neg z]
  unfold PySem.W.kitCls
  have m : PySem.W.kitMeta "ValueError" = true := by decide +kernel
  simp only [m, if_true]
  exact h
theorem at_no {f : Nat → Option Bool} {P : Bool → Prop} {c : Nat} (e : f c = none) : ∀ b, f c = some b → P b := fun b q => by rw [e] at q; cases q
theorem at_is {f : Nat → Option Bool} {P : Bool → Prop} {c : Nat} {v : Bool} (e : f c = some v) (p : P v) : ∀ b, f c = some b → P b := fun b q => by rw [e] at q; cases q; exact p
end
section
variable {C : SC} {W : WX} {X : Cx} {cl : List Addr} {σ : L2.St} {H : Hp} {k A i c' : Nat} {z y : Str} {a Ca : Addr} {oe : Obj} {pn : List (Addr × Obj)} {p py pz pos : Pos}
theorem is_none {e : Expr} {pi : Pin} : PE X e (rdE C W pi (mOB none)) := ⟨fun pins s σ H Q I q => by obtain ⟨μ, ρ, h, S, P⟩ := q; exact P.elim⟩
/-- isinstance(y, z), y the name of the clause, z an own error class -/
theorem cIsE (i : Nat) (T : IsaOk X.K X.mg cl k A z) (hm : X.mg "isinstance" = none) (hc : cl[c']? = some Ca) (hz : Zc (.ref Ca) none oe) (hf : ∃ vs, oe.data = .fields vs) (hN : X.N[i]? = some y := by rfl)
    (hv : Vis X.env.scope y := by first | exact Or.inl rfl | exact Or.inr (Or.inl rfl) | exact Or.inr (Or.inr rfl)) (hd : (y == ("__debug__" : Str)) = false := by decide) (hcd : (y == ("__classdict__" : Str)) = false := by decide) (hg : Gl X "isinstance" := by rfl)
    (hgz : Gl X z := by rfl) (hdz : (z == ("__debug__" : Str)) = false := by decide)
    (he : starEach [.Name y py, .Name z pz] X.env = (false, eval (.Name y py) X.env) :: starEach [.Name z pz] X.env := by rfl) (he2 : starEach [.Name z pz] X.env = (false, eval (.Name z pz) X.env) :: starEach [] X.env := by rfl) (hpl : (backTo pos (starEach [.Name z pz] X.env)).any (·.1) = false := by rfl) :
    PE (X.suite a ((a, oe) :: pn)) (.Call (.Name "isinstance" p) [.Name y py, .Name z pz] [] pos) (rdE ⟨X.K, X.mg, cl⟩ WF (some (i, .ref a)) (mOB (isaG k A c'))) := by
  obtain ⟨CA, h1, h2⟩ := T.ex
  cases eb : isaG k A c' with
  | none => exact is_none
  | some b =>
    obtain ⟨t1, t2⟩ := h2 c' Ca b hc eb
    exact sIsE (C := ⟨X.K, X.mg, cl⟩) (X := X) (i := i) (o := some b) (cu := .ref CA) rfl t1 hz hf rfl hm hN hv (pe_glob (X := X.suite a ((a, oe) :: pn)) (v := .ref CA) (u := .ref CA) hgz h1 rfl hdz) (fun u r => by cases r; rfl) (fun b' e => by cases e; exact t2) hd hcd hg he he2 hpl
theorem cIsB (i : Nat) {Ty : String} (T : IsbOk X.K X.mg cl k z Ty) (hm : X.mg "isinstance" = none) (hc : cl[c']? = some Ca) (hz : Zc (.ref Ca) none oe) (hf : ∃ vs, oe.data = .fields vs) (hN : X.N[i]? = some y := by rfl)
    (hv : Vis X.env.scope y := by first | exact Or.inl rfl | exact Or.inr (Or.inl rfl) | exact Or.inr (Or.inr rfl)) (hd : (y == ("__debug__" : Str)) = false := by decide) (hcd : (y == ("__classdict__" : Str)) = false := by decide) (hg : Gl X "isinstance" := by rfl)
    (hgz : Gl X z := by rfl) (hnz : z ≠ "__name__" := by decide) (hdz : (z == ("__debug__" : Str)) = false := by decide)
    (he : starEach [.Name y py, .Name z pz] X.env = (false, eval (.Name y py) X.env) :: starEach [.Name z pz] X.env := by rfl) (he2 : starEach [.Name z pz] X.env = (false, eval (.Name z pz) X.env) :: starEach [] X.env := by rfl) (hpl : (backTo pos (starEach [.Name z pz] X.env)).any (·.1) = false := by rfl) :
    PE (X.suite a ((a, oe) :: pn)) (.Call (.Name "isinstance" p) [.Name y py, .Name z pz] [] pos) (rdE ⟨X.K, X.mg, cl⟩ WF (some (i, .ref a)) (mOB (isbG k c'))) := by
  cases eb : isbG k c' with
  | none => exact is_none
  | some b =>
    obtain ⟨t1, t2⟩ := T.ex c' Ca b hc eb
    exact sIsE (C := ⟨X.K, X.mg, cl⟩) (X := X) (i := i) (o := some b) (cu := .type Ty) rfl t1 hz hf rfl hm hN hv (pe_bltn (X := X.suite a ((a, oe) :: pn)) hgz T.mg T.bv (v := .ty Ty) rfl hnz hdz) (fun u r => by first | (cases r; rfl) | exact r) (fun b' e => by cases e; exact t2) hd hcd hg he he2 hpl
/-- the defaults of an __init__, where only self is given -/
structure DflI (K : PySem.W.Frag) (cl : List Addr) (c : Nat) (ps : List Str) (dms : List MV) : Prop where
  ex : ∃ Ca f fd ds dvs, cl[c]? = some Ca ∧ PySem.W.findIn K (.ref Ca) "__init__" = some (some (.ref f)) ∧ IsFd K f fd ∧ Binds K fd ps ds ∧ Vals dvs ds ∧ ∀ (mg : Str → Option Value) (μ : Mu) (H : Hp), SimVs ⟨K, mg, cl⟩ μ H dms dvs
theorem cMake0 {W : WX} {pi : Pin} {c n k : Nat} {ps : List Str} {mf : MFun} {dms : List MV} {x : Str} {p pos : Pos} (D : DflI X.K cl c ps dms) (G : HasI X.prog X.w X.K X.mg X.base cl c k x ps n mf) (tk : Takes X W) (hr : Room (k + 1) X.A) (hg : Gl X x := by rfl) (hdb : (x == ("__debug__" : Str)) = false := by decide) :
    PE X (.Call (.Name x p) [] [] pos) (rdE ⟨X.K, X.mg, cl⟩ W pi (mMake c n mf dms mNil)) := by
  obtain ⟨Ca, f, fd, h1, h2, h3, F, hb, oc, od, sl, lk⟩ := G.ex
  obtain ⟨Cb, f', fd', ds, dvs, q1, q2, ⟨oc', od', sl', lk'⟩, q4, q5, q6⟩ := D.ex
  rw [h1] at q1; cases q1
  have e1 := h3.init
  rw [q2] at e1; cases e1
  rw [lk] at lk'; cases lk'
  exact sMake0 h1 h3 F tk hr h2 q4 q5 (fun μ H => q6 X.mg μ H) hg hdb
/-- () as a default of the module -/
theorem dfl_mk {K : PySem.W.Frag} {c : Nat} {Ca f T e : Addr} {qual : Str} {st : Stmt} {oc ot : Value} {od odt ode an : Option Addr} {osl slt sle : Array (Option Value)} {nt ne : Nat} {kV doc pm cdv ct : Value} {ps : List Str} (hcl : cl[c]? = some Ca)
    (a : PySem.W.findIn K (.ref Ca) "__init__" = some (some (.ref f))) (l : K.lookup f = some ⟨oc, od, .func (PySem.W.fnOf "__init__" qual (defArgs st) (defBody st) (defScope st) (.ref T) kV doc pm an cdv ct), osl⟩) (co : PySem.W.codeIn K cdv qual = true) (kp : PySem.W.keepIn K (.ref f) = true)
    (lT : K.lookup T = some ⟨ot, odt, .seq #[.ref e] nt, slt⟩) (le : K.lookup e = some ⟨.type "tuple", ode, .seq #[] ne, sle⟩) (hn : ps.length = 2)
    (hb : ∀ (T : Addr) (kV doc pm : Value) (an : Option Addr) (cdv ct : Value) (us its : List Value), us.length = 1 → its.length = 1 →
      ∃ k, bindArgs (PySem.W.fnOf "__init__" qual (defArgs st) (defBody st) (defScope st) (.ref T) kV doc pm an cdv ct) ⟨us, []⟩ = seqItems? (.ref T) >>= k ∧ k (some its.toArray) = pure (ps.zip (us ++ its.drop 0))) : DflI K cl c ps [.tup []] := by
  have F : FunD K "__init__" qual (defArgs st) (defBody st) (defScope st) [V.ref e] [] f (PySem.W.fnOf "__init__" qual (defArgs st) (defBody st) (defScope st) (.ref T) kV doc pm an cdv ct) :=
    ⟨⟨oc, od, .ref T, kV, doc, pm, an, cdv, ct, osl, rfl, l, co, .inr ⟨by simp, T, _, [.ref e], nt, rfl, lT, rfl, .cons rfl .nil⟩, .inl rfl⟩, kp⟩
  obtain ⟨ds, v, b⟩ := F.binds1 (ps := ps) 1 0 (by simp) (by simp [hn]) hb
  refine ⟨Ca, f, _, ds, [V.ref e], hcl, a, ⟨_, _, _, l⟩, b, v, fun mg μ H => .cons ?_ .nil⟩
  simp only [SimV]
  exact ⟨e, [], rfl, .inr (.inr ⟨_, #[], ne, le, rfl, rfl, by simp, .nil⟩), .nil⟩
theorem cTryN {W : WX} {body : List Stmt} {h₀ : ExceptHandler} {hds : List ExceptHandler} {l : List MCl} {pos : Pos} {mb : MS} (hN : X.N.Nodup) (tk : Takes X W)
    (hb : ∀ (W' : WX) (pn : List (Addr × Obj)) (xe : Value → Shared → Prop), Takes (X.tr pn xe) W' → PassesOwn (model X.prog X.w) X.A X.env xe → PSs (X.tr pn xe) body (rdS ⟨X.K, X.mg, cl⟩ W' none mb)) (hh : HdsM ⟨X.K, X.mg, cl⟩ X subG (h₀ :: hds) l)
    (hs : X.stack = X.env :: X.outer := by rfl) (hf : X.env.frame = some X.env.locals := by rfl) : PS X (.Try body (h₀ :: hds) [] [] pos) (rdS ⟨X.K, X.mg, cl⟩ W none (mTryN subG mb l)) :=
  sTryN rfl hs hf hN tk hb hh
/-- the clauses of a try of the text -/
theorem hdNil {sub : Sub} : HdsM C X sub [] [] := .nil
theorem hdBare {x : Str} {b₀ : Stmt} {suite : List Stmt} {np pos' : Pos} {hds : List ExceptHandler} {l : List MCl} {su : Nat → MS} (T : HdlOk X.K X.mg cl k x) (hg : Gl X x := by rfl) (hd : (x == ("__debug__" : Str)) = false := by decide)
    (hsu : ∀ (a : Addr) (oe : Obj) (c' : Nat) (Ca : Addr) (pn : List (Addr × Obj)), cl[c']? = some Ca → Zc (.ref Ca) none oe → (∃ vs, oe.data = .fields vs) → PSs (X.suite a ((a, oe) :: pn)) (b₀ :: suite) (rdS ⟨X.K, X.mg, cl⟩ WF none (su c'))) (r : HdsM ⟨X.K, X.mg, cl⟩ X subG hds l) :
    HdsM ⟨X.K, X.mg, cl⟩ X subG (.ExceptHandler (some (.Name x np)) none (b₀ :: suite) pos' :: hds) ((k, none, su) :: l) := by
  obtain ⟨Ck, h1, h2⟩ := T.ex
  exact .bare ⟨hg, hd, .inl h1⟩ h2 hsu r
theorem hdAs (i : Nat) {x n : Str} {b₀ : Stmt} {suite : List Stmt} {np pos' : Pos} {hds : List ExceptHandler} {l : List MCl} {su : Nat → MS} (T : HdlOk X.K X.mg cl k x) (hg : Gl X x := by rfl) (hd : (x == ("__debug__" : Str)) = false := by decide)
    (hi : X.N[i]? = some n := by rfl) (hln : X.env.kindOf n = some .local := by rfl)
    (hsu : ∀ (a : Addr) (oe : Obj) (c' : Nat) (Ca : Addr) (pn : List (Addr × Obj)), cl[c']? = some Ca → Zc (.ref Ca) none oe → (∃ vs, oe.data = .fields vs) → PSs (X.suite a ((a, oe) :: pn)) (b₀ :: suite) (rdS ⟨X.K, X.mg, cl⟩ WF (some (i, .ref a)) (su c'))) (r : HdsM ⟨X.K, X.mg, cl⟩ X subG hds l) :
    HdsM ⟨X.K, X.mg, cl⟩ X subG (.ExceptHandler (some (.Name x np)) (some n) (b₀ :: suite) pos' :: hds) ((k, some i, su) :: l) := by
  obtain ⟨Ck, h1, h2⟩ := T.ex
  exact .named ⟨hg, hd, .inl h1⟩ hi hln h2 hsu r
end
end Mini
end

section
set_option Elab.async false
set_option linter.all false
set_option maxRecDepth 100000
/-! The small semantics of the defs (printed by gen.py). -/
namespace PM
open PySem L2 Mini
noncomputable def b_add_leaves (mf : MFun) : MS :=
    (mFor (mSeqI (mVar 0)) (.tup [(.name 4), (.name 5)])
    (mSeq (mAsg (mOp fAdd (mVar 1) (mTup (mCons (mCB fTuple (mCons (mVar 4) mNil)) mNil))) (.name 6))
    (mSeq (mIte (mTest (mOp fEq (mCB fLen (mCons (mVar 5) mNil)) (mC (.int 0))))
    (mDrop (mLM fApp (mVar 3) (mCons (mTup (mCons (mVar 2) (mCons (mVar 6) mNil))) mNil)))
    (mDrop (mCall 4 mf (mCons (mVar 5) (mCons (mVar 6) (mCons (mVar 2) (mCons (mVar 3) mNil)))))))
    (mAsg (mCB fLen (mCons (mVar 1) mNil)) (.name 2)))))
noncomputable def m_add_leaves : Nat → MFun
  | 0 => noFun
  | k + 1 => cutF (frzF (mDef 7 4 (b_add_leaves (m_add_leaves k))))
noncomputable def b_outline_of : MS :=
    (mSeq (mAsg (mCell mNil) (.name 1))
    (mSeq (mDrop (mCall 4 (m_add_leaves 70) (mCons (mVar 0) (mCons (mTup mNil) (mCons (mC (.int 0)) (mCons (mVar 1) mNil))))))
    (mRet (mVar 1))))
noncomputable def m_outline_of : MFun := cutF (frzF (mDef 2 1 b_outline_of))
noncomputable def b_check_outline : MS :=
    (mSeq (mAsg (mC .non) (.name 1))
    (mFor (mSeqI (mVar 0)) (.tup [(.name 2), (.name 3)])
    (mSeq (mIte (mOr (mTest (mOp fEq (mCB fLen (mCons (mVar 3) mNil)) (mC (.int 0)))) (mTest (mOp fLt (mVar 2) (mC (.int 0)))))
    (mRaise 1)
    mNext)
    (mSeq (mIte (mAnd (mTest (mOp (fIs false) (mVar 1) (mC .non))) (mTest (mOp fGt (mVar 2) (mC (.int 0)))))
    (mRaise 1)
    mNext)
    (mSeq (mIte (mAnd (mTest (mOp (fIs true) (mVar 1) (mC .non))) (mTest (mOp fGt (mVar 2) (mOp fSub (mCB fMin2 (mCons (mCB fLen (mCons (mVar 1) mNil)) (mCons (mCB fLen (mCons (mVar 3) mNil)) mNil))) (mC (.int 1))))))
    (mRaise 1)
    mNext)
    (mSeq (mIte (mAnd (mTest (mOp (fIs true) (mVar 1) (mC .non))) (mTest (mOp fNe (mSl (mVar 3) mNoPart (mPart (mVar 2))) (mSl (mVar 1) mNoPart (mPart (mVar 2))))))
    (mRaise 1)
    mNext)
    (mAsg (mVar 3) (.name 1))))))))
noncomputable def m_check_outline : MFun := cutF (frzF (mDef 4 1 b_check_outline))
noncomputable def b_form_of : MS :=
    (mSeq (mDrop (mCall 1 m_check_outline (mCons (mVar 0) mNil)))
    (mSeq (mAsg (mCell mNil) (.name 1))
    (mSeq (mAsg (mCell (mCons (mVar 1) mNil)) (.name 2))
    (mSeq (mFor (mSeqI (mVar 0)) (.tup [(.name 3), (.name 4)])
    (mSeq (mAsg (mSlH (mVar 2) mNoPart (mPart (mOp fAdd (mVar 3) (mC (.int 1))))) (.name 2))
    (mFor (mSeqI (mSl (mVar 4) (mPart (mVar 3)) mNoPart)) (.name 5)
    (mSeq (mAsg (mCell mNil) (.name 6))
    (mSeq (mDrop (mLM fApp (mOp fIx (mVar 2) (mUn fNeg (mC (.int 1)))) (mCons (mTup (mCons (mVar 5) (mCons (mVar 6) mNil))) mNil)))
    (mDrop (mLM fApp (mVar 2) (mCons (mVar 6) mNil))))))))
    (mRet (mVar 1))))))
noncomputable def m_form_of : MFun := cutF (frzF (mDef 7 1 b_form_of))
noncomputable def b_check_hunks : MS :=
    (mSeq (mAsg (mUn fNeg (mC (.int 1))) (.name 1))
    (mFor (mSeqI (mVar 0)) (.tup [(.name 2), (.name 3), (.name 4)])
    (mSeq (mIte (mTest (mOp fLt (mVar 2) (mC (.int 0))))
    (mRaise 38)
    mNext)
    (mSeq (mIte (mTest (mOp fEq (mOp fAdd (mCB fLen (mCons (mVar 3) mNil)) (mCB fLen (mCons (mVar 4) mNil))) (mC (.int 0))))
    (mRaise 38)
    mNext)
    (mSeq (mIte (mTest (mOp fLe (mVar 2) (mVar 1)))
    (mRaise 38)
    mNext)
    (mAsg (mOp fAdd (mVar 2) (mCB fLen (mCons (mVar 3) mNil))) (.name 1)))))))
noncomputable def m_check_hunks : MFun := cutF (frzF (mDef 5 1 b_check_hunks))
noncomputable def b_replaced : MS :=
    (mSeq (mAsg (mCell mNil) (.name 3))
    (mSeq (mAsg (mC (.int 0)) (.name 4))
    (mSeq (mFor (mSeqI (mVar 1)) (.tup [(.name 5), (.name 6), (.name 7)])
    (mSeq (mDrop (mLM fExt (mVar 3) (mCons (mSl (mVar 0) (mPart (mVar 4)) (mPart (mOp fSub (mVar 5) (mVar 2)))) mNil)))
    (mSeq (mDrop (mLM fExt (mVar 3) (mCons (mCB fList (mCons (mVar 7) mNil)) mNil)))
    (mAsg (mOp fAdd (mOp fSub (mVar 5) (mVar 2)) (mCB fLen (mCons (mVar 6) mNil))) (.name 4)))))
    (mSeq (mDrop (mLM fExt (mVar 3) (mCons (mSl (mVar 0) (mPart (mVar 4)) mNoPart) mNil)))
    (mRet (mVar 3))))))
noncomputable def m_replaced : MFun := cutF (frzF (mDef 8 3 b_replaced))
noncomputable def b_Change__init_ : MS :=
    (mSeq (mSetFld 40 "hunks" (mVar 0) (mCB fTuple (mCons (mLc [2, 3, 4] (mSeqI (mVar 1)) (.tup [(.name 2), (.name 3), (.name 4)]) mYes (mTup (mCons (mVar 2) (mCons (mCB fTuple (mCons (mVar 3) mNil)) (mCons (mCB fTuple (mCons (mVar 4) mNil)) mNil))))) mNil)))
    (mDrop (mCall 1 m_check_hunks (mCons (mFld 40 "hunks" (mVar 0)) mNil))))
noncomputable def m_Change__init_ : MFun := cutF (frzF (mDef 5 2 b_Change__init_))
noncomputable def b_Change_touched : MS :=
    (mRet (mCB fSum (mCons (mLc [1, 2, 3] (mSeqI (mFld 40 "hunks" (mVar 0))) (.tup [(.name 1), (.name 2), (.name 3)]) mYes (mOp fAdd (mCB fLen (mCons (mVar 3) mNil)) (mCB fLen (mCons (mVar 2) mNil)))) mNil)))
noncomputable def m_Change_touched : MFun := cutF (frzF (mDef 4 1 b_Change_touched))
noncomputable def b_Change_contrary : MS :=
    (mSeq (mAsg (mCell mNil) (.name 1))
    (mSeq (mAsg (mC (.int 0)) (.name 2))
    (mSeq (mFor (mSeqI (mFld 40 "hunks" (mVar 0))) (.tup [(.name 3), (.name 4), (.name 5)])
    (mSeq (mDrop (mLM fApp (mVar 1) (mCons (mTup (mCons (mOp fAdd (mVar 3) (mVar 2)) (mCons (mVar 5) (mCons (mVar 4) mNil)))) mNil)))
    (mAug 2 fAddI (mOp fSub (mCB fLen (mCons (mVar 5) mNil)) (mCB fLen (mCons (mVar 4) mNil))))))
    (mRet (mMake 40 2 m_Change__init_ [] (mCons (mVar 1) mNil))))))
noncomputable def m_Change_contrary : MFun := cutF (frzF (mDef 6 1 b_Change_contrary))
noncomputable def b_spliced : MS :=
    (mSeq (mAsg (mCB fList (mCons (mVar 0) mNil)) (.name 0))
    (mSeq (mFor (mSeqI (mFld 40 "hunks" (mVar 1))) (.tup [(.name 2), (.name 3), (.name 4)])
    (mIte (mOr (mTest (mOp fGt (mVar 2) (mCB fLen (mCons (mVar 0) mNil)))) (mTest (mOp fNe (mSl (mVar 0) (mPart (mVar 2)) (mPart (mOp fAdd (mVar 2) (mCB fLen (mCons (mVar 3) mNil))))) (mCB fList (mCons (mVar 3) mNil)))))
    (mRaise 39)
    mNext))
    (mRet (mCall 3 m_replaced (mCons (mVar 0) (mCons (mFld 40 "hunks" (mVar 1)) (mCons (mC (.int 0)) mNil)))))))
noncomputable def m_spliced : MFun := cutF (frzF (mDef 5 2 b_spliced))
noncomputable def b_changed : MS :=
    (mRet (mCall 1 m_form_of (mCons (mCall 2 m_spliced (mCons (mCall 1 m_outline_of (mCons (mVar 0) mNil)) (mCons (mVar 1) mNil))) mNil)))
noncomputable def m_changed : MFun := cutF (frzF (mDef 2 2 b_changed))
noncomputable def b_narrow : MS :=
    (mSeq (mAsg (mCB fList (mCons (mVar 1) mNil)) (.name 1))
    (mSeq (mAsg (mCB fList (mCons (mVar 2) mNil)) (.name 2))
    (mSeq (mWhile 100000 (mAnd (mTest (mOp fGt (mCB fLen (mCons (mVar 1) mNil)) (mC (.int 0)))) (mAnd (mTest (mOp fGt (mCB fLen (mCons (mVar 2) mNil)) (mC (.int 0)))) (mTest (mOp fEq (mOp fIx (mVar 1) (mUn fNeg (mC (.int 1)))) (mOp fIx (mVar 2) (mUn fNeg (mC (.int 1))))))))
    (mSeq (mAsg (mSl (mVar 1) mNoPart (mPart (mUn fNeg (mC (.int 1))))) (.name 1))
    (mAsg (mSl (mVar 2) mNoPart (mPart (mUn fNeg (mC (.int 1))))) (.name 2))))
    (mSeq (mWhile 100000 (mAnd (mTest (mOp fGt (mCB fLen (mCons (mVar 1) mNil)) (mC (.int 0)))) (mAnd (mTest (mOp fGt (mCB fLen (mCons (mVar 2) mNil)) (mC (.int 0)))) (mTest (mOp fEq (mOp fIx (mVar 1) (mC (.int 0))) (mOp fIx (mVar 2) (mC (.int 0)))))))
    (mSeq (mAsg (mSl (mVar 1) (mPart (mC (.int 1))) mNoPart) (.name 1))
    (mSeq (mAsg (mSl (mVar 2) (mPart (mC (.int 1))) mNoPart) (.name 2))
    (mAug 0 fAddI (mC (.int 1))))))
    (mRet (mTup (mCons (mVar 0) (mCons (mVar 1) (mCons (mVar 2) mNil)))))))))
noncomputable def m_narrow : MFun := cutF (frzF (mDef 3 3 b_narrow))
noncomputable def b_change_of : MS :=
    (mRet (mMake 40 2 m_Change__init_ [] (mCons (mLc [1] (mSeqI (mVar 0)) (.name 1) (mTest (mOp fGt (mOp fAdd (mCB fLen (mCons (mOp fIx (mVar 1) (mC (.int 1))) mNil)) (mCB fLen (mCons (mOp fIx (mVar 1) (mC (.int 2))) mNil))) (mC (.int 0)))) (mVar 1)) mNil)))
noncomputable def m_change_of : MFun := cutF (frzF (mDef 2 1 b_change_of))
noncomputable def b_narrowed : MS :=
    (mRet (mCall 1 m_change_of (mCons (mLc [1, 2, 3] (mSeqI (mFld 40 "hunks" (mVar 0))) (.tup [(.name 1), (.name 2), (.name 3)]) mYes (mCall 3 m_narrow (mCons (mVar 1) (mCons (mVar 2) (mCons (mVar 3) mNil))))) mNil)))
noncomputable def m_narrowed : MFun := cutF (frzF (mDef 4 1 b_narrowed))
noncomputable def b_change_between : MS :=
    (mRet (mCall 1 m_change_of (mCons (mLst (mCons (mCall 3 m_narrow (mCons (mC (.int 0)) (mCons (mCall 1 m_outline_of (mCons (mVar 0) mNil)) (mCons (mCall 1 m_outline_of (mCons (mVar 1) mNil)) mNil)))) mNil)) mNil)))
noncomputable def m_change_between : MFun := cutF (frzF (mDef 2 2 b_change_between))
noncomputable def b_common_lengths : MS :=
    (mSeq (mAsg (mLc [3] (mRng1 (mCons (mOp fAdd (mCB fLen (mCons (mVar 0) mNil)) (mC (.int 1))) mNil)) (.name 3) mYes (mLcH [4] (mRng1 (mCons (mOp fAdd (mCB fLen (mCons (mVar 1) mNil)) (mC (.int 1))) mNil)) (.name 4) mYes (mC (.int 0)))) (.name 2))
    (mSeq (mFor (mRngD (mCons (mOp fSub (mCB fLen (mCons (mVar 0) mNil)) (mC (.int 1))) (mCons (mUn fNeg (mC (.int 1))) (mCons (mUn fNeg (mC (.int 1))) mNil)))) (.name 3)
    (mFor (mRngD (mCons (mOp fSub (mCB fLen (mCons (mVar 1) mNil)) (mC (.int 1))) (mCons (mUn fNeg (mC (.int 1))) (mCons (mUn fNeg (mC (.int 1))) mNil)))) (.name 4)
    (mIte (mTest (mOp fEq (mOp fIx (mVar 0) (mVar 3)) (mOp fIx (mVar 1) (mVar 4))))
    (mSetIx (mOp fIx (mVar 2) (mVar 3)) (mVar 4) (mOp fAdd (mOp fIx (mOp fIx (mVar 2) (mOp fAdd (mVar 3) (mC (.int 1)))) (mOp fAdd (mVar 4) (mC (.int 1)))) (mC (.int 1))))
    (mSetIx (mOp fIx (mVar 2) (mVar 3)) (mVar 4) (mCB fMax2 (mCons (mOp fIx (mOp fIx (mVar 2) (mOp fAdd (mVar 3) (mC (.int 1)))) (mVar 4)) (mCons (mOp fIx (mOp fIx (mVar 2) (mVar 3)) (mOp fAdd (mVar 4) (mC (.int 1)))) mNil)))))))
    (mRet (mVar 2))))
noncomputable def m_common_lengths : MFun := cutF (frzF (mDef 5 2 b_common_lengths))
noncomputable def b_least_change : MS :=
    (mSeq (mAsg (mCall 1 m_outline_of (mCons (mVar 0) mNil)) (.name 2))
    (mSeq (mAsg (mCall 1 m_outline_of (mCons (mVar 1) mNil)) (.name 3))
    (mSeq (mAsg (mCall 2 m_common_lengths (mCons (mVar 2) (mCons (mVar 3) mNil))) (.name 4))
    (mSeq (mAsg (mCell mNil) (.name 5))
    (mSeq (mAsg (mCell mNil) (.name 6))
    (mSeq (mAsg (mCell mNil) (.name 7))
    (mSeq (mAsg (mC (.int 0)) (.name 8))
    (mSeq (mAsg (mC (.int 0)) (.name 9))
    (mSeq (mWhile 100000 (mOr (mTest (mOp fLt (mVar 8) (mCB fLen (mCons (mVar 2) mNil)))) (mTest (mOp fLt (mVar 9) (mCB fLen (mCons (mVar 3) mNil)))))
    (mIte (mAnd (mTest (mOp fLt (mVar 8) (mCB fLen (mCons (mVar 2) mNil)))) (mAnd (mTest (mOp fLt (mVar 9) (mCB fLen (mCons (mVar 3) mNil)))) (mTest (mOp fEq (mOp fIx (mVar 2) (mVar 8)) (mOp fIx (mVar 3) (mVar 9))))))
    (mSeq (mDrop (mLM fApp (mVar 5) (mCons (mTup (mCons (mOp fSub (mVar 8) (mCB fLen (mCons (mVar 6) mNil))) (mCons (mVar 6) (mCons (mVar 7) mNil)))) mNil)))
    (mSeq (mAsg (mCell mNil) (.name 6))
    (mSeq (mAsg (mCell mNil) (.name 7))
    (mSeq (mAug 8 fAddI (mC (.int 1)))
    (mAug 9 fAddI (mC (.int 1)))))))
    (mIte (mOr (mTest (mOp fEq (mVar 9) (mCB fLen (mCons (mVar 3) mNil)))) (mAnd (mTest (mOp fLt (mVar 8) (mCB fLen (mCons (mVar 2) mNil)))) (mTest (mOp fGe (mOp fIx (mOp fIx (mVar 4) (mOp fAdd (mVar 8) (mC (.int 1)))) (mVar 9)) (mOp fIx (mOp fIx (mVar 4) (mVar 8)) (mOp fAdd (mVar 9) (mC (.int 1))))))))
    (mSeq (mDrop (mLM fApp (mVar 6) (mCons (mOp fIx (mVar 2) (mVar 8)) mNil)))
    (mAug 8 fAddI (mC (.int 1))))
    (mSeq (mDrop (mLM fApp (mVar 7) (mCons (mOp fIx (mVar 3) (mVar 9)) mNil)))
    (mAug 9 fAddI (mC (.int 1)))))))
    (mSeq (mDrop (mLM fApp (mVar 5) (mCons (mTup (mCons (mOp fSub (mVar 8) (mCB fLen (mCons (mVar 6) mNil))) (mCons (mVar 6) (mCons (mVar 7) mNil)))) mNil)))
    (mRet (mCall 1 m_change_of (mCons (mVar 5) mNil)))))))))))))
noncomputable def m_least_change : MFun := cutF (frzF (mDef 10 2 b_least_change))
noncomputable def b__law_draws : MS :=
    (mSeq (mAsg (mCell mNil) (.name 1))
    (mSeq (mFor (mSeqI (mVar 0)) (.name 2)
    (mSeq (mAsg (mCB fInt (mCons (mVar 2) mNil)) (.name 3))
    (mIte (mTest (mChain fLe fLt (mC (.int 0)) (mVar 3) (mC (.int 1000))))
    (mDrop (mLM fApp (mVar 1) (mCons (mVar 3) mNil)))
    (mIte (mTest (mOp fGe (mVar 3) (mOp fPow (mC (.int 10)) (mC (.int 18)))))
    (mFor (mRng1 (mCons (mC (.int 60)) mNil)) (.name 4)
    (mIte (mTest (mOp fGt (mVar 3) (mC (.int 0))))
    (mSeq (mDrop (mLM fApp (mVar 1) (mCons (mOp fMod (mCB fInt (mCons (mVar 3) mNil)) (mC (.int 1000))) mNil)))
    (mAsg (mOp fDiv (mVar 3) (mC (.int 1000))) (.name 3)))
    mNext))
    (mSeq (mAsg (mOp fMod (mCB fInt (mCons (mOp fMul (mVar 3) (mC (.int 48271))) mNil)) (mC (.int 2147483647))) (.name 3))
    (mFor (mRng1 (mCons (mC (.int 4)) mNil)) (.name 4)
    (mSeq (mAsg (mOp fMod (mCB fInt (mCons (mOp fMul (mVar 3) (mC (.int 69621))) mNil)) (mC (.int 2147483629))) (.name 3))
    (mDrop (mLM fApp (mVar 1) (mCons (mOp fMod (mCB fInt (mCons (mOp fDiv (mVar 3) (mC (.int 7))) mNil)) (mC (.int 1000))) mNil))))))))))
    (mSeq (mDrop (mLM0 fRev (mVar 1)))
    (mRet (mVar 1)))))
noncomputable def m__law_draws : MFun := (mDef 5 1 b__law_draws)
noncomputable def b__law_draw : MS :=
    (mSeq (mIte (mTest (mOp fEq (mCB fLen (mCons (mVar 0) mNil)) (mC (.int 0))))
    (mRet (mC (.int 0)))
    mNext)
    (mRet (mOp fMod (mCB fInt (mCons (mLM0 fPop (mVar 0)) mNil)) (mVar 1))))
noncomputable def m__law_draw : MFun := cutF (frzF (mDef 2 2 b__law_draw))
noncomputable def b__law_pick : MS :=
    (mRet (mOp fIx (mVar 1) (mCall 2 m__law_draw (mCons (mVar 0) (mCons (mCB fLen (mCons (mVar 1) mNil)) mNil)))))
noncomputable def m__law_pick : MFun := cutF (frzF (mDef 2 2 b__law_pick))
noncomputable def b__law_same (mf : MFun) : MS :=
    (mSeq (mIte (mOr (mTest (mIsi .bl (mVar 1))) (mTest (mIsi .bl (mVar 0))))
    (mRet (mAndV (mIsi .bl (mVar 1)) (mAndV (mIsi .bl (mVar 0)) (mOp fEq (mVar 0) (mVar 1)))))
    mNext)
    (mSeq (mIte (mOr (mTest (mOp (fIs false) (mVar 1) (mC .non))) (mTest (mOp (fIs false) (mVar 0) (mC .non))))
    (mRet (mAndV (mOp (fIs false) (mVar 1) (mC .non)) (mOp (fIs false) (mVar 0) (mC .non))))
    mNext)
    (mSeq (mIte (mTest (mIsi .int (mVar 1)))
    (mRet (mAndV (mIsi .int (mVar 0)) (mOp fEq (mVar 0) (mVar 1))))
    mNext)
    (mSeq (mIte (mTest (mIsi .str (mVar 1)))
    (mRet (mAndV (mIsi .str (mVar 0)) (mOp fEq (mVar 0) (mVar 1))))
    mNext)
    (mSeq (mIte (mAnd (mTest (mIsi .tup (mVar 1))) (mNot (mTest (mIsi .tup (mVar 0)))))
    (mRet (mC (.bl false)))
    mNext)
    (mSeq (mIte (mAnd (mTest (mIsi .lst (mVar 1))) (mNot (mTest (mIsi .lst (mVar 0)))))
    (mRet (mC (.bl false)))
    mNext)
    (mSeq (mIte (mTest (mOp fNe (mCB fLen (mCons (mVar 0) mNil)) (mCB fLen (mCons (mVar 1) mNil))))
    (mRet (mC (.bl false)))
    mNext)
    (mSeq (mFor (mRng1 (mCons (mCB fLen (mCons (mVar 1) mNil)) mNil)) (.name 2)
    (mIte (mNot (mTest (mCall 2 mf (mCons (mOp fIx (mVar 0) (mVar 2)) (mCons (mOp fIx (mVar 1) (mVar 2)) mNil)))))
    (mRet (mC (.bl false)))
    mNext))
    (mRet (mC (.bl true)))))))))))
noncomputable def m__law_same : Nat → MFun
  | 0 => noFun
  | k + 1 => cutF (frzF (mDef 3 2 (b__law_same (m__law_same k))))
noncomputable def b__law_names : MS :=
    (mSeq (mAsg (mC (.str "abcdefghijklmnopqrstuvwxyz")) (.name 2))
    (mSeq (mAsg (mCall 2 m__law_draw (mCons (mVar 0) (mCons (mC (.int 26)) mNil))) (.name 3))
    (mSeq (mAsg (mCall 2 m__law_pick (mCons (mVar 0) (mCons (mLst (mCons (mC (.int 1)) (mCons (mC (.int 25)) (mCons (mC (.int 3)) (mCons (mC (.int 7)) mNil))))) mNil))) (.name 4))
    (mSeq (mAsg (mOp fMul (mC (.str "m")) (mCall 2 m__law_draw (mCons (mVar 0) (mCons (mC (.int 4)) mNil)))) (.name 5))
    (mSeq (mAsg (mOp fMul (mC (.str "m")) (mCall 2 m__law_draw (mCons (mVar 0) (mCons (mC (.int 4)) mNil)))) (.name 6))
    (mSeq (mAsg (mCell mNil) (.name 7))
    (mSeq (mFor (mRng1 (mCons (mVar 1) mNil)) (.name 8)
    (mDrop (mLM fApp (mVar 7) (mCons (mOp fAdd (mOp fAdd (mVar 5) (mOp fIx (mVar 2) (mOp fMod (mCB fInt (mCons (mOp fAdd (mVar 3) (mOp fMul (mVar 8) (mVar 4))) mNil)) (mC (.int 26))))) (mVar 6)) mNil))))
    (mRet (mVar 7)))))))))
noncomputable def m__law_names : MFun := cutF (frzF (mDef 9 2 b__law_names))
noncomputable def b__law_book : MS :=
    (mSeq (mAsg (mCall 2 m__law_names (mCons (mVar 0) (mCons (mVar 1) mNil))) (.name 2))
    (mSeq (mAsg (mCell mNil) (.name 3))
    (mSeq (mFor (mRng1 (mCons (mOp fAdd (mC (.int 1)) (mOp fMod (mCB fInt (mCons (mOp fAdd (mC (.int 1)) (mCall 2 m__law_draw (mCons (mVar 0) (mCons (mVar 1) mNil)))) mNil)) (mVar 1))) mNil)) (.name 4)
    (mSeq (mAsg (mCall 2 m__law_pick (mCons (mVar 0) (mCons (mLst (mCons (mC (.int 2)) (mCons (mC (.int 3)) (mCons (mC (.int 1)) (mCons (mC (.int 4)) mNil))))) mNil))) (.name 5))
    (mSeq (mAsg (mCall 2 m__law_draw (mCons (mVar 0) (mCons (mOp fAdd (mVar 4) (mC (.int 1))) mNil))) (.name 6))
    (mIte (mTest (mOp fEq (mVar 6) (mC (.int 0))))
    (mDrop (mLM fApp (mVar 3) (mCons (mTup (mCons (mOp fIx (mVar 2) (mVar 4)) (mCons (mVar 5) (mCons (mC .non) (mCons (mTup mNil) mNil))))) mNil)))
    (mSeq (mAsg (mOp fIx (mVar 3) (mOp fSub (mVar 6) (mC (.int 1)))) (.name 7))
    (mSeq (mAsg (mLc [9] (mRng1 (mCons (mVar 5) mNil)) (.name 9) mYes (mCall 2 m__law_draw (mCons (mVar 0) (mCons (mOp fIx (mVar 7) (mC (.int 1))) mNil)))) (.name 8))
    (mDrop (mLM fApp (mVar 3) (mCons (mTup (mCons (mOp fIx (mVar 2) (mVar 4)) (mCons (mVar 5) (mCons (mOp fIx (mVar 7) (mC (.int 0))) (mCons (mCB fTuple (mCons (mVar 8) mNil)) mNil))))) mNil)))))))))
    (mRet (mVar 3)))))
noncomputable def m__law_book : MFun := cutF (frzF (mDef 10 2 b__law_book))
noncomputable def b__law_members : MS :=
    (mSeq (mAsg (mCell mNil) (.name 2))
    (mSeq (mFor (mSeqI (mVar 0)) (.name 3)
    (mIte (mOr (mTest (mOp fEq (mVar 1) (mC (.str "?")))) (mTest (mOp fEq (mVar 1) (mOp fIx (mVar 3) (mC (.int 0))))))
    (mAsg (mOp fAdd (mVar 2) (mLc [4] (mRng1 (mCons (mOp fIx (mVar 3) (mC (.int 1))) mNil)) (.name 4) mYes (mTup (mCons (mOp fIx (mVar 3) (mC (.int 0))) (mCons (mVar 4) mNil))))) (.name 2))
    mNext))
    (mRet (mVar 2))))
noncomputable def m__law_members : MFun := cutF (frzF (mDef 5 2 b__law_members))
noncomputable def b__law_count : MS :=
    (mRet (mOp fAdd (mC (.int 1)) (mOp fMod (mCB fInt (mCons (mOp fAdd (mC (.int 1)) (mCall 2 m__law_draw (mCons (mVar 0) (mCons (mVar 1) mNil)))) mNil)) (mVar 1))))
noncomputable def m__law_count : MFun := cutF (frzF (mDef 2 2 b__law_count))
noncomputable def b__law_shape : MS :=
    (mSeq (mAsg (mLc [3] (mRng1 (mCons (mVar 1) mNil)) (.name 3) mYes (mCell mNil)) (.name 2))
    (mSeq (mFor (mRng1 (mCons (mVar 1) mNil)) (.name 3)
    (mSeq (mAsg (mOp fIx (mVar 2) (mOp fMod (mCB fInt (mCons (mOp fAdd (mVar 3) (mCall 2 m__law_draw (mCons (mVar 0) (mCons (mVar 1) mNil)))) mNil)) (mVar 1))) (.name 4))
    (mDrop (mLM fApp (mVar 4) (mCons (mVar 3) mNil)))))
    (mRet (mCB fTuple (mCons (mLc [4] (mSeqI (mVar 2)) (.name 4) (mTest (mOp fNe (mVar 4) (mLst mNil))) (mCB fTuple (mCons (mVar 4) mNil))) mNil)))))
noncomputable def m__law_shape : MFun := cutF (frzF (mDef 5 2 b__law_shape))
noncomputable def b__law_kinds : MS :=
    (mSeq (mAsg (mOp fAdd (mLc [4] (mSeqI (mVar 1)) (.name 4) mYes (mOp fIx (mVar 4) (mC (.int 0)))) (mLst (mCons (mC (.str "?")) mNil))) (.name 3))
    (mRet (mCB fTuple (mCons (mLc [5] (mRng1 (mCons (mVar 2) mNil)) (.name 5) mYes (mCall 2 m__law_pick (mCons (mVar 0) (mCons (mVar 3) mNil)))) mNil))))
noncomputable def m__law_kinds : MFun := cutF (frzF (mDef 6 3 b__law_kinds))
noncomputable def b__law_menus : MS :=
    (mRet (mLc [2] (mSeqI (mVar 1)) (.name 2) mYes (mCall 2 m__law_members (mCons (mVar 0) (mCons (mVar 2) mNil)))))
noncomputable def m__law_menus : MFun := cutF (frzF (mDef 3 2 b__law_menus))
noncomputable def b__law_form : MS :=
    (mSeq (mAsg (mCell mNil) (.name 1))
    (mSeq (mAsg (mCell (mCons (mVar 1) mNil)) (.name 2))
    (mSeq (mFor (mSeqI (mVar 0)) (.tup [(.name 3), (.name 4)])
    (mSeq (mAsg (mSlH (mVar 2) mNoPart (mPart (mOp fAdd (mVar 3) (mC (.int 1))))) (.name 2))
    (mFor (mSeqI (mSl (mVar 4) (mPart (mVar 3)) mNoPart)) (.name 5)
    (mSeq (mAsg (mCell mNil) (.name 6))
    (mSeq (mAsg (mOp fIx (mVar 2) (mOp fSub (mCB fLen (mCons (mVar 2) mNil)) (mC (.int 1)))) (.name 7))
    (mSeq (mDrop (mLM fApp (mVar 7) (mCons (mTup (mCons (mVar 5) (mCons (mVar 6) mNil))) mNil)))
    (mDrop (mLM fApp (mVar 2) (mCons (mVar 6) mNil)))))))))
    (mRet (mVar 1)))))
noncomputable def m__law_form : MFun := cutF (frzF (mDef 8 1 b__law_form))
noncomputable def b__law_leaf : MS :=
    (mSeq (mAsg (mOp fSub (mCB fLen (mCons (mVar 1) mNil)) (mC (.int 1))) (.name 4))
    (mSeq (mIte (mTest (mOp fEq (mCall 2 m__law_draw (mCons (mVar 0) (mCons (mC (.int 4)) mNil))) (mC (.int 3))))
    (mAsg (mCall 2 m__law_draw (mCons (mVar 0) (mCons (mCB fLen (mCons (mVar 1) mNil)) mNil))) (.name 4))
    mNext)
    (mSeq (mAsg (mCall 2 m__law_draw (mCons (mVar 0) (mCons (mOp fAdd (mCB fMin2 (mCons (mVar 4) (mCons (mCB fMax2 (mCons (mC (.int 0)) (mCons (mOp fSub (mCB fLen (mCons (mVar 3) mNil)) (mC (.int 1))) mNil))) mNil))) (mC (.int 1))) mNil))) (.name 5))
    (mSeq (mAsg (mSl (mVar 3) mNoPart (mPart (mVar 5))) (.name 6))
    (mSeq (mFor (mRng2 (mCons (mVar 5) (mCons (mOp fAdd (mVar 4) (mC (.int 1))) mNil))) (.name 7)
    (mSeq (mAsg (mSl (mVar 3) (mPart (mVar 7)) (mPart (mOp fAdd (mVar 7) (mC (.int 1))))) (.name 8))
    (mSeq (mIte (mOr (mTest (mOp fEq (mVar 8) (mTup mNil))) (mTest (mOp fEq (mCall 2 m__law_draw (mCons (mVar 0) (mCons (mC (.int 2)) mNil))) (mC (.int 0)))))
    (mAsg (mTup (mCons (mCB fTuple (mCons (mLc [9] (mSeqI (mOp fIx (mVar 1) (mVar 7))) (.name 9) mYes (mCall 2 m__law_pick (mCons (mVar 0) (mCons (mOp fIx (mVar 2) (mVar 9)) mNil)))) mNil)) mNil)) (.name 8))
    mNext)
    (mAsg (mOp fAdd (mVar 6) (mVar 8)) (.name 6)))))
    (mRet (mTup (mCons (mVar 5) (mCons (mVar 6) mNil)))))))))
noncomputable def m__law_leaf : MFun := cutF (frzF (mDef 10 4 b__law_leaf))
noncomputable def b__law_leafs : MS :=
    (mSeq (mAsg (mCell mNil) (.name 4))
    (mSeq (mAsg (mTup mNil) (.name 5))
    (mSeq (mFor (mRng1 (mCons (mOp fMod (mCB fInt (mCons (mOp fAdd (mC (.int 2)) (mCall 2 m__law_draw (mCons (mVar 0) (mCons (mOp fAdd (mVar 3) (mC (.int 1))) mNil)))) mNil)) (mOp fAdd (mVar 3) (mC (.int 1)))) mNil)) (.name 6)
    (mSeq (mAsg (mCall 4 m__law_leaf (mCons (mVar 0) (mCons (mVar 1) (mCons (mVar 2) (mCons (mVar 5) mNil))))) (.name 7))
    (mSeq (mDrop (mLM fApp (mVar 4) (mCons (mVar 7) mNil)))
    (mAsg (mOp fIx (mVar 7) (mC (.int 1))) (.name 5)))))
    (mRet (mVar 4)))))
noncomputable def m__law_leafs : MFun := cutF (frzF (mDef 8 4 b__law_leafs))
noncomputable def b__law_mended : MS :=
    (mSeq (mAsg (mVar 0) (.tup [(.name 2), (.name 3)]))
    (mSeq (mAsg (mC (.int 0)) (.name 4))
    (mSeq (mFor (mRng1 (mCons (mOp fSub (mCB fMin2 (mCons (mCB fLen (mCons (mVar 1) mNil)) (mCons (mCB fLen (mCons (mVar 3) mNil)) mNil))) (mC (.int 1))) mNil)) (.name 5)
    (mIte (mAnd (mTest (mOp fEq (mVar 5) (mVar 4))) (mTest (mOp fEq (mOp fIx (mVar 1) (mVar 5)) (mOp fIx (mVar 3) (mVar 5)))))
    (mAsg (mOp fAdd (mVar 5) (mC (.int 1))) (.name 4))
    mNext))
    (mRet (mTup (mCons (mCB fMin2 (mCons (mVar 2) (mCons (mVar 4) mNil))) (mCons (mVar 3) mNil)))))))
noncomputable def m__law_mended : MFun := cutF (frzF (mDef 6 2 b__law_mended))
noncomputable def b__law_edited : MS :=
    (mSeq (mAsg (mCell mNil) (.name 5))
    (mSeq (mAsg (mCell mNil) (.name 6))
    (mSeq (mAsg (mCell mNil) (.name 7))
    (mSeq (mAsg (mCell mNil) (.name 8))
    (mSeq (mAsg (mVar 4) (.name 9))
    (mSeq (mFor (mRng1 (mCons (mOp fAdd (mCB fLen (mCons (mVar 3) mNil)) (mC (.int 1))) mNil)) (.name 10)
    (mSeq (mAsg (mIf (mTest (mOp fEq (mVar 6) (mLst mNil))) (mTup mNil) (mOp fIx (mOp fIx (mVar 6) (mOp fSub (mCB fLen (mCons (mVar 6) mNil)) (mC (.int 1)))) (mC (.int 1)))) (.name 11))
    (mSeq (mIte (mAnd (mTest (mOp fGt (mVar 9) (mC (.int 0)))) (mTest (mOp fEq (mCall 2 m__law_draw (mCons (mVar 0) (mCons (mC (.int 3)) mNil))) (mC (.int 0)))))
    (mSeq (mAsg (mCall 4 m__law_leaf (mCons (mVar 0) (mCons (mVar 1) (mCons (mVar 2) (mCons (mVar 11) mNil))))) (.name 12))
    (mSeq (mAsg (mOp fSub (mVar 9) (mC (.int 1))) (.name 9))
    (mSeq (mDrop (mLM fApp (mVar 8) (mCons (mVar 12) mNil)))
    (mSeq (mDrop (mLM fApp (mVar 6) (mCons (mVar 12) mNil)))
    (mAsg (mOp fIx (mVar 12) (mC (.int 1))) (.name 11))))))
    mNext)
    (mIte (mTest (mOp fLt (mVar 10) (mCB fLen (mCons (mVar 3) mNil))))
    (mSeq (mAsg (mCall 2 m__law_mended (mCons (mOp fIx (mVar 3) (mVar 10)) (mCons (mVar 11) mNil))) (.name 12))
    (mSeq (mAsg (mCall 2 m__law_draw (mCons (mVar 0) (mCons (mC (.int 4)) mNil))) (.name 13))
    (mIte (mAnd (mTest (mOp fLt (mVar 13) (mC (.int 3)))) (mTest (mOp fEq (mVar 12) (mOp fIx (mVar 3) (mVar 10)))))
    (mSeq (mIte (mOr (mTest (mOp fNe (mVar 7) (mLst mNil))) (mTest (mOp fNe (mVar 8) (mLst mNil))))
    (mDrop (mLM fApp (mVar 5) (mCons (mTup (mCons (mOp fSub (mVar 10) (mCB fLen (mCons (mVar 7) mNil))) (mCons (mCB fTuple (mCons (mVar 7) mNil)) (mCons (mCB fTuple (mCons (mVar 8) mNil)) mNil)))) mNil)))
    mNext)
    (mSeq (mAsg (mCell mNil) (.name 7))
    (mSeq (mAsg (mCell mNil) (.name 8))
    (mDrop (mLM fApp (mVar 6) (mCons (mVar 12) mNil))))))
    (mSeq (mDrop (mLM fApp (mVar 7) (mCons (mOp fIx (mVar 3) (mVar 10)) mNil)))
    (mIte (mTest (mOp fLt (mVar 13) (mC (.int 3))))
    (mSeq (mDrop (mLM fApp (mVar 8) (mCons (mVar 12) mNil)))
    (mDrop (mLM fApp (mVar 6) (mCons (mVar 12) mNil))))
    mNext)))))
    mNext))))
    (mSeq (mIte (mOr (mTest (mOp fNe (mVar 7) (mLst mNil))) (mTest (mOp fNe (mVar 8) (mLst mNil))))
    (mDrop (mLM fApp (mVar 5) (mCons (mTup (mCons (mOp fSub (mCB fLen (mCons (mVar 3) mNil)) (mCB fLen (mCons (mVar 7) mNil))) (mCons (mCB fTuple (mCons (mVar 7) mNil)) (mCons (mCB fTuple (mCons (mVar 8) mNil)) mNil)))) mNil)))
    mNext)
    (mRet (mTup (mCons (mCB fTuple (mCons (mVar 5) mNil)) (mCons (mVar 6) mNil)))))))))))
noncomputable def m__law_edited : MFun := cutF (frzF (mDef 14 5 b__law_edited))
noncomputable def b__law_hunks_good : MS :=
    (mSeq (mAsg (mUn fNeg (mC (.int 1))) (.name 1))
    (mSeq (mFor (mSeqI (mVar 0)) (.tup [(.name 2), (.name 3), (.name 4)])
    (mSeq (mIte (mOr (mTest (mOp fLe (mVar 2) (mVar 1))) (mTest (mOp fEq (mOp fAdd (mCB fLen (mCons (mVar 3) mNil)) (mCB fLen (mCons (mVar 4) mNil))) (mC (.int 0)))))
    (mRet (mC (.bl false)))
    mNext)
    (mAsg (mOp fAdd (mVar 2) (mCB fLen (mCons (mVar 3) mNil))) (.name 1))))
    (mRet (mC (.bl true)))))
noncomputable def m__law_hunks_good : MFun := cutF (frzF (mDef 5 1 b__law_hunks_good))
noncomputable def b__law_narrow : MS :=
    (mSeq (mAsg (mCB fList (mCons (mVar 1) mNil)) (.name 1))
    (mSeq (mAsg (mCB fList (mCons (mVar 2) mNil)) (.name 2))
    (mSeq (mFor (mRng1 (mCons (mOp fAdd (mCB fLen (mCons (mVar 1) mNil)) (mCB fLen (mCons (mVar 2) mNil))) mNil)) (.name 3)
    (mIte (mAnd (mTest (mOp fNe (mVar 1) (mLst mNil))) (mAnd (mTest (mOp fNe (mVar 2) (mLst mNil))) (mTest (mOp fEq (mOp fIx (mVar 1) (mOp fSub (mCB fLen (mCons (mVar 1) mNil)) (mC (.int 1)))) (mOp fIx (mVar 2) (mOp fSub (mCB fLen (mCons (mVar 2) mNil)) (mC (.int 1))))))))
    (mSeq (mAsg (mSl (mVar 1) mNoPart (mPart (mOp fSub (mCB fLen (mCons (mVar 1) mNil)) (mC (.int 1))))) (.name 1))
    (mAsg (mSl (mVar 2) mNoPart (mPart (mOp fSub (mCB fLen (mCons (mVar 2) mNil)) (mC (.int 1))))) (.name 2)))
    mNext))
    (mSeq (mFor (mRng1 (mCons (mOp fAdd (mCB fLen (mCons (mVar 1) mNil)) (mCB fLen (mCons (mVar 2) mNil))) mNil)) (.name 3)
    (mIte (mAnd (mTest (mOp fNe (mVar 1) (mLst mNil))) (mAnd (mTest (mOp fNe (mVar 2) (mLst mNil))) (mTest (mOp fEq (mOp fIx (mVar 1) (mC (.int 0))) (mOp fIx (mVar 2) (mC (.int 0)))))))
    (mSeq (mAsg (mSl (mVar 1) (mPart (mC (.int 1))) mNoPart) (.name 1))
    (mSeq (mAsg (mSl (mVar 2) (mPart (mC (.int 1))) mNoPart) (.name 2))
    (mAsg (mOp fAdd (mVar 0) (mC (.int 1))) (.name 0))))
    mNext))
    (mSeq (mIte (mAnd (mTest (mOp fEq (mVar 1) (mLst mNil))) (mTest (mOp fEq (mVar 2) (mLst mNil))))
    (mRet (mTup mNil))
    mNext)
    (mRet (mTup (mCons (mTup (mCons (mVar 0) (mCons (mCB fTuple (mCons (mVar 1) mNil)) (mCons (mCB fTuple (mCons (mVar 2) mNil)) mNil)))) mNil))))))))
noncomputable def m__law_narrow : MFun := cutF (frzF (mDef 4 3 b__law_narrow))
noncomputable def b__law_most_kept : MS :=
    (mSeq (mAsg (mLcH [3] (mSeqI (mVar 1)) (.name 3) mYes (mC (.int 0))) (.name 2))
    (mSeq (mFor (mSeqI (mVar 0)) (.name 3)
    (mSeq (mAsg (mC (.int 0)) (.name 4))
    (mFor (mRng1 (mCons (mCB fLen (mCons (mVar 1) mNil)) mNil)) (.name 5)
    (mSeq (mAsg (mVar 4) (.name 6))
    (mSeq (mAsg (mCB fMax2 (mCons (mVar 4) (mCons (mOp fIx (mVar 2) (mVar 5)) mNil))) (.name 4))
    (mIte (mTest (mOp fEq (mOp fIx (mVar 1) (mVar 5)) (mVar 3)))
    (mSetIx (mVar 2) (mVar 5) (mCB fMax2 (mCons (mOp fIx (mVar 2) (mVar 5)) (mCons (mOp fAdd (mVar 6) (mC (.int 1))) mNil))))
    mNext))))))
    (mRet (mCB fMaxL (mCons (mOp fAdd (mVar 2) (mLst (mCons (mC (.int 0)) mNil))) mNil)))))
noncomputable def m__law_most_kept : MFun := cutF (frzF (mDef 7 2 b__law_most_kept))
noncomputable def b__law_leads : MS :=
    (mSeq (mIte (mNot (mTest (mCall 2 (m__law_same 200) (mCons (mCall 2 m_changed (mCons (mCall 1 m__law_form (mCons (mVar 0) mNil)) (mCons (mVar 2) mNil))) (mCons (mCall 1 m__law_form (mCons (mVar 1) mNil)) mNil)))))
    (mRet (mC (.bl false)))
    mNext)
    (mRet (mCall 2 (m__law_same 200) (mCons (mCall 2 m_changed (mCons (mCall 1 m__law_form (mCons (mVar 1) mNil)) (mCons (mMeth 40 1 "contrary" m_Change_contrary (mVar 2) mNil) mNil))) (mCons (mCall 1 m__law_form (mCons (mVar 0) mNil)) mNil)))))
noncomputable def m__law_leads : MFun := cutF (frzF (mDef 3 3 b__law_leads))
noncomputable def b__law_pair_right : MS :=
    (mSeq (mAsg (mCall 1 m__law_form (mCons (mVar 0) mNil)) (.name 2))
    (mSeq (mAsg (mCall 1 m__law_form (mCons (mVar 1) mNil)) (.name 3))
    (mSeq (mAsg (mCall 2 m_change_between (mCons (mVar 2) (mCons (mVar 3) mNil))) (.name 4))
    (mSeq (mIte (mOr (mNot (mTest (mCall 2 (m__law_same 200) (mCons (mFld 40 "hunks" (mVar 4)) (mCons (mCall 3 m__law_narrow (mCons (mC (.int 0)) (mCons (mVar 0) (mCons (mVar 1) mNil)))) mNil))))) (mNot (mTest (mCall 3 m__law_leads (mCons (mVar 0) (mCons (mVar 1) (mCons (mVar 4) mNil)))))))
    (mRet (mC (.bl false)))
    mNext)
    (mSeq (mAsg (mCall 2 m_least_change (mCons (mVar 2) (mCons (mVar 3) mNil))) (.name 5))
    (mSeq (mAsg (mOp fSub (mOp fAdd (mCB fLen (mCons (mVar 0) mNil)) (mCB fLen (mCons (mVar 1) mNil))) (mOp fMul (mC (.int 2)) (mCall 2 m__law_most_kept (mCons (mVar 0) (mCons (mVar 1) mNil))))) (.name 6))
    (mSeq (mIte (mOr (mNot (mTest (mCall 2 (m__law_same 200) (mCons (mMeth 40 1 "touched" m_Change_touched (mVar 5) mNil) (mCons (mVar 6) mNil))))) (mNot (mTest (mCall 3 m__law_leads (mCons (mVar 0) (mCons (mVar 1) (mCons (mVar 5) mNil)))))))
    (mRet (mC (.bl false)))
    mNext)
    (mSeq (mIte (mOr (mNot (mTest (mCall 1 m__law_hunks_good (mCons (mFld 40 "hunks" (mVar 5)) mNil)))) (mAnd (mTest (mOp fEq (mVar 0) (mVar 1))) (mTest (mOp fNe (mFld 40 "hunks" (mVar 5)) (mTup mNil)))))
    (mRet (mC (.bl false)))
    mNext)
    (mRet (mCall 2 (m__law_same 200) (mCons (mLst (mCons (mVar 2) (mCons (mVar 3) mNil))) (mCons (mLst (mCons (mCall 1 m__law_form (mCons (mVar 0) mNil)) (mCons (mCall 1 m__law_form (mCons (mVar 1) mNil)) mNil))) mNil))))))))))))
noncomputable def m__law_pair_right : MFun := cutF (frzF (mDef 7 2 b__law_pair_right))
noncomputable def b__law_widened : MS :=
    (mSeq (mAsg (mCell mNil) (.name 3))
    (mSeq (mAsg (mC (.int 0)) (.name 4))
    (mSeq (mFor (mSeqI (mVar 2)) (.tup [(.name 5), (.name 6), (.name 7)])
    (mSeq (mAsg (mCall 2 m__law_draw (mCons (mVar 0) (mCons (mC (.int 2)) mNil))) (.name 8))
    (mSeq (mIte (mAnd (mTest (mOp fGt (mOp fSub (mVar 5) (mVar 4)) (mC (.int 1)))) (mTest (mOp fEq (mVar 8) (mC (.int 1)))))
    (mSeq (mAsg (mOp fSub (mVar 5) (mC (.int 1))) (.name 5))
    (mSeq (mAsg (mOp fAdd (mTup (mCons (mOp fIx (mVar 1) (mVar 5)) mNil)) (mVar 6)) (.name 6))
    (mAsg (mOp fAdd (mTup (mCons (mOp fIx (mVar 1) (mVar 5)) mNil)) (mVar 7)) (.name 7))))
    mNext)
    (mSeq (mDrop (mLM fApp (mVar 3) (mCons (mTup (mCons (mVar 5) (mCons (mVar 6) (mCons (mVar 7) mNil)))) mNil)))
    (mAsg (mOp fAdd (mVar 5) (mCB fLen (mCons (mVar 6) mNil))) (.name 4))))))
    (mRet (mCB fTuple (mCons (mVar 3) mNil))))))
noncomputable def m__law_widened : MFun := cutF (frzF (mDef 9 3 b__law_widened))
noncomputable def b_law : MS :=
    (mSeq (mAsg (mCall 1 m__law_draws (mCons (mVar 0) mNil)) (.name 1))
    (mSeq (mAsg (mCall 2 m__law_book (mCons (mVar 1) (mCons (mC (.int 3)) mNil))) (.name 2))
    (mSeq (mAsg (mCall 2 m__law_count (mCons (mVar 1) (mCons (mC (.int 4)) mNil))) (.name 3))
    (mSeq (mAsg (mCall 2 m__law_shape (mCons (mVar 1) (mCons (mVar 3) mNil))) (.name 4))
    (mSeq (mAsg (mCall 2 m__law_menus (mCons (mVar 2) (mCons (mCall 3 m__law_kinds (mCons (mVar 1) (mCons (mVar 2) (mCons (mVar 3) mNil)))) mNil))) (.name 5))
    (mSeq (mAsg (mCall 4 m__law_leafs (mCons (mVar 1) (mCons (mVar 4) (mCons (mVar 5) (mCons (mC (.int 8)) mNil))))) (.name 6))
    (mSeq (mAsg (mCall 5 m__law_edited (mCons (mVar 1) (mCons (mVar 4) (mCons (mVar 5) (mCons (mVar 6) (mCons (mC (.int 3)) mNil)))))) (.tup [(.name 7), (.name 8)]))
    (mSeq (mAsg (mCall 4 m__law_leafs (mCons (mVar 1) (mCons (mVar 4) (mCons (mVar 5) (mCons (mC (.int 8)) mNil))))) (.name 9))
    (mSeq (mIte (mOr (mNot (mTest (mCall 2 m__law_pair_right (mCons (mVar 6) (mCons (mVar 8) mNil))))) (mNot (mTest (mCall 2 m__law_pair_right (mCons (mVar 6) (mCons (mVar 9) mNil))))))
    (mRet (mC (.bl false)))
    mNext)
    (mSeq (mIte (mOr (mNot (mTest (mCall 2 m__law_pair_right (mCons (mVar 6) (mCons (mVar 6) mNil))))) (mOr (mNot (mTest (mCall 2 m__law_pair_right (mCons (mVar 6) (mCons (mLst mNil) mNil))))) (mNot (mTest (mCall 2 m__law_pair_right (mCons (mLst mNil) (mCons (mVar 9) mNil)))))))
    (mRet (mC (.bl false)))
    mNext)
    (mSeq (mAsg (mCall 3 m__law_widened (mCons (mVar 1) (mCons (mVar 6) (mCons (mVar 7) mNil)))) (.name 10))
    (mSeq (mAsg (mMake 40 2 m_Change__init_ [] (mCons (mVar 10) mNil)) (.name 11))
    (mSeq (mAsg (mTup mNil) (.name 12))
    (mSeq (mFor (mSeqI (mVar 10)) (.tup [(.name 13), (.name 14), (.name 15)])
    (mAsg (mOp fAdd (mVar 12) (mCall 3 m__law_narrow (mCons (mVar 13) (mCons (mVar 14) (mCons (mVar 15) mNil))))) (.name 12)))
    (mSeq (mAsg (mCall 1 m_narrowed (mCons (mVar 11) mNil)) (.name 16))
    (mSeq (mIte (mOr (mNot (mTest (mCall 2 (m__law_same 200) (mCons (mFld 40 "hunks" (mVar 16)) (mCons (mVar 12) mNil))))) (mNot (mTest (mCall 2 (m__law_same 200) (mCons (mFld 40 "hunks" (mCall 1 m_narrowed (mCons (mVar 16) mNil))) (mCons (mVar 12) mNil))))))
    (mRet (mC (.bl false)))
    mNext)
    (mSeq (mIte (mNot (mTest (mCall 2 (m__law_same 200) (mCons (mFld 40 "hunks" (mVar 11)) (mCons (mVar 10) mNil)))))
    (mRet (mC (.bl false)))
    mNext)
    (mRet (mAndV (mCall 3 m__law_leads (mCons (mVar 6) (mCons (mVar 8) (mCons (mVar 16) mNil)))) (mCall 3 m__law_leads (mCons (mVar 6) (mCons (mVar 8) (mCons (mVar 11) mNil)))))))))))))))))))))))
noncomputable def m_law : MFun := cutF (frzF (mDef 17 1 b_law))
end PM
end

section
set_option Elab.async false
set_option linter.all false
set_option maxRecDepth 100000
/-! The small semantics of the defs (printed by gen.py). -/
namespace PM
open PySem L2 Mini
noncomputable def b_Change_growth : MS :=
    (mRet (mCB fSum (mCons (mLc [1, 2, 3] (mSeqI (mFld 40 "hunks" (mVar 0))) (.tup [(.name 1), (.name 2), (.name 3)]) mYes (mOp fSub (mCB fLen (mCons (mVar 3) mNil)) (mCB fLen (mCons (mVar 2) mNil)))) mNil)))
noncomputable def m_Change_growth : MFun := cutF (frzF (mDef 4 1 b_Change_growth))
noncomputable def b__law_wild : MS :=
    (mSeq (mAsg (mCell mNil) (.name 2))
    (mSeq (mAsg (mCall 2 m__law_draw (mCons (mVar 0) (mCons (mC (.int 3)) mNil))) (.name 3))
    (mSeq (mAsg (mLcH [11] (mSeqI (mVar 1)) (.name 11) mYes (mVar 11)) (.name 4))
    (mSeq (mFor (mSeqI (mVar 1)) (.tup [(.name 5), (.name 6)])
    (mDrop (mLM fApp (mVar 4) (mCons (mTup (mCons (mOp fAdd (mOp fSub (mVar 5) (mC (.int 1))) (mCall 2 m__law_draw (mCons (mVar 0) (mCons (mC (.int 3)) mNil)))) (mCons (mVar 6) mNil))) mNil))))
    (mSeq (mDrop (mLM fApp (mVar 4) (mCons (mTup (mCons (mC (.int 0)) (mCons (mTup mNil) mNil))) mNil)))
    (mSeq (mFor (mRng1 (mCons (mCall 2 m__law_draw (mCons (mVar 0) (mCons (mC (.int 5)) mNil))) mNil)) (.name 7)
    (mSeq (mAsg (mCall 2 m__law_draw (mCons (mVar 0) (mCons (mC (.int 3)) mNil))) (.name 8))
    (mSeq (mAsg (mIf (mAnd (mTest (mOp fGe (mVar 3) (mC (.int 0)))) (mTest (mOp fGt (mCall 2 m__law_draw (mCons (mVar 0) (mCons (mC (.int 4)) mNil))) (mC (.int 0))))) (mCB fTuple (mCons (mSl (mVar 1) (mPart (mVar 3)) (mPart (mOp fAdd (mVar 3) (mVar 8)))) mNil)) (mTup (mCons (mCall 2 m__law_pick (mCons (mVar 0) (mCons (mVar 4) mNil))) mNil))) (.name 9))
    (mSeq (mAsg (mCB fTuple (mCons (mLc [12] (mRng1 (mCons (mCall 2 m__law_draw (mCons (mVar 0) (mCons (mC (.int 3)) mNil))) mNil)) (.name 12) mYes (mCall 2 m__law_pick (mCons (mVar 0) (mCons (mVar 4) mNil)))) mNil)) (.name 10))
    (mSeq (mDrop (mLM fApp (mVar 2) (mCons (mTup (mCons (mVar 3) (mCons (mVar 9) (mCons (mVar 10) mNil)))) mNil)))
    (mSeq (mAsg (mOp fAdd (mOp fAdd (mVar 3) (mCB fLen (mCons (mVar 9) mNil))) (mCall 2 m__law_pick (mCons (mVar 0) (mCons (mLst (mCons (mC (.int 1)) (mCons (mC (.int 2)) (mCons (mC (.int 1)) (mCons (mC (.int 0)) (mCons (mC (.int 1)) (mCons (mUn fNeg (mC (.int 1))) mNil))))))) mNil)))) (.name 3))
    (mIte (mTest (mOp fEq (mCall 2 m__law_draw (mCons (mVar 0) (mCons (mC (.int 12)) mNil))) (mC (.int 7))))
    (mAsg (mUn fNeg (mC (.int 1))) (.name 3))
    mNext)))))))
    (mRet (mVar 2))))))))
noncomputable def m__law_wild : MFun := cutF (frzF (mDef 13 2 b__law_wild))
noncomputable def b__law_handed : MS :=
    (mSeq (mAsg (mLcH [3, 4, 5] (mSeqI (mVar 0)) (.tup [(.name 3), (.name 4), (.name 5)]) mYes (mTup (mCons (mVar 3) (mCons (mCB fListH (mCons (mVar 4) mNil)) (mCons (mCB fListH (mCons (mVar 5) mNil)) mNil))))) (.name 1))
    (mSeq (mAsg (mMake 40 2 m_Change__init_ [] (mCons (mVar 1) mNil)) (.name 2))
    (mSeq (mFor (mSeqI (mVar 1)) (.tup [(.name 3), (.name 4), (.name 5)])
    (mSeq (mDrop (mLM fApp (mVar 4) (mCons (mTup (mCons (mC (.int 0)) (mCons (mTup mNil) mNil))) mNil)))
    (mDrop (mLM fApp (mVar 5) (mCons (mTup (mCons (mC (.int 0)) (mCons (mTup mNil) mNil))) mNil)))))
    (mSeq (mDrop (mLM fApp (mVar 1) (mCons (mTup (mCons (mC (.int 0)) (mCons (mTup mNil) (mCons (mTup mNil) mNil)))) mNil)))
    (mRet (mVar 2))))))
noncomputable def m__law_handed : MFun := cutF (frzF (mDef 6 1 b__law_handed))
noncomputable def b__law_spliced : MS :=
    (mSeq (mAsg (mCell mNil) (.name 2))
    (mSeq (mAsg (mC (.int 0)) (.name 3))
    (mSeq (mFor (mSeqI (mVar 1)) (.tup [(.name 4), (.name 5), (.name 6)])
    (mSeq (mIte (mOr (mTest (mOp fLt (mVar 4) (mVar 3))) (mOr (mTest (mOp fGt (mVar 4) (mCB fLen (mCons (mVar 0) mNil)))) (mTest (mOp fNe (mSl (mVar 0) (mPart (mVar 4)) (mPart (mOp fAdd (mVar 4) (mCB fLen (mCons (mVar 5) mNil))))) (mCB fList (mCons (mVar 5) mNil))))))
    (mRet (mC .non))
    mNext)
    (mSeq (mAsg (mOp fAdd (mOp fAdd (mVar 2) (mSl (mVar 0) (mPart (mVar 3)) (mPart (mVar 4)))) (mCB fList (mCons (mVar 6) mNil))) (.name 2))
    (mAsg (mOp fAdd (mVar 4) (mCB fLen (mCons (mVar 5) mNil))) (.name 3)))))
    (mRet (mOp fAdd (mVar 2) (mSl (mVar 0) (mPart (mVar 3)) mNoPart))))))
noncomputable def m__law_spliced : MFun := cutF (frzF (mDef 7 2 b__law_spliced))
noncomputable def b__law_splice : MS :=
    (mTryN subG
    (mRet (mTup (mCons (mC (.str "done")) (mCons (mCall 2 m_spliced (mCons (mVar 0) (mCons (mVar 1) mNil))) mNil))))
    [(39, some 2, fun c1 => (mRet (mTup (mCons (mC (.str "unfit")) (mCons (mAndV (mOB (isaG 39 0 c1)) (mNotV (mOB (isaG 39 1 c1)))) mNil)))))])
noncomputable def m__law_splice : MFun := cutF (frzF (mDef 3 2 b__law_splice))
noncomputable def b__law_outline_good : MS :=
    (mSeq (mAsg (mC .non) (.name 1))
    (mSeq (mFor (mSeqI (mVar 0)) (.tup [(.name 2), (.name 3)])
    (mSeq (mIte (mOr (mTest (mOp fEq (mCB fLen (mCons (mVar 3) mNil)) (mC (.int 0)))) (mTest (mOp fLt (mVar 2) (mC (.int 0)))))
    (mRet (mC (.bl false)))
    mNext)
    (mSeq (mIte (mAnd (mTest (mOp (fIs false) (mVar 1) (mC .non))) (mTest (mOp fGt (mVar 2) (mC (.int 0)))))
    (mRet (mC (.bl false)))
    mNext)
    (mSeq (mIte (mAnd (mTest (mOp (fIs true) (mVar 1) (mC .non))) (mTest (mOp fGt (mVar 2) (mOp fSub (mCB fMin2 (mCons (mCB fLen (mCons (mVar 1) mNil)) (mCons (mCB fLen (mCons (mVar 3) mNil)) mNil))) (mC (.int 1))))))
    (mRet (mC (.bl false)))
    mNext)
    (mSeq (mIte (mAnd (mTest (mOp (fIs true) (mVar 1) (mC .non))) (mTest (mOp fNe (mSl (mVar 3) mNoPart (mPart (mVar 2))) (mSl (mVar 1) mNoPart (mPart (mVar 2))))))
    (mRet (mC (.bl false)))
    mNext)
    (mAsg (mVar 3) (.name 1)))))))
    (mRet (mC (.bl true)))))
noncomputable def m__law_outline_good : MFun := cutF (frzF (mDef 4 1 b__law_outline_good))
noncomputable def b__law_contrary : MS :=
    (mSeq (mAsg (mCell mNil) (.name 1))
    (mSeq (mAsg (mC (.int 0)) (.name 2))
    (mSeq (mFor (mSeqI (mVar 0)) (.tup [(.name 3), (.name 4), (.name 5)])
    (mSeq (mDrop (mLM fApp (mVar 1) (mCons (mTup (mCons (mOp fAdd (mVar 3) (mVar 2)) (mCons (mVar 5) (mCons (mVar 4) mNil)))) mNil)))
    (mAsg (mOp fSub (mOp fAdd (mVar 2) (mCB fLen (mCons (mVar 5) mNil))) (mCB fLen (mCons (mVar 4) mNil))) (.name 2))))
    (mRet (mCB fTuple (mCons (mVar 1) mNil))))))
noncomputable def m__law_contrary : MFun := cutF (frzF (mDef 6 1 b__law_contrary))
noncomputable def b__law_counted : MS :=
    (mSeq (mAsg (mC (.int 0)) (.name 2))
    (mSeq (mAsg (mC (.int 0)) (.name 3))
    (mSeq (mFor (mSeqI (mVar 0)) (.tup [(.name 4), (.name 5), (.name 6)])
    (mSeq (mAsg (mOp fSub (mOp fAdd (mVar 2) (mCB fLen (mCons (mVar 6) mNil))) (mCB fLen (mCons (mVar 5) mNil))) (.name 2))
    (mAsg (mOp fAdd (mOp fAdd (mVar 3) (mCB fLen (mCons (mVar 6) mNil))) (mCB fLen (mCons (mVar 5) mNil))) (.name 3))))
    (mSeq (mIte (mNot (mTest (mCall 2 (m__law_same 200) (mCons (mLst (mCons (mMeth 40 1 "growth" m_Change_growth (mVar 1) mNil) (mCons (mMeth 40 1 "touched" m_Change_touched (mVar 1) mNil) mNil))) (mCons (mLst (mCons (mVar 2) (mCons (mVar 3) mNil))) mNil)))))
    (mRet (mC (.bl false)))
    mNext)
    (mRet (mCall 2 (m__law_same 200) (mCons (mFld 40 "hunks" (mMeth 40 1 "contrary" m_Change_contrary (mVar 1) mNil)) (mCons (mCall 1 m__law_contrary (mCons (mVar 0) mNil)) mNil))))))))
noncomputable def m__law_counted : MFun := cutF (frzF (mDef 7 2 b__law_counted))
noncomputable def b__law_do : MS :=
    (mTryN subG
    (mRet (mTup (mCons (mC (.str "done")) (mCons (mCall 2 m_changed (mCons (mVar 0) (mCons (mVar 1) mNil))) mNil))))
    [(39, some 2, fun c1 => (mRet (mTup (mCons (mC (.str "unfit")) (mCons (mAndV (mOB (isaG 39 0 c1)) (mNotV (mOB (isaG 39 1 c1)))) mNil))))), (1, some 2, fun c1 => (mRet (mTup (mCons (mC (.str "form")) (mCons (mAndV (mOB (isbG 1 c1)) (mNotV (mOB (isaG 1 39 c1)))) mNil)))))])
noncomputable def m__law_do : MFun := cutF (frzF (mDef 3 2 b__law_do))
noncomputable def b__law_refused : MS :=
    (mSeq (mTryN subG
    (mDrop (mMake 40 2 m_Change__init_ [] (mCons (mVar 0) mNil)))
    [(38, some 1, fun c1 => (mRet (mAndV (mOB (isaG 38 0 c1)) (mAndV (mOB (isbG 38 c1)) (mNotV (mOB (isaG 38 39 c1)))))))])
    (mRet (mC (.bl false))))
noncomputable def m__law_refused : MFun := cutF (frzF (mDef 2 1 b__law_refused))
noncomputable def b__law_right : MS :=
    (mSeq (mIte (mOr (mNot (mTest (mCall 2 (m__law_same 200) (mCons (mFld 40 "hunks" (mVar 2)) (mCons (mCB fTuple (mCons (mVar 1) mNil)) mNil))))) (mNot (mTest (mCall 2 m__law_counted (mCons (mVar 1) (mCons (mVar 2) mNil))))))
    (mRet (mC (.bl false)))
    mNext)
    (mSeq (mAsg (mCall 2 m__law_spliced (mCons (mVar 0) (mCons (mVar 1) mNil))) (.name 3))
    (mSeq (mAsg (mCall 1 m__law_form (mCons (mVar 0) mNil)) (.name 4))
    (mSeq (mAsg (mLc [7] (mSeqI (mVar 0)) (.name 7) mYes (mVar 7)) (.name 5))
    (mSeq (mAsg (mIf (mTest (mOp (fIs false) (mVar 3) (mC .non))) (mTup (mCons (mC (.str "unfit")) (mCons (mC (.bl true)) mNil))) (mTup (mCons (mC (.str "done")) (mCons (mVar 3) mNil)))) (.name 6))
    (mSeq (mIte (mOr (mNot (mTest (mCall 2 (m__law_same 200) (mCons (mCall 2 m__law_splice (mCons (mVar 5) (mCons (mVar 2) mNil))) (mCons (mVar 6) mNil))))) (mNot (mTest (mCall 2 (m__law_same 200) (mCons (mVar 5) (mCons (mVar 0) mNil))))))
    (mRet (mC (.bl false)))
    mNext)
    (mSeq (mIte (mTest (mOp (fIs true) (mVar 3) (mC .non)))
    (mAsg (mIf (mTest (mCall 1 m__law_outline_good (mCons (mVar 3) mNil))) (mTup (mCons (mC (.str "done")) (mCons (mCall 1 m__law_form (mCons (mVar 3) mNil)) mNil))) (mTup (mCons (mC (.str "form")) (mCons (mC (.bl true)) mNil)))) (.name 6))
    mNext)
    (mSeq (mIte (mOr (mNot (mTest (mCall 2 (m__law_same 200) (mCons (mCall 2 m__law_do (mCons (mVar 4) (mCons (mVar 2) mNil))) (mCons (mVar 6) mNil))))) (mNot (mTest (mCall 2 (m__law_same 200) (mCons (mVar 4) (mCons (mCall 1 m__law_form (mCons (mVar 0) mNil)) mNil))))))
    (mRet (mC (.bl false)))
    mNext)
    (mSeq (mIte (mTest (mOp (fIs false) (mVar 3) (mC .non)))
    (mRet (mC (.bl true)))
    mNext)
    (mRet (mCall 2 (m__law_same 200) (mCons (mCall 2 m__law_splice (mCons (mVar 3) (mCons (mMeth 40 1 "contrary" m_Change_contrary (mVar 2) mNil) mNil))) (mCons (mTup (mCons (mC (.str "done")) (mCons (mVar 0) mNil))) mNil)))))))))))))
noncomputable def m__law_right : MFun := cutF (frzF (mDef 8 3 b__law_right))
noncomputable def b_law_k62 : MS :=
    (mSeq (mAsg (mCall 1 m__law_draws (mCons (mVar 0) mNil)) (.name 1))
    (mSeq (mAsg (mCall 2 m__law_book (mCons (mVar 1) (mCons (mC (.int 3)) mNil))) (.name 2))
    (mSeq (mAsg (mCall 2 m__law_count (mCons (mVar 1) (mCons (mC (.int 4)) mNil))) (.name 3))
    (mSeq (mAsg (mCall 2 m__law_shape (mCons (mVar 1) (mCons (mVar 3) mNil))) (.name 4))
    (mSeq (mAsg (mCall 2 m__law_menus (mCons (mVar 2) (mCons (mCall 3 m__law_kinds (mCons (mVar 1) (mCons (mVar 2) (mCons (mVar 3) mNil)))) mNil))) (.name 5))
    (mSeq (mAsg (mCall 4 m__law_leafs (mCons (mVar 1) (mCons (mVar 4) (mCons (mVar 5) (mCons (mC (.int 8)) mNil))))) (.name 6))
    (mSeq (mAsg (mCall 5 m__law_edited (mCons (mVar 1) (mCons (mVar 4) (mCons (mVar 5) (mCons (mVar 6) (mCons (mC (.int 4)) mNil)))))) (.tup [(.name 7), (.name 8)]))
    (mSeq (mAsg (mCall 2 m__law_wild (mCons (mVar 1) (mCons (mVar 6) mNil))) (.name 9))
    (mSeq (mAsg (mCall 1 m__law_handed (mCons (mVar 7) mNil)) (.name 10))
    (mSeq (mIte (mOr (mNot (mTest (mCall 3 m__law_right (mCons (mVar 6) (mCons (mVar 7) (mCons (mVar 10) mNil)))))) (mNot (mTest (mCall 2 (m__law_same 200) (mCons (mCall 2 m_changed (mCons (mCall 1 m__law_form (mCons (mVar 6) mNil)) (mCons (mVar 10) mNil))) (mCons (mCall 1 m__law_form (mCons (mVar 8) mNil)) mNil))))))
    (mRet (mC (.bl false)))
    mNext)
    (mSeq (mIte (mOr (mNot (mTest (mCall 2 (m__law_same 200) (mCons (mFld 40 "hunks" (mMake 40 2 m_Change__init_ [.tup []] mNil)) (mCons (mTup mNil) mNil))))) (mNot (mTest (mCall 2 (m__law_same 200) (mCons (mCall 2 m_changed (mCons (mCall 1 m__law_form (mCons (mVar 8) mNil)) (mCons (mMake 40 2 m_Change__init_ [.tup []] mNil) mNil))) (mCons (mCall 1 m__law_form (mCons (mVar 8) mNil)) mNil))))))
    (mRet (mC (.bl false)))
    mNext)
    (mSeq (mIte (mOr (mNot (mTest (mCall 1 m__law_refused (mCons (mLst (mCons (mTup (mCons (mUn fNeg (mC (.int 1))) (mCons (mTup mNil) (mCons (mTup (mCons (mTup (mCons (mC (.int 0)) (mCons (mTup (mCons (mTup (mCons (mTup (mCons (mC (.str "a")) (mCons (mC (.int 0)) mNil))) mNil)) mNil)) mNil))) mNil)) mNil)))) mNil)) mNil)))) (mNot (mTest (mCall 1 m__law_refused (mCons (mLst (mCons (mTup (mCons (mC (.int 0)) (mCons (mTup mNil) (mCons (mTup mNil) mNil)))) mNil)) mNil)))))
    (mRet (mC (.bl false)))
    mNext)
    (mSeq (mIte (mTest (mOp fGt (mCB fLen (mCons (mVar 7) mNil)) (mC (.int 0))))
    (mSeq (mAsg (mOp fIx (mVar 7) (mC (.int 0))) (.tup [(.name 11), (.name 12), (.name 13)]))
    (mSeq (mAsg (mOp fAdd (mVar 11) (mCB fLen (mCons (mVar 12) mNil))) (.name 14))
    (mSeq (mIte (mNot (mTest (mCall 1 m__law_refused (mCons (mLst (mCons (mOp fIx (mVar 7) (mC (.int 0))) (mCons (mTup (mCons (mVar 14) (mCons (mVar 13) (mCons (mVar 12) mNil)))) mNil))) mNil))))
    (mRet (mC (.bl false)))
    mNext)
    (mSeq (mAsg (mTup (mCons (mOp fIx (mVar 7) (mC (.int 0))) (mCons (mTup (mCons (mOp fAdd (mVar 14) (mC (.int 1))) (mCons (mVar 13) (mCons (mVar 12) mNil)))) mNil))) (.name 15))
    (mIte (mNot (mTest (mCall 3 m__law_right (mCons (mVar 6) (mCons (mVar 15) (mCons (mMake 40 2 m_Change__init_ [] (mCons (mVar 15) mNil)) mNil))))))
    (mRet (mC (.bl false)))
    mNext)))))
    mNext)
    (mSeq (mIte (mNot (mTest (mCall 1 m__law_hunks_good (mCons (mVar 9) mNil))))
    (mRet (mCall 1 m__law_refused (mCons (mVar 9) mNil)))
    mNext)
    (mRet (mCall 3 m__law_right (mCons (mVar 6) (mCons (mVar 9) (mCons (mMake 40 2 m_Change__init_ [] (mCons (mVar 9) mNil)) mNil)))))))))))))))))))
noncomputable def m_law_k62 : MFun := cutF (frzF (mDef 16 1 b_law_k62))
end PM
end

section
set_option Elab.async false
set_option linter.all false
set_option maxRecDepth 100000
/-! The small semantics evaluated: rules for simp (no binder stands in a rule), rules for loops, values that are data. -/
namespace PM
open PySem L2 Mini
section
variable {α β : Type} {ρ ρ' : En} {h h' : MH} {a b : MS} {v : MV} {c i : Nat}
theorem hard_ok {x : α} : (Out.ok x h).hard = .ok x h := rfl
theorem hard_bad : (Out.bad : Out α).hard = .bad := rfl
def sq (o : SO) (b : MS) : SO := match o with
  | .nx ρ h => b ρ h
  | o => o
theorem sq_nx : sq (.nx ρ h) b = b ρ h := rfl
theorem sq_rt : sq (.rt v h) b = .rt v h := rfl
theorem sq_er : sq (.er c ρ h) b = .er c ρ h := rfl
theorem sq_bk : sq (.bk ρ h) b = .bk ρ h := rfl
theorem sq_ct : sq (.ct ρ h) b = .ct ρ h := rfl
theorem mSeq_e : mSeq a b ρ h = sq (a ρ h) b := by unfold mSeq sq; cases a ρ h <;> rfl
theorem mNext_e : mNext ρ h = .nx ρ h := rfl
theorem mBreak_e : mBreak ρ h = .bk ρ h := rfl
theorem mCont_e : mCont ρ h = .ct ρ h := rfl
theorem mRetN_e : mRetN ρ h = .rt .non h := rfl
theorem mRaise_e : mRaise c ρ h = .er c ρ h := rfl
theorem mC_e : mC v ρ h = .ok v h := rfl
theorem mYes_e : mYes ρ h = .ok true h := rfl
theorem mNil_e : mNil ρ h = .ok [] h := rfl
theorem mNoPart_e : mNoPart ρ h = .ok none h := rfl
def vr (x : Option (Option MV)) (h : MH) : Out MV := match x with
  | some (some v) => .ok v h
  | _ => .bad
theorem vr_e : vr (some (some v)) h = .ok v h := rfl
theorem mVar_e : mVar i ρ h = vr ρ[i]? h := rfl
def asgT (o : Option En) (h : MH) : SO := match o with
  | some ρ' => .nx ρ' h
  | none => .bad
theorem asgT_e : asgT (some ρ) h = .nx ρ h := rfl
theorem tset_n : (Tg.name i).set v ρ = some (ρ.set i (some v)) := by simp only [Tg.set]
theorem tset_t {ts : List Tg} {xs : List MV} : (Tg.tup ts).set (.tup xs) ρ = Tg.sets ts xs ρ := by simp only [Tg.set]
theorem tsets_n : Tg.sets [] [] ρ = some ρ := by simp only [Tg.sets]
theorem tsets_c {ts : List Tg} {x : MV} {xs : List MV} : Tg.sets (.name i :: ts) (x :: xs) ρ = Tg.sets ts xs (ρ.set i (some x)) := by simp only [Tg.sets, tset_n, Option.bind_some]
def tsetsB (o : Option En) (ts : List Tg) (xs : List MV) : Option En := o.bind fun ρ1 => Tg.sets ts xs ρ1
theorem tsetsB_e {ts : List Tg} {xs : List MV} : tsetsB (some ρ) ts xs = Tg.sets ts xs ρ := rfl
theorem tsets_t {us ts : List Tg} {ys xs : List MV} : Tg.sets (.tup us :: ts) (.tup ys :: xs) ρ = tsetsB (Tg.sets us ys ρ) ts xs := by simp only [Tg.sets, tset_t]; rfl
def dropS (o : Out (MV)) (ρ : En) : SO := o.then ρ fun _ h1 => .nx ρ h1
theorem dropS_e {x : MV}  : dropS (.ok x h) ρ = .nx ρ h := rfl
theorem dropS_x  : dropS (.er c h) ρ = .er c ρ h := rfl
theorem mDrop_e {e : ME} : mDrop e ρ h = dropS (e ρ h) ρ := rfl
def retS (o : Out (MV)) (ρ : En) : SO := o.then ρ fun v h1 => .rt v h1
theorem retS_e {x : MV}  : retS (.ok x h) ρ = .rt x h := rfl
theorem retS_x  : retS (.er c h) ρ = .er c ρ h := rfl
theorem mRet_e {e : ME} : mRet e ρ h = retS (e ρ h) ρ := rfl
def asgS (o : Out (MV)) (i : Nat) (ρ : En) : SO := o.then ρ fun v h1 => .nx (ρ.set i (some v)) h1
theorem asgS_e {x : MV}  : asgS (.ok x h) i ρ = .nx (ρ.set i (some x)) h := rfl
theorem asgS_x  : asgS (.er c h) i ρ = .er c ρ h := rfl
theorem mAsg_n {e : ME} : mAsg e (.name i) ρ h = asgS (e ρ h) i ρ := rfl
def asgU (o : Out (MV)) (ts : List Tg) (ρ : En) : SO := o.then ρ fun v h1 => asgT ((Tg.tup ts).set v ρ) h1
theorem asgU_e {x : MV} {ts : List Tg} : asgU (.ok x h) ts ρ = asgT ((Tg.tup ts).set x ρ) h := rfl
theorem asgU_x {ts : List Tg} : asgU (.er c h) ts ρ = .er c ρ h := rfl
theorem mAsg_t {e : ME} {ts : List Tg} : mAsg e (.tup ts) ρ h = asgU (e ρ h) ts ρ := rfl
def iteS (o : Out (Bool)) (a : MS) (b : MS) (ρ : En) : SO := o.then ρ fun c h1 => if c = true then a ρ h1 else b ρ h1
theorem iteS_e {x : Bool}  : iteS (.ok x h) a b ρ = if x = true then a ρ h else b ρ h := rfl
theorem iteS_x  : iteS (.er c h) a b ρ = .er c ρ h := rfl
theorem iteS_t : iteS (.ok true h) a b ρ = a ρ h := rfl
theorem iteS_f : iteS (.ok false h) a b ρ = b ρ h := rfl
theorem mIte_e {t : MT} : mIte t a b ρ h = iteS (t ρ h) a b ρ := rfl
def ifO (o : Out (Bool)) (p : ME) (q : ME) (ρ : En) : Out MV := o.bind fun c h1 => if c = true then p ρ h1 else q ρ h1
theorem ifO_e {x : Bool} {p : ME} {q : ME} : ifO (.ok x h) p q ρ = if x = true then p ρ h else q ρ h := rfl
theorem ifO_x {p : ME} {q : ME} : ifO (.er c h) p q ρ = .er c h := rfl
theorem ifO_t {p q : ME} : ifO (.ok true h) p q ρ = p ρ h := rfl
theorem ifO_f {p q : ME} : ifO (.ok false h) p q ρ = q ρ h := rfl
theorem mIf_e {t : MT} {p q : ME} : mIf t p q ρ h = ifO (t ρ h) p q ρ := rfl
def andO (o : Out (Bool)) (u : MT) (ρ : En) : Out Bool := o.bind fun c h1 => if c = true then u ρ h1 else .ok false h1
theorem andO_e {x : Bool} {u : MT} : andO (.ok x h) u ρ = if x = true then u ρ h else .ok false h := rfl
theorem andO_x {u : MT} : andO (.er c h) u ρ = .er c h := rfl
theorem andO_t {u : MT} : andO (.ok true h) u ρ = u ρ h := rfl
theorem andO_f {u : MT} : andO (.ok false h) u ρ = .ok false h := rfl
theorem mAnd_e {t u : MT} : mAnd t u ρ h = andO (t ρ h) u ρ := rfl
def orO (o : Out (Bool)) (u : MT) (ρ : En) : Out Bool := o.bind fun c h1 => if c = true then .ok true h1 else u ρ h1
theorem orO_e {x : Bool} {u : MT} : orO (.ok x h) u ρ = if x = true then .ok true h else u ρ h := rfl
theorem orO_x {u : MT} : orO (.er c h) u ρ = .er c h := rfl
theorem orO_t {u : MT} : orO (.ok true h) u ρ = .ok true h := rfl
theorem orO_f {u : MT} : orO (.ok false h) u ρ = u ρ h := rfl
theorem mOr_e {t u : MT} : mOr t u ρ h = orO (t ρ h) u ρ := rfl
def notO (o : Out (Bool))  : Out Bool := o.bind fun c h1 => .ok (!c) h1
theorem notO_e {x : Bool}  : notO (.ok x h)  = .ok (!x) h := rfl
theorem notO_x  : notO (.er c h)  = .er c h := rfl
theorem mNot_e {t : MT} : mNot t ρ h = notO (t ρ h) := rfl
def tstO (o : Out (MV))  : Out Bool := o.bind fun x h1 => match x with | .bl b => .ok b h1 | _ => .bad
theorem tstO_e {x : MV}  : tstO (.ok x h)  = (match x with | .bl b => .ok b h | _ => .bad) := rfl
theorem tstO_x  : tstO (.er c h)  = .er c h := rfl
theorem tstO_b {k : Bool} : tstO (.ok (.bl k) h) = .ok k h := rfl
theorem mTest_e {m : ME} : mTest m ρ h = tstO (m ρ h) := rfl
def andV (o : Out (MV)) (y : ME) (ρ : En) : Out MV := o.bind fun x h1 => match x with | .bl c => if c = true then y ρ h1 else .ok (.bl false) h1 | _ => .bad
theorem andV_e {x : MV} {y : ME} : andV (.ok x h) y ρ = (match x with | .bl c => if c = true then y ρ h else .ok (.bl false) h | _ => .bad) := rfl
theorem andV_x {y : ME} : andV (.er c h) y ρ = .er c h := rfl
theorem andV_t {y : ME} : andV (.ok (.bl true) h) y ρ = y ρ h := rfl
theorem andV_f {y : ME} : andV (.ok (.bl false) h) y ρ = .ok (.bl false) h := rfl
theorem mAndV_e {x y : ME} : mAndV x y ρ h = andV (x ρ h) y ρ := rfl
def orV (o : Out (MV)) (y : ME) (ρ : En) : Out MV := o.bind fun x h1 => match x with | .bl c => if c = true then .ok (.bl true) h1 else y ρ h1 | _ => .bad
theorem orV_e {x : MV} {y : ME} : orV (.ok x h) y ρ = (match x with | .bl c => if c = true then .ok (.bl true) h else y ρ h | _ => .bad) := rfl
theorem orV_x {y : ME} : orV (.er c h) y ρ = .er c h := rfl
theorem orV_t {y : ME} : orV (.ok (.bl true) h) y ρ = .ok (.bl true) h := rfl
theorem orV_f {y : ME} : orV (.ok (.bl false) h) y ρ = y ρ h := rfl
theorem mOrV_e {x y : ME} : mOrV x y ρ h = orV (x ρ h) y ρ := rfl
def notV (o : Out (MV))  : Out MV := o.bind fun x h1 => match x with | .bl c => .ok (.bl (!c)) h1 | _ => .bad
theorem notV_e {x : MV}  : notV (.ok x h)  = (match x with | .bl c => .ok (.bl (!c)) h | _ => .bad) := rfl
theorem notV_x  : notV (.er c h)  = .er c h := rfl
theorem notV_b {k : Bool} : notV (.ok (.bl k) h) = .ok (.bl (!k)) h := rfl
theorem mNotV_e {x : ME} : mNotV x ρ h = notV (x ρ h) := rfl
def ch3 (o : Out (MV)) (g : MV → MV → MH → Out MV) (y : MV) (z : ME) (ρ : En) : Out MV := o.bind fun b h3 => match b with | .bl k => if k = true then (z ρ h3).bind fun w h4 => (g y w h4).hard else .ok (.bl false) h3 | _ => .bad
theorem ch3_e {x : MV} {g : MV → MV → MH → Out MV} {y : MV} {z : ME} : ch3 (.ok x h) g y z ρ = (match x with | .bl k => if k = true then (z ρ h).bind fun w h4 => (g y w h4).hard else .ok (.bl false) h | _ => .bad) := rfl
theorem ch3_x {g : MV → MV → MH → Out MV} {y : MV} {z : ME} : ch3 (.er c h) g y z ρ = .er c h := rfl
def op2K (o : Out (MV)) (f : MV → MV → MH → Out MV) (y : MV) : Out MV := o.bind fun w h4 => (f y w h4).hard
theorem op2K_e {x : MV} {f : MV → MV → MH → Out MV} {y : MV} : op2K (.ok x h) f y = (f y x h).hard := rfl
theorem op2K_x {f : MV → MV → MH → Out MV} {y : MV} : op2K (.er c h) f y = .er c h := rfl
theorem ch3_t {g : MV → MV → MH → Out MV} {y : MV} {z : ME} : ch3 (.ok (.bl true) h) g y z ρ = op2K (z ρ h) g y := rfl
theorem ch3_f {g : MV → MV → MH → Out MV} {y : MV} {z : ME} : ch3 (.ok (.bl false) h) g y z ρ = .ok (.bl false) h := rfl
def ch2 (o : Out (MV)) (f : MV → MV → MH → Out MV) (g : MV → MV → MH → Out MV) (w : MV) (z : ME) (ρ : En) : Out MV := o.bind fun y h2 => ch3 ((f w y h2).hard) g y z ρ
theorem ch2_e {x : MV} {f : MV → MV → MH → Out MV} {g : MV → MV → MH → Out MV} {w : MV} {z : ME} : ch2 (.ok x h) f g w z ρ = ch3 ((f w x h).hard) g x z ρ := rfl
theorem ch2_x {f : MV → MV → MH → Out MV} {g : MV → MV → MH → Out MV} {w : MV} {z : ME} : ch2 (.er c h) f g w z ρ = .er c h := rfl
def ch1 (o : Out (MV)) (f : MV → MV → MH → Out MV) (g : MV → MV → MH → Out MV) (y : ME) (z : ME) (ρ : En) : Out MV := o.bind fun x h1 => ch2 (y ρ h1) f g x z ρ
theorem ch1_e {x : MV} {f : MV → MV → MH → Out MV} {g : MV → MV → MH → Out MV} {y : ME} {z : ME} : ch1 (.ok x h) f g y z ρ = ch2 (y ρ h) f g x z ρ := rfl
theorem ch1_x {f : MV → MV → MH → Out MV} {g : MV → MV → MH → Out MV} {y : ME} {z : ME} : ch1 (.er c h) f g y z ρ = .er c h := rfl
theorem mChain_e {f g : MV → MV → MH → Out MV} {x y z : ME} : mChain f g x y z ρ h = ch1 (x ρ h) f g y z ρ := rfl
def cons2 (o : Out (List MV)) (y : MV) : Out (List MV) := o.bind fun xs h2 => .ok (y :: xs) h2
theorem cons2_e {x : List MV} {y : MV} : cons2 (.ok x h) y = .ok (y :: x) h := rfl
theorem cons2_x {y : MV} : cons2 (.er c h) y = .er c h := rfl
def cons1 (o : Out (MV)) (r : MA) (ρ : En) : Out (List MV) := o.bind fun x h1 => cons2 (r ρ h1) x
theorem cons1_e {x : MV} {r : MA} : cons1 (.ok x h) r ρ = cons2 (r ρ h) x := rfl
theorem cons1_x {r : MA} : cons1 (.er c h) r ρ = .er c h := rfl
theorem mCons_e {x : ME} {r : MA} : mCons x r ρ h = cons1 (x ρ h) r ρ := rfl
def op1K (o : Out (MV)) (f : MV → MV → MH → Out MV) (y : ME) (ρ : En) : Out MV := o.bind fun x h1 => op2K (y ρ h1) f x
theorem op1K_e {x : MV} {f : MV → MV → MH → Out MV} {y : ME} : op1K (.ok x h) f y ρ = op2K (y ρ h) f x := rfl
theorem op1K_x {f : MV → MV → MH → Out MV} {y : ME} : op1K (.er c h) f y ρ = .er c h := rfl
theorem mOp_e {f : MV → MV → MH → Out MV} {x y : ME} : mOp f x y ρ h = op1K (x ρ h) f y ρ := rfl
def unK (o : Out (MV)) (f : MV → MH → Out MV) : Out MV := o.bind fun x h1 => (f x h1).hard
theorem unK_e {x : MV} {f : MV → MH → Out MV} : unK (.ok x h) f = (f x h).hard := rfl
theorem unK_x {f : MV → MH → Out MV} : unK (.er c h) f = .er c h := rfl
theorem mUn_e {f : MV → MH → Out MV} {x : ME} : mUn f x ρ h = unK (x ρ h) f := rfl
def tupK (o : Out (List MV))  : Out MV := o.bind fun xs h1 => if xs.length ≤ sizeLine then .ok (.tup xs) h1 else .bad
theorem tupK_e {x : List MV}  : tupK (.ok x h)  = (if x.length ≤ sizeLine then .ok (.tup x) h else .bad) := rfl
theorem tupK_x  : tupK (.er c h)  = .er c h := rfl
theorem mTup_e {m : MA} : mTup m ρ h = tupK (m ρ h) := rfl
def lstK (o : Out (List MV))  : Out MV := o.bind fun xs h1 => if xs.length ≤ sizeLine then .ok (.lst xs) h1 else .bad
theorem lstK_e {x : List MV}  : lstK (.ok x h)  = (if x.length ≤ sizeLine then .ok (.lst x) h else .bad) := rfl
theorem lstK_x  : lstK (.er c h)  = .er c h := rfl
theorem mLst_e {m : MA} : mLst m ρ h = lstK (m ρ h) := rfl
def cellK (o : Out (List MV))  : Out MV := o.bind fun xs h1 => if xs.length ≤ sizeLine then .ok (.ref h1.length) (h1 ++ [.lst xs]) else .bad
theorem cellK_e {x : List MV}  : cellK (.ok x h)  = (if x.length ≤ sizeLine then .ok (.ref h.length) (h ++ [.lst x]) else .bad) := rfl
theorem cellK_x  : cellK (.er c h)  = .er c h := rfl
theorem mCell_e {m : MA} : mCell m ρ h = cellK (m ρ h) := rfl
theorem tupK_0 : tupK (.ok [] h) = .ok (.tup []) h := (if_pos (show ([] : List MV).length ≤ sizeLine by simp only [List.length_cons, List.length_nil]; decide) : (if _ then _ else Out.bad) = _)
theorem lstK_0 : lstK (.ok [] h) = .ok (.lst []) h := (if_pos (show ([] : List MV).length ≤ sizeLine by simp only [List.length_cons, List.length_nil]; decide) : (if _ then _ else Out.bad) = _)
theorem cellK_0 : cellK (.ok [] h) = .ok (.ref h.length) (h ++ [.lst []]) := (if_pos (show ([] : List MV).length ≤ sizeLine by simp only [List.length_cons, List.length_nil]; decide) : (if _ then _ else Out.bad) = _)
theorem tupK_1 {x0 : MV} : tupK (.ok [x0] h) = .ok (.tup [x0]) h := (if_pos (show ([x0] : List MV).length ≤ sizeLine by simp only [List.length_cons, List.length_nil]; decide) : (if _ then _ else Out.bad) = _)
theorem lstK_1 {x0 : MV} : lstK (.ok [x0] h) = .ok (.lst [x0]) h := (if_pos (show ([x0] : List MV).length ≤ sizeLine by simp only [List.length_cons, List.length_nil]; decide) : (if _ then _ else Out.bad) = _)
theorem cellK_1 {x0 : MV} : cellK (.ok [x0] h) = .ok (.ref h.length) (h ++ [.lst [x0]]) := (if_pos (show ([x0] : List MV).length ≤ sizeLine by simp only [List.length_cons, List.length_nil]; decide) : (if _ then _ else Out.bad) = _)
theorem tupK_2 {x0 x1 : MV} : tupK (.ok [x0, x1] h) = .ok (.tup [x0, x1]) h := (if_pos (show ([x0, x1] : List MV).length ≤ sizeLine by simp only [List.length_cons, List.length_nil]; decide) : (if _ then _ else Out.bad) = _)
theorem lstK_2 {x0 x1 : MV} : lstK (.ok [x0, x1] h) = .ok (.lst [x0, x1]) h := (if_pos (show ([x0, x1] : List MV).length ≤ sizeLine by simp only [List.length_cons, List.length_nil]; decide) : (if _ then _ else Out.bad) = _)
theorem cellK_2 {x0 x1 : MV} : cellK (.ok [x0, x1] h) = .ok (.ref h.length) (h ++ [.lst [x0, x1]]) := (if_pos (show ([x0, x1] : List MV).length ≤ sizeLine by simp only [List.length_cons, List.length_nil]; decide) : (if _ then _ else Out.bad) = _)
theorem tupK_3 {x0 x1 x2 : MV} : tupK (.ok [x0, x1, x2] h) = .ok (.tup [x0, x1, x2]) h := (if_pos (show ([x0, x1, x2] : List MV).length ≤ sizeLine by simp only [List.length_cons, List.length_nil]; decide) : (if _ then _ else Out.bad) = _)
theorem lstK_3 {x0 x1 x2 : MV} : lstK (.ok [x0, x1, x2] h) = .ok (.lst [x0, x1, x2]) h := (if_pos (show ([x0, x1, x2] : List MV).length ≤ sizeLine by simp only [List.length_cons, List.length_nil]; decide) : (if _ then _ else Out.bad) = _)
theorem cellK_3 {x0 x1 x2 : MV} : cellK (.ok [x0, x1, x2] h) = .ok (.ref h.length) (h ++ [.lst [x0, x1, x2]]) := (if_pos (show ([x0, x1, x2] : List MV).length ≤ sizeLine by simp only [List.length_cons, List.length_nil]; decide) : (if _ then _ else Out.bad) = _)
theorem tupK_4 {x0 x1 x2 x3 : MV} : tupK (.ok [x0, x1, x2, x3] h) = .ok (.tup [x0, x1, x2, x3]) h := (if_pos (show ([x0, x1, x2, x3] : List MV).length ≤ sizeLine by simp only [List.length_cons, List.length_nil]; decide) : (if _ then _ else Out.bad) = _)
theorem lstK_4 {x0 x1 x2 x3 : MV} : lstK (.ok [x0, x1, x2, x3] h) = .ok (.lst [x0, x1, x2, x3]) h := (if_pos (show ([x0, x1, x2, x3] : List MV).length ≤ sizeLine by simp only [List.length_cons, List.length_nil]; decide) : (if _ then _ else Out.bad) = _)
theorem cellK_4 {x0 x1 x2 x3 : MV} : cellK (.ok [x0, x1, x2, x3] h) = .ok (.ref h.length) (h ++ [.lst [x0, x1, x2, x3]]) := (if_pos (show ([x0, x1, x2, x3] : List MV).length ≤ sizeLine by simp only [List.length_cons, List.length_nil]; decide) : (if _ then _ else Out.bad) = _)
theorem tupK_5 {x0 x1 x2 x3 x4 : MV} : tupK (.ok [x0, x1, x2, x3, x4] h) = .ok (.tup [x0, x1, x2, x3, x4]) h := (if_pos (show ([x0, x1, x2, x3, x4] : List MV).length ≤ sizeLine by simp only [List.length_cons, List.length_nil]; decide) : (if _ then _ else Out.bad) = _)
theorem lstK_5 {x0 x1 x2 x3 x4 : MV} : lstK (.ok [x0, x1, x2, x3, x4] h) = .ok (.lst [x0, x1, x2, x3, x4]) h := (if_pos (show ([x0, x1, x2, x3, x4] : List MV).length ≤ sizeLine by simp only [List.length_cons, List.length_nil]; decide) : (if _ then _ else Out.bad) = _)
theorem cellK_5 {x0 x1 x2 x3 x4 : MV} : cellK (.ok [x0, x1, x2, x3, x4] h) = .ok (.ref h.length) (h ++ [.lst [x0, x1, x2, x3, x4]]) := (if_pos (show ([x0, x1, x2, x3, x4] : List MV).length ≤ sizeLine by simp only [List.length_cons, List.length_nil]; decide) : (if _ then _ else Out.bad) = _)
theorem tupK_6 {x0 x1 x2 x3 x4 x5 : MV} : tupK (.ok [x0, x1, x2, x3, x4, x5] h) = .ok (.tup [x0, x1, x2, x3, x4, x5]) h := (if_pos (show ([x0, x1, x2, x3, x4, x5] : List MV).length ≤ sizeLine by simp only [List.length_cons, List.length_nil]; decide) : (if _ then _ else Out.bad) = _)
theorem lstK_6 {x0 x1 x2 x3 x4 x5 : MV} : lstK (.ok [x0, x1, x2, x3, x4, x5] h) = .ok (.lst [x0, x1, x2, x3, x4, x5]) h := (if_pos (show ([x0, x1, x2, x3, x4, x5] : List MV).length ≤ sizeLine by simp only [List.length_cons, List.length_nil]; decide) : (if _ then _ else Out.bad) = _)
theorem cellK_6 {x0 x1 x2 x3 x4 x5 : MV} : cellK (.ok [x0, x1, x2, x3, x4, x5] h) = .ok (.ref h.length) (h ++ [.lst [x0, x1, x2, x3, x4, x5]]) := (if_pos (show ([x0, x1, x2, x3, x4, x5] : List MV).length ≤ sizeLine by simp only [List.length_cons, List.length_nil]; decide) : (if _ then _ else Out.bad) = _)
theorem tupK_7 {x0 x1 x2 x3 x4 x5 x6 : MV} : tupK (.ok [x0, x1, x2, x3, x4, x5, x6] h) = .ok (.tup [x0, x1, x2, x3, x4, x5, x6]) h := (if_pos (show ([x0, x1, x2, x3, x4, x5, x6] : List MV).length ≤ sizeLine by simp only [List.length_cons, List.length_nil]; decide) : (if _ then _ else Out.bad) = _)
theorem lstK_7 {x0 x1 x2 x3 x4 x5 x6 : MV} : lstK (.ok [x0, x1, x2, x3, x4, x5, x6] h) = .ok (.lst [x0, x1, x2, x3, x4, x5, x6]) h := (if_pos (show ([x0, x1, x2, x3, x4, x5, x6] : List MV).length ≤ sizeLine by simp only [List.length_cons, List.length_nil]; decide) : (if _ then _ else Out.bad) = _)
theorem cellK_7 {x0 x1 x2 x3 x4 x5 x6 : MV} : cellK (.ok [x0, x1, x2, x3, x4, x5, x6] h) = .ok (.ref h.length) (h ++ [.lst [x0, x1, x2, x3, x4, x5, x6]]) := (if_pos (show ([x0, x1, x2, x3, x4, x5, x6] : List MV).length ≤ sizeLine by simp only [List.length_cons, List.length_nil]; decide) : (if _ then _ else Out.bad) = _)
theorem tupK_8 {x0 x1 x2 x3 x4 x5 x6 x7 : MV} : tupK (.ok [x0, x1, x2, x3, x4, x5, x6, x7] h) = .ok (.tup [x0, x1, x2, x3, x4, x5, x6, x7]) h := (if_pos (show ([x0, x1, x2, x3, x4, x5, x6, x7] : List MV).length ≤ sizeLine by simp only [List.length_cons, List.length_nil]; decide) : (if _ then _ else Out.bad) = _)
theorem lstK_8 {x0 x1 x2 x3 x4 x5 x6 x7 : MV} : lstK (.ok [x0, x1, x2, x3, x4, x5, x6, x7] h) = .ok (.lst [x0, x1, x2, x3, x4, x5, x6, x7]) h := (if_pos (show ([x0, x1, x2, x3, x4, x5, x6, x7] : List MV).length ≤ sizeLine by simp only [List.length_cons, List.length_nil]; decide) : (if _ then _ else Out.bad) = _)
theorem cellK_8 {x0 x1 x2 x3 x4 x5 x6 x7 : MV} : cellK (.ok [x0, x1, x2, x3, x4, x5, x6, x7] h) = .ok (.ref h.length) (h ++ [.lst [x0, x1, x2, x3, x4, x5, x6, x7]]) := (if_pos (show ([x0, x1, x2, x3, x4, x5, x6, x7] : List MV).length ≤ sizeLine by simp only [List.length_cons, List.length_nil]; decide) : (if _ then _ else Out.bad) = _)
def cbK (o : Out (List MV)) (f : List MV → MH → Out MV) : Out MV := o.bind fun xs h1 => (f xs h1).hard
theorem cbK_e {x : List MV} {f : List MV → MH → Out MV} : cbK (.ok x h) f = (f x h).hard := rfl
theorem cbK_x {f : List MV → MH → Out MV} : cbK (.er c h) f = .er c h := rfl
theorem mCB_e {f : List MV → MH → Out MV} {m : MA} : mCB f m ρ h = cbK (m ρ h) f := rfl
def lmK2 (o : Out (List MV)) (f : MV → List MV → MH → Out MV) (y : MV) : Out MV := o.bind fun xs h2 => (f y xs h2).hard
theorem lmK2_e {x : List MV} {f : MV → List MV → MH → Out MV} {y : MV} : lmK2 (.ok x h) f y = (f y x h).hard := rfl
theorem lmK2_x {f : MV → List MV → MH → Out MV} {y : MV} : lmK2 (.er c h) f y = .er c h := rfl
def lmK (o : Out (MV)) (f : MV → List MV → MH → Out MV) (m : MA) (ρ : En) : Out MV := o.bind fun x h1 => if isList h1 x = true then lmK2 (m ρ h1) f x else .bad
theorem lmK_e {x : MV} {f : MV → List MV → MH → Out MV} {m : MA} : lmK (.ok x h) f m ρ = (if isList h x = true then lmK2 (m ρ h) f x else .bad) := rfl
theorem lmK_x {f : MV → List MV → MH → Out MV} {m : MA} : lmK (.er c h) f m ρ = .er c h := rfl
theorem lmK_l {f : MV → List MV → MH → Out MV} {m : MA} (e : isList h v = true) : lmK (.ok v h) f m ρ = lmK2 (m ρ h) f v := if_pos e
theorem mLM_e {f : MV → List MV → MH → Out MV} {o : ME} {m : MA} : mLM f o m ρ h = lmK (o ρ h) f m ρ := rfl
def lm0K (o : Out (MV)) (f : MV → List MV → MH → Out MV) : Out MV := o.bind fun x h1 => if isList h1 x = true then (f x [] h1).hard else .bad
theorem lm0K_e {x : MV} {f : MV → List MV → MH → Out MV} : lm0K (.ok x h) f = (if isList h x = true then (f x [] h).hard else .bad) := rfl
theorem lm0K_x {f : MV → List MV → MH → Out MV} : lm0K (.er c h) f = .er c h := rfl
theorem lm0K_l {f : MV → List MV → MH → Out MV} (e : isList h v = true) : lm0K (.ok v h) f = (f v [] h).hard := if_pos e
theorem mLM0_e {f : MV → List MV → MH → Out MV} {o : ME} : mLM0 f o ρ h = lm0K (o ρ h) f := rfl
def partK (o : Out (MV))  : Out (Option Int) := o.bind fun x h1 => match x with | .int i => .ok (some i) h1 | _ => .bad
theorem partK_e {x : MV}  : partK (.ok x h)  = (match x with | .int i => .ok (some i) h | _ => .bad) := rfl
theorem partK_x  : partK (.er c h)  = .er c h := rfl
theorem partK_i {j : Int} : partK (.ok (.int j) h) = .ok (some j) h := rfl
theorem mPart_e {m : ME} : mPart m ρ h = partK (m ρ h) := rfl
def sl3 (o : Out (Option Int)) (y : MV) (lo : Option Int) : Out MV := o.bind fun hi h3 => (fSl y lo hi h3).hard
theorem sl3_e {x : Option Int} {y : MV} {lo : Option Int} : sl3 (.ok x h) y lo = (fSl y lo x h).hard := rfl
theorem sl3_x {y : MV} {lo : Option Int} : sl3 (.er c h) y lo = .er c h := rfl
def sl2 (o : Out (Option Int)) (y : MV) (u : En → MH → Out (Option Int)) (ρ : En) : Out MV := o.bind fun lo h2 => sl3 (u ρ h2) y lo
theorem sl2_e {x : Option Int} {y : MV} {u : En → MH → Out (Option Int)} : sl2 (.ok x h) y u ρ = sl3 (u ρ h) y x := rfl
theorem sl2_x {y : MV} {u : En → MH → Out (Option Int)} : sl2 (.er c h) y u ρ = .er c h := rfl
def sl1 (o : Out (MV)) (l : En → MH → Out (Option Int)) (u : En → MH → Out (Option Int)) (ρ : En) : Out MV := o.bind fun x h1 => sl2 (l ρ h1) x u ρ
theorem sl1_e {x : MV} {l : En → MH → Out (Option Int)} {u : En → MH → Out (Option Int)} : sl1 (.ok x h) l u ρ = sl2 (l ρ h) x u ρ := rfl
theorem sl1_x {l : En → MH → Out (Option Int)} {u : En → MH → Out (Option Int)} : sl1 (.er c h) l u ρ = .er c h := rfl
theorem mSl_e {m : ME} {l u : En → MH → Out (Option Int)} : mSl m l u ρ h = sl1 (m ρ h) l u ρ := rfl
def slHf (y : MV) (lo hi : Option Int) (h3 : MH) : Out MV := match listOf h3 y with | some xs => .ok (.ref h3.length) (h3 ++ [.lst (cutM xs lo hi)]) | none => .bad
theorem slHf_e {lo hi : Option Int} {xs : List MV} (e : listOf h v = some xs) : slHf v lo hi h = .ok (.ref h.length) (h ++ [.lst (cutM xs lo hi)]) := by unfold slHf; rw [e]
def slH3 (o : Out (Option Int)) (y : MV) (lo : Option Int) : Out MV := o.bind fun hi h3 => slHf y lo hi h3
theorem slH3_e {x : Option Int} {y : MV} {lo : Option Int} : slH3 (.ok x h) y lo = slHf y lo x h := rfl
theorem slH3_x {y : MV} {lo : Option Int} : slH3 (.er c h) y lo = .er c h := rfl
def slH2 (o : Out (Option Int)) (y : MV) (u : En → MH → Out (Option Int)) (ρ : En) : Out MV := o.bind fun lo h2 => slH3 (u ρ h2) y lo
theorem slH2_e {x : Option Int} {y : MV} {u : En → MH → Out (Option Int)} : slH2 (.ok x h) y u ρ = slH3 (u ρ h) y x := rfl
theorem slH2_x {y : MV} {u : En → MH → Out (Option Int)} : slH2 (.er c h) y u ρ = .er c h := rfl
def slH1 (o : Out (MV)) (l : En → MH → Out (Option Int)) (u : En → MH → Out (Option Int)) (ρ : En) : Out MV := o.bind fun x h1 => slH2 (l ρ h1) x u ρ
theorem slH1_e {x : MV} {l : En → MH → Out (Option Int)} {u : En → MH → Out (Option Int)} : slH1 (.ok x h) l u ρ = slH2 (l ρ h) x u ρ := rfl
theorem slH1_x {l : En → MH → Out (Option Int)} {u : En → MH → Out (Option Int)} : slH1 (.er c h) l u ρ = .er c h := rfl
theorem mSlH_e {m : ME} {l u : En → MH → Out (Option Int)} : mSlH m l u ρ h = slH1 (m ρ h) l u ρ := rfl
def callK (o : Out (List MV)) (n : Nat) (f : MFun) : Out MV := o.bind fun xs h1 => if xs.length = n then f xs h1 else .bad
theorem callK_e {x : List MV} {n : Nat} {f : MFun} : callK (.ok x h) n f = (if x.length = n then f x h else .bad) := rfl
theorem callK_x {n : Nat} {f : MFun} : callK (.er c h) n f = .er c h := rfl
theorem callK_0 {f : MFun} : callK (.ok [] h) 0 f = f [] h := rfl
theorem callK_1 {f : MFun} {x0 : MV} : callK (.ok [x0] h) 1 f = f [x0] h := rfl
theorem callK_2 {f : MFun} {x0 x1 : MV} : callK (.ok [x0, x1] h) 2 f = f [x0, x1] h := rfl
theorem callK_3 {f : MFun} {x0 x1 x2 : MV} : callK (.ok [x0, x1, x2] h) 3 f = f [x0, x1, x2] h := rfl
theorem callK_4 {f : MFun} {x0 x1 x2 x3 : MV} : callK (.ok [x0, x1, x2, x3] h) 4 f = f [x0, x1, x2, x3] h := rfl
theorem callK_5 {f : MFun} {x0 x1 x2 x3 x4 : MV} : callK (.ok [x0, x1, x2, x3, x4] h) 5 f = f [x0, x1, x2, x3, x4] h := rfl
theorem callK_6 {f : MFun} {x0 x1 x2 x3 x4 x5 : MV} : callK (.ok [x0, x1, x2, x3, x4, x5] h) 6 f = f [x0, x1, x2, x3, x4, x5] h := rfl
theorem callK_7 {f : MFun} {x0 x1 x2 x3 x4 x5 x6 : MV} : callK (.ok [x0, x1, x2, x3, x4, x5, x6] h) 7 f = f [x0, x1, x2, x3, x4, x5, x6] h := rfl
theorem callK_8 {f : MFun} {x0 x1 x2 x3 x4 x5 x6 x7 : MV} : callK (.ok [x0, x1, x2, x3, x4, x5, x6, x7] h) 8 f = f [x0, x1, x2, x3, x4, x5, x6, x7] h := rfl
theorem mCall_e {n : Nat} {f : MFun} {m : MA} : mCall n f m ρ h = callK (m ρ h) n f := rfl
def augS (x : Option (Option MV)) (i : Nat) (f : MV → MV → MH → Out MV) (e : ME) (ρ : En) (h : MH) : SO := match x with | some (some x) => (op2K (e ρ h) f x).then ρ fun z h2 => .nx (ρ.set i (some z)) h2 | _ => .bad
theorem augS_e {f : MV → MV → MH → Out MV} {e : ME} : augS (some (some v)) i f e ρ h = asgS (op2K (e ρ h) f v) i ρ := rfl
theorem mAug_e {f : MV → MV → MH → Out MV} {e : ME} : mAug i f e ρ h = augS ρ[i]? i f e ρ h := by
  unfold mAug augS op2K
  cases ρ[i]? with
  | none => rfl
  | some x => cases x with
    | none => rfl
    | some x => cases e ρ h <;> rfl
noncomputable def forK (o : Out (Itm)) (tg : Tg) (a : MS) (ρ : En) : SO := o.then ρ fun j h1 => forLoop j.chk tg a j.items ρ h1
theorem forK_e {x : Itm} {tg : Tg} : forK (.ok x h) tg a ρ = forLoop x.chk tg a x.items ρ h := rfl
theorem forK_x {tg : Tg} : forK (.er c h) tg a ρ = .er c ρ h := rfl
theorem mFor_e {it : MI} {tg : Tg} : mFor it tg a ρ h = forK (it ρ h) tg a ρ := rfl
theorem mWhile_e {n : Nat} {t : MT} : mWhile n t a ρ h = whileLoop t a n ρ h := rfl
def itmK (o : Option Itm) (h : MH) : Out Itm := match o with | some t => .ok t h | none => .bad
theorem itmK_e {t : Itm} : itmK (some t) h = .ok t h := rfl
def seqK (o : Out (MV))  : Out Itm := o.bind fun x h1 => itmK (itmOf h1 x) h1
theorem seqK_e {x : MV}  : seqK (.ok x h)  = itmK (itmOf h x) h := rfl
theorem seqK_x  : seqK (.er c h)  = .er c h := rfl
theorem mSeqI_e {m : ME} : mSeqI m ρ h = seqK (m ρ h) := rfl
def rng1 (xs : List MV) (h : MH) : Out Itm := match xs with
  | [.int j] => if -(2 ^ 62) ≤ j ∧ j < 2 ^ 62 then .ok ⟨rangeM 0 j.toNat, fun _ => True⟩ h else .bad
  | _ => .bad
def rng2 (xs : List MV) (h : MH) : Out Itm := match xs with
  | [.int i, .int j] => if (-(2 ^ 62) ≤ i ∧ i < 2 ^ 62) ∧ -(2 ^ 62) ≤ j ∧ j < 2 ^ 62 then .ok ⟨rangeM i (j - i).toNat, fun _ => True⟩ h else .bad
  | _ => .bad
def rngD (xs : List MV) (h : MH) : Out Itm := match xs with
  | [.int i, .int j, .int (-1)] => if (-(2 ^ 62) ≤ i ∧ i < 2 ^ 62) ∧ -(2 ^ 62) ≤ j ∧ j < 2 ^ 62 then .ok ⟨rangeD i (i - j).toNat, fun _ => True⟩ h else .bad
  | _ => .bad
def r1K (o : Out (List MV))  : Out Itm := o.bind rng1
theorem r1K_e {x : List MV}  : r1K (.ok x h)  = rng1 x h := rfl
theorem r1K_x  : r1K (.er c h)  = .er c h := rfl
def r2K (o : Out (List MV))  : Out Itm := o.bind rng2
theorem r2K_e {x : List MV}  : r2K (.ok x h)  = rng2 x h := rfl
theorem r2K_x  : r2K (.er c h)  = .er c h := rfl
def rDK (o : Out (List MV))  : Out Itm := o.bind rngD
theorem rDK_e {x : List MV}  : rDK (.ok x h)  = rngD x h := rfl
theorem rDK_x  : rDK (.er c h)  = .er c h := rfl
theorem mRng1_e {m : MA} : mRng1 m ρ h = r1K (m ρ h) := by
  unfold mRng1 r1K; congr 1
theorem mRng2_e {m : MA} : mRng2 m ρ h = r2K (m ρ h) := by
  unfold mRng2 r2K; congr 1
theorem mRngD_e {m : MA} : mRngD m ρ h = rDK (m ρ h) := by
  unfold mRngD rDK; congr 1
theorem rng1_e {j : Int} (hj : -(2 ^ 62) ≤ j ∧ j < 2 ^ 62) : rng1 [.int j] h = .ok ⟨rangeM 0 j.toNat, fun _ => True⟩ h := if_pos hj
theorem rng2_e {i j : Int} (hi : -(2 ^ 62) ≤ i ∧ i < 2 ^ 62) (hj : -(2 ^ 62) ≤ j ∧ j < 2 ^ 62) : rng2 [.int i, .int j] h = .ok ⟨rangeM i (j - i).toNat, fun _ => True⟩ h := if_pos ⟨hi, hj⟩
theorem rngD_e {i j : Int} (hi : -(2 ^ 62) ≤ i ∧ i < 2 ^ 62) (hj : -(2 ^ 62) ≤ j ∧ j < 2 ^ 62) : rngD [.int i, .int j, .int (-1)] h = .ok ⟨rangeD i (i - j).toNat, fun _ => True⟩ h := if_pos ⟨hi, hj⟩
def lcK2 (o : Out (List MV))  : Out MV := o.bind fun ys h2 => .ok (.lst ys) h2
theorem lcK2_e {x : List MV}  : lcK2 (.ok x h)  = .ok (.lst x) h := rfl
theorem lcK2_x  : lcK2 (.er c h)  = .er c h := rfl
noncomputable def lcK (o : Out (Itm)) (own : List Nat) (tg : Tg) (cond : MT) (elt : ME) (ρ : En) : Out MV := o.bind fun j h1 => lcK2 (compLoop j.chk tg cond elt (wipeM ρ own) j.items [] h1).hard
theorem lcK_e {x : Itm} {own : List Nat} {tg : Tg} {cond : MT} {elt : ME} : lcK (.ok x h) own tg cond elt ρ = lcK2 (compLoop x.chk tg cond elt (wipeM ρ own) x.items [] h).hard := rfl
theorem lcK_x {own : List Nat} {tg : Tg} {cond : MT} {elt : ME} : lcK (.er c h) own tg cond elt ρ = .er c h := rfl
theorem mLc_e {own : List Nat} {it : MI} {tg : Tg} {cond : MT} {elt : ME} : mLc own it tg cond elt ρ h = lcK (it ρ h) own tg cond elt ρ := rfl
def lcH2 (o : Out (List MV))  : Out MV := o.bind fun ys h2 => .ok (.ref h2.length) (h2 ++ [.lst ys])
theorem lcH2_e {x : List MV}  : lcH2 (.ok x h)  = .ok (.ref h.length) (h ++ [.lst x]) := rfl
theorem lcH2_x  : lcH2 (.er c h)  = .er c h := rfl
noncomputable def lcH (o : Out (Itm)) (own : List Nat) (tg : Tg) (cond : MT) (elt : ME) (ρ : En) : Out MV := o.bind fun j h1 => lcH2 (compLoop j.chk tg cond elt (wipeM ρ own) j.items [] h1).hard
theorem lcH_e {x : Itm} {own : List Nat} {tg : Tg} {cond : MT} {elt : ME} : lcH (.ok x h) own tg cond elt ρ = lcH2 (compLoop x.chk tg cond elt (wipeM ρ own) x.items [] h).hard := rfl
theorem lcH_x {own : List Nat} {tg : Tg} {cond : MT} {elt : ME} : lcH (.er c h) own tg cond elt ρ = .er c h := rfl
theorem mLcH_e {own : List Nat} {it : MI} {tg : Tg} {cond : MT} {elt : ME} : mLcH own it tg cond elt ρ h = lcH (it ρ h) own tg cond elt ρ := rfl
theorem wipe_n : wipeM ρ [] = ρ := rfl
theorem wipe_c {vs : List Nat} : wipeM ρ (i :: vs) = (wipeM ρ vs).set i none := rfl
def isiK (o : Out (MV)) (T : Ty) : Out MV := o.bind fun x h1 => match tyOf h1 x with | some t => .ok (.bl (t.is T)) h1 | none => .bad
theorem isiK_e {x : MV} {T : Ty} : isiK (.ok x h) T = (match tyOf h x with | some t => .ok (.bl (t.is T)) h | none => .bad) := rfl
theorem isiK_x {T : Ty} : isiK (.er c h) T = .er c h := rfl
theorem mIsi_e {T : Ty} {m : ME} : mIsi T m ρ h = isiK (m ρ h) T := rfl
def fldF (f : Str) (c : Nat) (o : Option (Nat × List Str × List MV)) (h : MH) : Out MV := match o with | some (c', ns, xs) => if c' = c then (match lookM f ns xs with | some v => .ok v h | none => .bad) else .bad | none => .bad
def fldK (o : Out (MV)) (n : Nat) (f : Str) : Out MV := o.bind fun x h1 => fldF f n (insOf h1 x) h1
theorem fldK_e {x : MV} {n : Nat} {f : Str} : fldK (.ok x h) n f = fldF f n (insOf h x) h := rfl
theorem fldK_x {n : Nat} {f : Str} : fldK (.er c h) n f = .er c h := rfl
theorem mFld_e {n : Nat} {f : Str} {o : ME} : mFld n f o ρ h = fldK (o ρ h) n f := rfl
theorem fldF_e {f : Str} {ns : List Str} {xs : List MV} {y : MV} (e : lookM f ns xs = some y) : fldF f i (some (i, ns, xs)) h = .ok y h := by simp only [fldF, if_true, e]
def setF (i : Nat) (f : Str) (y : MV) (x : MV) (ρ : En) (h2 : MH) : SO := match x with | .ref j => (match h2[j]? with | some (.ins c' ns xs) => if c' = i ∧ ns.length < 1000 then .nx ρ (h2.set j (.ins i (putN f ns) (putX f y ns xs))) else .bad | _ => .bad) | _ => .bad
def setK2 (o : Out (MV)) (i : Nat) (f : Str) (y : MV) (ρ : En) : SO := o.then ρ fun x h2 => setF i f y x ρ h2
theorem setK2_e {x : MV} {f : Str} {y : MV} : setK2 (.ok x h) i f y ρ = setF i f y x ρ h := rfl
theorem setK2_x {f : Str} {y : MV} : setK2 (.er c h) i f y ρ = .er c ρ h := rfl
def setK1 (o : Out (MV)) (i : Nat) (f : Str) (q : ME) (ρ : En) : SO := o.then ρ fun y h1 => setK2 (q ρ h1) i f y ρ
theorem setK1_e {x : MV} {f : Str} {q : ME} : setK1 (.ok x h) i f q ρ = setK2 (q ρ h) i f x ρ := rfl
theorem setK1_x {f : Str} {q : ME} : setK1 (.er c h) i f q ρ = .er c ρ h := rfl
theorem mSetFld_e {f : Str} {q e : ME} : mSetFld i f q e ρ h = setK1 (e ρ h) i f q ρ := by
  unfold mSetFld setK1; congr 1
theorem setF_e {f : Str} {j : Nat} {ns : List Str} {xs : List MV} {y : MV} (e : h[j]? = some (.ins i ns xs)) (hl : ns.length < 1000) : setF i f y (.ref j) ρ h = .nx ρ (h.set j (.ins i (putN f ns) (putX f y ns xs))) := by
  simp only [setF, e, hl, and_self, if_true]
def methF (n : Nat) (m : Str) (cc : Nat) (f : MFun) (as : MA) (x : MV) (o : Option (Nat × List Str × List MV)) (ρ : En) (h1 : MH) : Out MV := match o with | some (c', ns, xs) => if c' = cc ∧ lookM m ns xs = none ∧ ns.length = xs.length then (as ρ h1).bind fun ys h2 => if ys.length + 1 = n then (f (x :: ys) h2).hard else .bad else .bad | none => .bad
def methK (o : Out (MV)) (n : Nat) (m : Str) (cc : Nat) (f : MFun) (as : MA) (ρ : En) : Out MV := o.bind fun x h1 => methF n m cc f as x (insOf h1 x) ρ h1
theorem methK_e {x : MV} {n : Nat} {m : Str} {cc : Nat} {f : MFun} {as : MA} : methK (.ok x h) n m cc f as ρ = methF n m cc f as x (insOf h x) ρ h := rfl
theorem methK_x {n : Nat} {m : Str} {cc : Nat} {f : MFun} {as : MA} : methK (.er c h) n m cc f as ρ = .er c h := rfl
theorem mMeth_e {cc n : Nat} {m : Str} {f : MFun} {o : ME} {as : MA} : mMeth cc n m f o as ρ h = methK (o ρ h) n m cc f as ρ := rfl
def methA (o : Out (List MV)) (n : Nat) (f : MFun) (y : MV) : Out MV := o.bind fun ys h2 => if ys.length + 1 = n then (f (y :: ys) h2).hard else .bad
theorem methA_e {x : List MV} {n : Nat} {f : MFun} {y : MV} : methA (.ok x h) n f y = (if x.length + 1 = n then (f (y :: x) h).hard else .bad) := rfl
theorem methA_x {n : Nat} {f : MFun} {y : MV} : methA (.er c h) n f y = .er c h := rfl
theorem methA_0 {f : MFun} {y  : MV} : methA (.ok [] h) 1 f y = (f [y] h).hard := rfl
theorem methA_1 {f : MFun} {y x0 : MV} : methA (.ok [x0] h) 2 f y = (f [y, x0] h).hard := rfl
theorem methA_2 {f : MFun} {y x0 x1 : MV} : methA (.ok [x0, x1] h) 3 f y = (f [y, x0, x1] h).hard := rfl
theorem methA_3 {f : MFun} {y x0 x1 x2 : MV} : methA (.ok [x0, x1, x2] h) 4 f y = (f [y, x0, x1, x2] h).hard := rfl
theorem methA_4 {f : MFun} {y x0 x1 x2 x3 : MV} : methA (.ok [x0, x1, x2, x3] h) 5 f y = (f [y, x0, x1, x2, x3] h).hard := rfl
theorem methA_5 {f : MFun} {y x0 x1 x2 x3 x4 : MV} : methA (.ok [x0, x1, x2, x3, x4] h) 6 f y = (f [y, x0, x1, x2, x3, x4] h).hard := rfl
theorem methA_6 {f : MFun} {y x0 x1 x2 x3 x4 x5 : MV} : methA (.ok [x0, x1, x2, x3, x4, x5] h) 7 f y = (f [y, x0, x1, x2, x3, x4, x5] h).hard := rfl
theorem methA_7 {f : MFun} {y x0 x1 x2 x3 x4 x5 x6 : MV} : methA (.ok [x0, x1, x2, x3, x4, x5, x6] h) 8 f y = (f [y, x0, x1, x2, x3, x4, x5, x6] h).hard := rfl
theorem methA_8 {f : MFun} {y x0 x1 x2 x3 x4 x5 x6 x7 : MV} : methA (.ok [x0, x1, x2, x3, x4, x5, x6, x7] h) 9 f y = (f [y, x0, x1, x2, x3, x4, x5, x6, x7] h).hard := rfl
theorem methF_e {n cc : Nat} {m : Str} {f : MFun} {as : MA} {x : MV} {ns : List Str} {xs : List MV} (e : lookM m ns xs = none) (hl : ns.length = xs.length) : methF n m cc f as x (some (cc, ns, xs)) ρ h = methA (as ρ h) n f x := by simp only [methF, e, hl, and_self, if_true]; rfl
noncomputable def mkF (c n : Nat) (f : MFun) (xs : List MV) (h1 : MH) : Out MV := if xs.length + 1 = n then (mMk c f xs h1).cut h1 else .bad
noncomputable def mkK (o : Out (List MV)) (cc : Nat) (n : Nat) (f : MFun) (ds : List MV) : Out MV := o.bind fun xs h1 => mkF cc n f (xs ++ ds) h1
theorem mkK_e {x : List MV} {cc : Nat} {n : Nat} {f : MFun} {ds : List MV} : mkK (.ok x h) cc n f ds = mkF cc n f (x ++ ds) h := rfl
theorem mkK_x {cc : Nat} {n : Nat} {f : MFun} {ds : List MV} : mkK (.er c h) cc n f ds = .er c h := rfl
theorem mMake_e {cc n : Nat} {f : MFun} {ds : List MV} {m : MA} : mMake cc n f ds m ρ h = mkK (m ρ h) cc n f ds := rfl
def sxF (x k y : MV) (ρ : En) (h3 : MH) : SO := match cellOf h3 x, k with | some (c, xs), .int j => (match ixN xs.length j with | some n => .nx ρ (h3.set c (.lst (xs.set n y))) | none => .bad) | _, _ => .bad
def sx3 (o : Out (MV)) (y : MV) (w : MV) (ρ : En) : SO := o.then ρ fun k h3 => sxF w k y ρ h3
theorem sx3_e {x : MV} {y : MV} {w : MV} : sx3 (.ok x h) y w ρ = sxF w x y ρ h := rfl
theorem sx3_x {y : MV} {w : MV} : sx3 (.er c h) y w ρ = .er c ρ h := rfl
def sx2 (o : Out (MV)) (y : MV) (m : ME) (ρ : En) : SO := o.then ρ fun x h2 => sx3 (m ρ h2) y x ρ
theorem sx2_e {x : MV} {y : MV} {m : ME} : sx2 (.ok x h) y m ρ = sx3 (m ρ h) y x ρ := rfl
theorem sx2_x {y : MV} {m : ME} : sx2 (.er c h) y m ρ = .er c ρ h := rfl
def sx1 (o : Out (MV)) (q : ME) (m : ME) (ρ : En) : SO := o.then ρ fun y h1 => sx2 (q ρ h1) y m ρ
theorem sx1_e {x : MV} {q : ME} {m : ME} : sx1 (.ok x h) q m ρ = sx2 (q ρ h) x m ρ := rfl
theorem sx1_x {q : ME} {m : ME} : sx1 (.er c h) q m ρ = .er c ρ h := rfl
theorem mSetIx_e {q m e : ME} : mSetIx q m e ρ h = sx1 (e ρ h) q m ρ := rfl
end
/-! ### heaps: cells behind a start -/
section
variable {h cs : MH} {c0 c1 c2 c3 c4 c5 x : MO}
theorem get0 : (h ++ c0 :: cs)[h.length]? = some c0 := by simp
theorem get1 : (h ++ c0 :: c1 :: cs)[h.length + 1]? = some c1 := by simp
theorem get2 : (h ++ c0 :: c1 :: c2 :: cs)[h.length + 1 + 1]? = some c2 := by simp [Nat.add_assoc]
theorem get3 : (h ++ c0 :: c1 :: c2 :: c3 :: cs)[h.length + 1 + 1 + 1]? = some c3 := by simp [Nat.add_assoc]
theorem get4 : (h ++ c0 :: c1 :: c2 :: c3 :: c4 :: cs)[h.length + 1 + 1 + 1 + 1]? = some c4 := by simp [Nat.add_assoc]
theorem set0 : (h ++ c0 :: cs).set h.length x = h ++ x :: cs := by simp
theorem set1 : (h ++ c0 :: c1 :: cs).set (h.length + 1) x = h ++ c0 :: x :: cs := by simp
theorem set2 : (h ++ c0 :: c1 :: c2 :: cs).set (h.length + 1 + 1) x = h ++ c0 :: c1 :: x :: cs := by simp [Nat.add_assoc]
theorem set3 : (h ++ c0 :: c1 :: c2 :: c3 :: cs).set (h.length + 1 + 1 + 1) x = h ++ c0 :: c1 :: c2 :: x :: cs := by simp [Nat.add_assoc]
theorem set4 : (h ++ c0 :: c1 :: c2 :: c3 :: c4 :: cs).set (h.length + 1 + 1 + 1 + 1) x = h ++ c0 :: c1 :: c2 :: c3 :: x :: cs := by simp [Nat.add_assoc]
theorem gz {α : Type} {x : α} {xs : List α} : (x :: xs)[0]? = some x := rfl
theorem gs {α : Type} {x : α} {xs : List α} {n : Nat} : (x :: xs)[n + 1]? = xs[n]? := rfl
theorem sz {α : Type} {x y : α} {xs : List α} : (x :: xs).set 0 y = y :: xs := rfl
theorem ss {α : Type} {x y : α} {xs : List α} {n : Nat} : (x :: xs).set (n + 1) y = x :: xs.set n y := rfl
theorem app_c {α : Type} {x : α} {xs ys : List α} : x :: xs ++ ys = x :: (xs ++ ys) := rfl
theorem app_a {xs ys zs : MH} : xs ++ ys ++ zs = xs ++ (ys ++ zs) := List.append_assoc ..
theorem app_n {α : Type} {ys : List α} : [] ++ ys = ys := rfl
theorem len_a {xs ys : MH} : (xs ++ ys).length = xs.length + ys.length := List.length_append
theorem len_p1 : (h ++ [c0]).length = h.length + 1 := by simp
theorem len_p2 : (h ++ [c0, c1]).length = h.length + 1 + 1 := by simp
theorem len_p3 : (h ++ [c0, c1, c2]).length = h.length + 1 + 1 + 1 := by simp
theorem len_p4 : (h ++ [c0, c1, c2, c3]).length = h.length + 1 + 1 + 1 + 1 := by simp
theorem len_p5 : (h ++ [c0, c1, c2, c3, c4]).length = h.length + 1 + 1 + 1 + 1 + 1 := by simp
theorem len_c {x : MO} {xs : MH} : (x :: xs).length = xs.length + 1 := rfl
theorem len_n : ([] : MH).length = 0 := rfl
end
end PM
end

section
set_option Elab.async false
set_option linter.all false
set_option maxRecDepth 100000
/-! Values that are data: equality, freezing, cutting; the operations at values. -/
namespace PM
open PySem L2 Mini

/-! ### data: nones, ints, texts, tuples and lists of data; lengths at most 1000 -/
def gd : Nat → MV → Prop
  | 0, _ => False
  | n + 1, v => match v with
    | .non => True
    | .int _ => True
    | .str s => PyData.strOk s = true
    | .tup xs => xs.length ≤ 1000 ∧ ∀ x ∈ xs, gd n x
    | .lst xs => xs.length ≤ 1000 ∧ ∀ x ∈ xs, gd n x
    | _ => False
theorem gd_non {n : Nat} : gd (n + 1) .non := trivial
theorem gd_int {n : Nat} {i : Int} : gd (n + 1) (.int i) := trivial
theorem gd_str {n : Nat} {s : Str} (h : PyData.strOk s = true) : gd (n + 1) (.str s) := h
theorem gd_tup {n : Nat} {xs : List MV} (h : xs.length ≤ 1000) (k : ∀ x ∈ xs, gd n x) : gd (n + 1) (.tup xs) := ⟨h, k⟩
theorem gd_lst {n : Nat} {xs : List MV} (h : xs.length ≤ 1000) (k : ∀ x ∈ xs, gd n x) : gd (n + 1) (.lst xs) := ⟨h, k⟩
theorem gd_up : ∀ {n : Nat} {v : MV}, gd n v → gd (n + 1) v
  | 0, _, h => h.elim
  | n + 1, v, h => by
    cases v <;> first | exact h | exact ⟨h.1, fun x hx => gd_up (h.2 x hx)⟩
theorem gd_mono {n m : Nat} {v : MV} (hm : n ≤ m) (h : gd n v) : gd m v := by
  induction hm with
  | refl => exact h
  | step _ ih => exact gd_up ih
mutual
def dt : MV → PyData
  | .bl b => .bool b
  | .int i => .int i
  | .str s => .str s
  | .tup xs => .tuple (dts xs)
  | .lst xs => .list (dts xs)
  | .fro xs => .list (dts xs)
  | _ => .none
def dts : List MV → List PyData
  | [] => []
  | x :: xs => dt x :: dts xs
end
theorem mapO_dts {f : MV → Option PyData} : ∀ {xs : List MV}, (∀ x ∈ xs, f x = some (dt x)) → mapO f xs = some (dts xs)
  | [], _ => by simp only [mapO, dts]
  | x :: xs, h => by
    simp only [mapO, h x (by simp), mapO_dts (f := f) (xs := xs) fun y hy => h y (by simp [hy]), dts]
theorem dat_gd {h : MH} : ∀ {n : Nat} {v : MV}, gd n v → dat n h v = some (dt v)
  | 0, _, g => g.elim
  | n + 1, v, g => by
    cases v with
    | non => simp only [dat, dt]
    | int => simp only [dat, dt]
    | bl => exact g.elim
    | str s => simp only [dat, dt]; exact if_pos g
    | tup xs => simp only [dat, mapO_dts fun x hx => dat_gd (g.2 x hx), dt, Option.map_some]
    | lst xs => simp only [dat, mapO_dts fun x hx => dat_gd (g.2 x hx), dt, Option.map_some]
    | fro xs => exact g.elim
    | obj => exact g.elim
    | dct => exact g.elim
    | ref => exact g.elim
open Classical in
theorem eqvAll_dts {n : Nat} (ih : ∀ v w, gd n v → gd n w → PyData.eqv (dt v) (dt w) = decide (v = w)) : ∀ xs ys : List MV, (∀ x ∈ xs, gd n x) → (∀ x ∈ ys, gd n x) → PyData.eqvAll (dts xs) (dts ys) = decide (xs = ys)
  | [], [], _, _ => by simp [dts, PyData.eqvAll]
  | [], y :: ys, _, _ => by simp [dts, PyData.eqvAll]
  | x :: xs, [], _, _ => by simp [dts, PyData.eqvAll]
  | x :: xs, y :: ys, hx, hy => by
    simp only [dts, PyData.eqvAll, ih x y (hx x (by simp)) (hy y (by simp)), eqvAll_dts ih xs ys (fun z hz => hx z (by simp [hz])) (fun z hz => hy z (by simp [hz])), List.cons.injEq]
    by_cases a : x = y <;> by_cases b : xs = ys <;> simp [a, b]
open Classical in
theorem eqv_dt : ∀ (n : Nat) (v w : MV), gd n v → gd n w → PyData.eqv (dt v) (dt w) = decide (v = w)
  | 0, _, _, g, _ => g.elim
  | n + 1, v, w, g, g' => by
    have L := eqvAll_dts (eqv_dt n)
    cases v <;> first | exact g.elim | (cases w <;> first | exact g'.elim | (simp only [dt, PyData.eqv, MV.int.injEq, MV.str.injEq, MV.tup.injEq, MV.lst.injEq, reduceCtorEq, decide_false, decide_true]; done) | (simp only [dt, PyData.eqv, MV.int.injEq, MV.str.injEq]; rw [Bool.eq_iff_iff]; simp; done) | (simp only [dt, PyData.eqv, MV.tup.injEq, MV.lst.injEq]; exact L _ _ g.2 g'.2))
open Classical in
theorem fEq_g {v w : MV} {h : MH} (g : gd 64 v) (g' : gd 64 w) : fEq v w h = .ok (.bl (decide (v = w))) h := by
  unfold fEq; rw [dat_gd g, dat_gd g']; simp only [eqv_dt 64 v w g g']
open Classical in
theorem fNe_g {v w : MV} {h : MH} (g : gd 64 v) (g' : gd 64 w) : fNe v w h = .ok (.bl (!decide (v = w))) h := by
  unfold fNe; rw [dat_gd g, dat_gd g']; simp only [eqv_dt 64 v w g g']
open Classical in
theorem fEq_t {v w : MV} {h : MH} (g : gd 64 v) (g' : gd 64 w) (e : v = w) : fEq v w h = .ok (.bl true) h := by rw [fEq_g g g', decide_eq_true e]
open Classical in
theorem fEq_f {v w : MV} {h : MH} (g : gd 64 v) (g' : gd 64 w) (e : v ≠ w) : fEq v w h = .ok (.bl false) h := by rw [fEq_g g g', decide_eq_false e]
open Classical in
theorem fNe_t {v w : MV} {h : MH} (g : gd 64 v) (g' : gd 64 w) (e : v ≠ w) : fNe v w h = .ok (.bl true) h := by rw [fNe_g g g', decide_eq_false e]; rfl
open Classical in
theorem fNe_f {v w : MV} {h : MH} (g : gd 64 v) (g' : gd 64 w) (e : v = w) : fNe v w h = .ok (.bl false) h := by rw [fNe_g g g', decide_eq_true e]; rfl
theorem fEq_i {i j : Int} {h : MH} : fEq (.int i) (.int j) h = .ok (.bl (decide (i = j))) h := by
  rw [fEq_g (gd_int (n := 63)) (gd_int (n := 63))]; congr 2; simp only [MV.int.injEq]
theorem fNe_i {i j : Int} {h : MH} : fNe (.int i) (.int j) h = .ok (.bl (!decide (i = j))) h := by
  rw [fNe_g (gd_int (n := 63)) (gd_int (n := 63))]; congr 3; simp only [MV.int.injEq]
/-- a list of the heap is compared as the list of its items -/
theorem dat_ref {h : MH} {i n : Nat} {xs : List MV} (e : h[i]? = some (.lst xs)) : dat (n + 1) h (.ref i) = dat (n + 1) h (.lst xs) := by simp only [dat, e]
theorem fEq_r1 {h : MH} {i : Nat} {w : MV} {xs : List MV} (e : h[i]? = some (.lst xs)) : fEq (.ref i) w h = fEq (.lst xs) w h := by unfold fEq; rw [dat_ref e]
theorem fEq_r2 {h : MH} {i : Nat} {w : MV} {xs : List MV} (e : h[i]? = some (.lst xs)) : fEq w (.ref i) h = fEq w (.lst xs) h := by unfold fEq; rw [dat_ref e]
theorem fNe_r1 {h : MH} {i : Nat} {w : MV} {xs : List MV} (e : h[i]? = some (.lst xs)) : fNe (.ref i) w h = fNe (.lst xs) w h := by unfold fNe; rw [dat_ref e]
theorem fNe_r2 {h : MH} {i : Nat} {w : MV} {xs : List MV} (e : h[i]? = some (.lst xs)) : fNe w (.ref i) h = fNe w (.lst xs) h := by unfold fNe; rw [dat_ref e]

/-! ### operations at values -/
section
variable {h : MH} {i j : Int} {v : MV} {xs ys : List MV} {n k : Nat}
theorem fI_e {g : Int → Int → MV} : fI g (.int i) (.int j) h = .ok (g i j) h := rfl
theorem fIC_e {c : Int → Int → Prop} {g : Int → Int → MV} (hc : c i j) : fIC c g (.int i) (.int j) h = .ok (g i j) h := by unfold fIC; exact if_pos hc
theorem fMod_e (hj : 0 < j) : fMod (.int i) (.int j) h = .ok (.int (i % j)) h := fIC_e hj
theorem fDiv_e (hj : 0 < j) (hk : j < 1073741824) : fDiv (.int i) (.int j) h = .ok (.int (i / j)) h := fIC_e (⟨hj, hk⟩ : CDiv i j)
theorem fMul_e (hj : -(2 ^ 64) < j ∧ j < 2 ^ 64) : fMul (.int i) (.int j) h = .ok (.int (i * j)) h := by unfold fMul; exact if_pos (.inr hj)
theorem fMul_e1 (hj : -(2 ^ 64) < i ∧ i < 2 ^ 64) : fMul (.int i) (.int j) h = .ok (.int (i * j)) h := by unfold fMul; exact if_pos (.inl hj)
theorem fAdd_i : fAdd (.int i) (.int j) h = .ok (.int (i + j)) h := rfl
theorem fAdd_t (hl : xs.length + ys.length ≤ sizeLine) : fAdd (.tup xs) (.tup ys) h = .ok (.tup (xs ++ ys)) h := by unfold fAdd; exact if_pos hl
theorem fAdd_l (hl : xs.length + ys.length ≤ sizeLine) : fAdd (.lst xs) (.lst ys) h = .ok (.lst (xs ++ ys)) h := by
  simp only [fAdd, Mini.listOf]; exact if_pos hl
theorem fAdd_s {s t : Str} (hl : s.length + t.length ≤ sizeLine) : fAdd (.str s) (.str t) h = .ok (.str (s ++ t)) h := by unfold fAdd; exact if_pos hl
theorem fNeg_e : fNeg (.int i) h = .ok (.int (-i)) h := rfl
def isNonB : MV → Bool := isNon
theorem fIs_f : fIs false v .non h = .ok (.bl (isNon v)) h := by simp [fIs]
theorem fIs_t : fIs true v .non h = .ok (.bl (!isNon v)) h := by simp [fIs]
theorem isNon_n : isNon .non = true := rfl
theorem isNon_i : isNon (.int i) = false := rfl
theorem isNon_t : isNon (.tup xs) = false := rfl
theorem isNon_l : isNon (.lst xs) = false := rfl
theorem isNon_s {s : Str} : isNon (.str s) = false := rfl
/-- the list behind a cell -/
def refL (x : Option MO) : Option (List MV) := match x with
  | some (.lst xs) => some xs
  | _ => none
theorem refL_e : refL (some (.lst xs)) = some xs := rfl
theorem listOf_r : Mini.listOf h (.ref n) = refL h[n]? := rfl
theorem listOf_l : Mini.listOf h (.lst xs) = some xs := rfl
theorem listOf_f : Mini.listOf h (.fro xs) = some xs := rfl
theorem seqOf_r : seqOf h (.ref n) = refL h[n]? := rfl
theorem seqOf_l : seqOf h (.lst xs) = some xs := rfl
theorem seqOf_f : seqOf h (.fro xs) = some xs := rfl
theorem seqOf_t : seqOf h (.tup xs) = some xs := rfl
theorem isList_l : isList h (.lst xs) = true := rfl
def someL (x : Option (List MV)) : Bool := x.isSome
theorem someL_e : someL (some xs) = true := rfl
theorem isList_r : isList h (.ref n) = someL (refL h[n]?) := rfl
def lenK (o : Option (List MV)) (h : MH) : Out MV := match o with
  | some ys => .ok (.int ys.length) h
  | none => .bad
theorem lenK_e : lenK (some xs) h = .ok (.int xs.length) h := rfl
theorem fLen_t : fLen [.tup xs] h = .ok (.int xs.length) h := rfl
theorem fLen_l : fLen [.lst xs] h = .ok (.int xs.length) h := rfl
theorem fLen_f : fLen [.fro xs] h = .ok (.int xs.length) h := rfl
theorem fLen_r : fLen [.ref n] h = lenK (refL h[n]?) h := rfl
theorem fLen_v (e : seqOf h v = some xs) : fLen [v] h = .ok (.int xs.length) h := by
  unfold fLen
  split
  · rename_i q; cases q; simp [seqOf, Mini.listOf] at e
  · rename_i q; cases q; rw [e]
  · rename_i q1 q2; exact absurd rfl (q2 _)
def ixK (o : Option MV) (h : MH) : Out MV := match o with
  | some v => .ok v h
  | none => .bad
theorem ixK_e : ixK (some v) h = .ok v h := rfl
def ixS (o : Option (List MV)) (i : Int) (h : MH) : Out MV := match o with
  | some xs => ixK (atI xs i) h
  | none => .bad
theorem ixS_e : ixS (some xs) i h = ixK (atI xs i) h := rfl
theorem fIx_t : fIx (.tup xs) (.int i) h = ixK (atI xs i) h := by simp only [fIx, seqOf]; rfl
theorem fIx_l : fIx (.lst xs) (.int i) h = ixK (atI xs i) h := by simp only [fIx, seqOf, Mini.listOf]; rfl
theorem fIx_f : fIx (.fro xs) (.int i) h = ixK (atI xs i) h := by simp only [fIx, seqOf, Mini.listOf]; rfl
theorem fIx_r : fIx (.ref n) (.int i) h = ixS (refL h[n]?) i h := by
  simp only [fIx, seqOf_r]; unfold ixS; cases refL h[n]? <;> rfl
theorem fIx_v (e : seqOf h v = some xs) : fIx v (.int i) h = ixK (atI xs i) h := by
  cases v with
  | str => simp [seqOf, Mini.listOf] at e
  | _ => simp only [fIx, e]; rfl
theorem atI_n {α : Type} {xs : List α} : atI xs ((n : Nat) : Int) = xs[n]? := by
  unfold atI ixN
  rw [if_pos (Int.natCast_nonneg n)]
  by_cases hl : n < xs.length
  · rw [if_pos (by omega)]; simp
  · rw [if_neg (by omega)]; simp; omega
theorem atI_0 {α : Type} {x : α} {xs : List α} : atI (x :: xs) 0 = some x := atI_n (n := 0)
theorem atI_1 {α : Type} {x y : α} {xs : List α} : atI (x :: y :: xs) 1 = some y := atI_n (n := 1)
theorem atI_2 {α : Type} {x y z : α} {xs : List α} : atI (x :: y :: z :: xs) 2 = some z := atI_n (n := 2)
theorem atI_last {α : Type} {x : α} {xs : List α} : atI (xs ++ [x]) (-1) = some x := by
  unfold atI ixN
  rw [if_neg (by omega), if_pos (by simp; omega)]
  simp only [List.length_append, List.length_singleton, Option.bind_some]
  rw [show (-1 + ((xs.length + 1 : Nat) : Int)).toNat = xs.length by omega]
  simp
theorem fSl_t {lo hi : Option Int} : fSl (.tup xs) lo hi h = .ok (.tup (cutM xs lo hi)) h := rfl
theorem fSl_l {lo hi : Option Int} : fSl (.lst xs) lo hi h = .ok (.lst (cutM xs lo hi)) h := rfl
def slK (o : Option (List MV)) (lo hi : Option Int) (h : MH) : Out MV := match o with
  | some xs => .ok (.lst (cutM xs lo hi)) h
  | none => .bad
theorem slK_e {lo hi : Option Int} : slK (some xs) lo hi h = .ok (.lst (cutM xs lo hi)) h := rfl
theorem fSl_r {lo hi : Option Int} : fSl (.ref n) lo hi h = slK (refL h[n]?) lo hi h := by
  simp only [fSl, listOf_r]; unfold slK; cases refL h[n]? <;> rfl
theorem slHf_r {lo hi : Option Int} (e : h[n]? = some (.lst xs)) : slHf (.ref n) lo hi h = .ok (.ref h.length) (h ++ [.lst (cutM xs lo hi)]) := slHf_e (by simp only [Mini.listOf, e])
theorem cut_hi : cutM xs none (some ((n : Nat) : Int)) = xs.take n := by
  unfold cutM
  simp only [HT.sIx_none, HT.sIx_nat, List.drop_zero, Nat.sub_zero]
  rcases Nat.le_total n xs.length with q | q
  · rw [Nat.min_eq_left q]
  · rw [Nat.min_eq_right q, List.take_of_length_le q, List.take_of_length_le (Nat.le_refl _)]
theorem cut_lo : cutM xs (some ((n : Nat) : Int)) none = xs.drop n := by
  unfold cutM
  simp only [HT.sIx_none, HT.sIx_nat]
  rcases Nat.le_total n xs.length with q | q
  · rw [Nat.min_eq_left q]; exact List.take_of_length_le (by simp)
  · rw [Nat.min_eq_right q, List.drop_of_length_le q, List.drop_of_length_le (Nat.le_refl _)]; simp
theorem cut_no : cutM xs none none = xs := by unfold cutM; simp [HT.sIx_none]
theorem cut_lh : cutM xs (some ((n : Nat) : Int)) (some ((k : Nat) : Int)) = (xs.drop n).take (k - n) := by
  unfold cutM
  simp only [HT.sIx_nat]
  apply List.ext_getElem?
  intro m
  simp only [List.getElem?_take, List.getElem?_drop]
  by_cases a : n ≤ xs.length
  · rw [Nat.min_eq_left a]
    by_cases b : k ≤ xs.length
    · rw [Nat.min_eq_left b]
    · rw [Nat.min_eq_right (by omega)]
      by_cases c : m < xs.length - n
      · rw [if_pos c, if_pos (by omega)]
      · rw [if_neg c]; split
        · symm; simp; omega
        · rfl
  · rw [Nat.min_eq_right (show xs.length ≤ n by omega)]
    rw [if_neg (by have := Nat.min_le_right k xs.length; omega)]
    split
    · symm; simp; omega
    · rfl
theorem cut_1 : cutM (v :: xs) (some 1) none = xs := cut_lo (n := 1)
theorem cut_m1 : cutM xs none (some (-1)) = xs.dropLast := by
  unfold cutM
  simp only [HT.sIx_none, List.drop_zero, Nat.sub_zero, HT.sIx]
  rw [if_pos (by omega), List.dropLast_eq_take]
  congr 1; omega
def cellR (n : Nat) (x : Option MO) : Option (Nat × List MV) := match x with
  | some (.lst xs) => some (n, xs)
  | _ => none
theorem cellR_e : cellR n (some (.lst xs)) = some (n, xs) := rfl
theorem dropl {x : MV} : (xs ++ [x]).dropLast = xs := List.dropLast_concat
theorem n0 : ((([] : List MV).length : Nat) : Int) = 0 := rfl
theorem cellOf_r : cellOf h (.ref n) = cellR n h[n]? := rfl
def appK (o : Option (Nat × List MV)) (y : MV) (h : MH) : Out MV := match o with
  | some (i, ys) => if ys.length < sizeLine then .ok .non (h.set i (.lst (ys ++ [y]))) else .bad
  | none => .bad
theorem fApp_e {y : MV} : fApp v [y] h = appK (cellOf h v) y h := by unfold fApp appK; cases cellOf h v with
  | none => rfl
  | some p => rfl
theorem appK_e {y : MV} (hl : xs.length < sizeLine) : appK (some (n, xs)) y h = .ok .non (h.set n (.lst (xs ++ [y]))) := if_pos hl
def popK (o : Option (Nat × List MV)) (h : MH) : Out MV := match o with
  | some (i, ys) => (match ys[ys.length - 1]? with
    | some y => .ok y (h.set i (.lst ys.dropLast))
    | none => .bad)
  | none => .bad
theorem fPop_e : fPop v [] h = popK (cellOf h v) h := by unfold fPop popK; cases cellOf h v with
  | none => rfl
  | some p => rfl
theorem popK_e {y : MV} : popK (some (n, xs ++ [y])) h = .ok y (h.set n (.lst xs)) := by simp [popK]
def revK (o : Option (Nat × List MV)) (h : MH) : Out MV := match o with
  | some (i, ys) => .ok .non (h.set i (.lst ys.reverse))
  | none => .bad
theorem fRev_e : fRev v [] h = revK (cellOf h v) h := by unfold fRev revK; cases cellOf h v with
  | none => rfl
  | some p => rfl
theorem revK_e : revK (some (n, xs)) h = .ok .non (h.set n (.lst xs.reverse)) := rfl
def extK (o : Option (Nat × List MV)) (ys : List MV) (h : MH) : Out MV := match o with
  | some (i, xs) => if xs.length + ys.length ≤ sizeLine then .ok .non (h.set i (.lst (xs ++ ys))) else .bad
  | none => .bad
theorem fExt_l : fExt v [.lst ys] h = extK (cellOf h v) ys h := by unfold fExt extK; cases cellOf h v with
  | none => rfl
  | some p => rfl
theorem extK_e (hl : xs.length + ys.length ≤ sizeLine) : extK (some (n, xs)) ys h = .ok .non (h.set n (.lst (xs ++ ys))) := if_pos hl
theorem fInt_i : fInt [.int i] h = .ok (.int i) h := rfl
theorem fMin2_e : fMin2 [.int i, .int j] h = .ok (.int (min j i)) h := by
  simp only [fMin2]; congr 2; split <;> omega
theorem fMax2_e : fMax2 [.int i, .int j] h = .ok (.int (max i j)) h := by
  simp only [fMax2]; congr 2; split <;> omega
theorem fList_t : fList [.tup xs] h = .ok (.lst xs) h := rfl
theorem fList_l : fList [.lst xs] h = .ok (.lst xs) h := rfl
def listK (o : Option (List MV)) (h : MH) : Out MV := match o with
  | some xs => .ok (.lst xs) h
  | none => .bad
theorem listK_e : listK (some xs) h = .ok (.lst xs) h := rfl
theorem fList_r : fList [.ref n] h = listK (refL h[n]?) h := by
  simp only [fList, seqOf_r]; unfold listK; cases refL h[n]? <;> rfl
theorem fList_v (e : seqOf h v = some xs) : fList [v] h = .ok (.lst xs) h := by simp only [fList, e]
theorem fListH_t : fListH [.tup xs] h = .ok (.ref h.length) (h ++ [.lst xs]) := rfl
theorem fListH_l : fListH [.lst xs] h = .ok (.ref h.length) (h ++ [.lst xs]) := rfl
theorem fListH_v (e : seqOf h v = some xs) : fListH [v] h = .ok (.ref h.length) (h ++ [.lst xs]) := by simp only [fListH, e]
theorem fTuple_t : fTuple [.tup xs] h = .ok (.tup xs) h := rfl
theorem fTuple_l : fTuple [.lst xs] h = .ok (.tup xs) h := rfl
def tupleK (o : Option (List MV)) (h : MH) : Out MV := match o with
  | some xs => .ok (.tup xs) h
  | none => .bad
theorem tupleK_e : tupleK (some xs) h = .ok (.tup xs) h := rfl
theorem fTuple_r : fTuple [.ref n] h = tupleK (refL h[n]?) h := by
  simp only [fTuple, listOf_r]; unfold tupleK; cases refL h[n]? <;> rfl
theorem fTuple_v (e : seqOf h v = some xs) : fTuple [v] h = .ok (.tup xs) h := by
  cases v with
  | tup => simp only [seqOf, Option.some.injEq] at e; subst e; rfl
  | _ => simp only [seqOf] at e; simp only [fTuple, e]
theorem intsOf_map (ns : List Int) : intsOf (ns.map MV.int) = some ns := by
  induction ns with
  | nil => rfl
  | cons n ns ih => simp [intsOf, ih]
theorem fSum_l {ns : List Int} : fSum [.lst (ns.map MV.int)] h = .ok (.int ns.sum) h := by simp [fSum, Mini.listOf, intsOf_map]
theorem itmOf_t : itmOf h (.tup xs) = some ⟨xs, fun _ => True⟩ := rfl
theorem itmOf_l : itmOf h (.lst xs) = some ⟨xs, fun _ => True⟩ := rfl
theorem itmOf_f : itmOf h (.fro xs) = some ⟨xs, fun _ => True⟩ := rfl
def itmR (n : Nat) (x : Option MO) : Option Itm := match x with
  | some (.lst xs) => some ⟨xs, fun h' => h'[n]? = some (.lst xs)⟩
  | _ => none
theorem itmR_e : itmR n (some (.lst xs)) = some ⟨xs, fun h' => h'[n]? = some (.lst xs)⟩ := rfl
theorem itmOf_r : itmOf h (.ref n) = itmR n h[n]? := rfl
theorem insOf_o {c : Nat} {ns : List Str} : insOf h (.obj c ns xs) = some (c, ns, xs) := rfl
def insR (x : Option MO) : Option (Nat × List Str × List MV) := match x with
  | some (.ins c ns xs) => some (c, ns, xs)
  | _ => none
theorem insR_e {c : Nat} {ns : List Str} : insR (some (.ins c ns xs)) = some (c, ns, xs) := rfl
theorem insOf_r : insOf h (.ref n) = insR h[n]? := rfl
theorem ixN_n {m : Nat} (hl : n < m) : ixN m ((n : Nat) : Int) = some n := by
  unfold ixN; rw [if_pos (by omega), if_pos (by omega)]; simp
def sxK (o : Option (Nat × List MV)) (k y : MV) (ρ : En) (h : MH) : SO := match o, k with
  | some (c, xs), .int j => (match ixN xs.length j with
    | some n => .nx ρ (h.set c (.lst (xs.set n y)))
    | none => .bad)
  | _, _ => .bad
theorem sxF_e {k y : MV} {ρ : En} : sxF v k y ρ h = sxK (cellOf h v) k y ρ h := by unfold sxF sxK; cases cellOf h v with
  | none => rfl
  | some p => cases k <;> rfl
theorem sxK_e {y : MV} {ρ : En} (hl : k < xs.length) : sxK (some (n, xs)) (.int ((k : Nat) : Int)) y ρ h = .nx ρ (h.set n (.lst (xs.set k y))) := by
  simp only [sxK, ixN_n hl]
theorem tyOf_r : tyOf h (.ref n) = (match h[n]? with | some (.lst _) => some .lst | _ => none) := rfl
end

/-! ### what a def returns -/
def soOut (o : SO) : Out MV := match o with
  | .nx _ h' => .ok .non h'
  | .rt v h' => .ok v h'
  | .er c _ h' => .er c h'
  | _ => .bad
theorem mDef_e {n ar : Nat} {body : MS} {ms : List MV} {h : MH} (hl : ms.length = ar) : mDef n ar body ms h = soOut (body (ms.map some ++ List.replicate (n - ar) none) h) := by
  unfold mDef soOut; rw [if_pos hl]; try (cases body (ms.map some ++ List.replicate (n - ar) none) h <;> rfl)
theorem mDef_1 {n : Nat} {body : MS} {h : MH} {x0 : MV} : mDef (n + 1) 1 body [x0] h = soOut (body (some x0 :: List.replicate n none) h) := by
  rw [mDef_e (by rfl), Nat.add_sub_cancel]; rfl
theorem mDef_2 {n : Nat} {body : MS} {h : MH} {x0 x1 : MV} : mDef (n + 2) 2 body [x0, x1] h = soOut (body (some x0 :: some x1 :: List.replicate n none) h) := by
  rw [mDef_e (by rfl), Nat.add_sub_cancel]; rfl
theorem mDef_3 {n : Nat} {body : MS} {h : MH} {x0 x1 x2 : MV} : mDef (n + 3) 3 body [x0, x1, x2] h = soOut (body (some x0 :: some x1 :: some x2 :: List.replicate n none) h) := by
  rw [mDef_e (by rfl), Nat.add_sub_cancel]; rfl
theorem mDef_4 {n : Nat} {body : MS} {h : MH} {x0 x1 x2 x3 : MV} : mDef (n + 4) 4 body [x0, x1, x2, x3] h = soOut (body (some x0 :: some x1 :: some x2 :: some x3 :: List.replicate n none) h) := by
  rw [mDef_e (by rfl), Nat.add_sub_cancel]; rfl
theorem mDef_5 {n : Nat} {body : MS} {h : MH} {x0 x1 x2 x3 x4 : MV} : mDef (n + 5) 5 body [x0, x1, x2, x3, x4] h = soOut (body (some x0 :: some x1 :: some x2 :: some x3 :: some x4 :: List.replicate n none) h) := by
  rw [mDef_e (by rfl), Nat.add_sub_cancel]; rfl
theorem mDef_6 {n : Nat} {body : MS} {h : MH} {x0 x1 x2 x3 x4 x5 : MV} : mDef (n + 6) 6 body [x0, x1, x2, x3, x4, x5] h = soOut (body (some x0 :: some x1 :: some x2 :: some x3 :: some x4 :: some x5 :: List.replicate n none) h) := by
  rw [mDef_e (by rfl), Nat.add_sub_cancel]; rfl
theorem mDef_7 {n : Nat} {body : MS} {h : MH} {x0 x1 x2 x3 x4 x5 x6 : MV} : mDef (n + 7) 7 body [x0, x1, x2, x3, x4, x5, x6] h = soOut (body (some x0 :: some x1 :: some x2 :: some x3 :: some x4 :: some x5 :: some x6 :: List.replicate n none) h) := by
  rw [mDef_e (by rfl), Nat.add_sub_cancel]; rfl
theorem mDef_8 {n : Nat} {body : MS} {h : MH} {x0 x1 x2 x3 x4 x5 x6 x7 : MV} : mDef (n + 8) 8 body [x0, x1, x2, x3, x4, x5, x6, x7] h = soOut (body (some x0 :: some x1 :: some x2 :: some x3 :: some x4 :: some x5 :: some x6 :: some x7 :: List.replicate n none) h) := by
  rw [mDef_e (by rfl), Nat.add_sub_cancel]; rfl
theorem rep_s {α : Type} {n : Nat} {x : α} : List.replicate (n + 1) x = x :: List.replicate n x := rfl
theorem rep_z {α : Type} {x : α} : List.replicate 0 x = [] := rfl
theorem out_nx {ρ : En} {h : MH} : soOut (.nx ρ h) = .ok .non h := rfl
theorem out_rt {v : MV} {h : MH} : soOut (.rt v h) = .ok v h := rfl
theorem out_er {c : Nat} {ρ : En} {h : MH} : soOut (.er c ρ h) = .er c h := rfl

/-- a value without a cell of the heap, read with little -/
def Fz (n : Nat) (v : MV) : Prop := ∀ m, n ≤ m → ∀ h, freeze m h v = some (v, h)
theorem fzL {n : Nat} : ∀ {xs : List MV} {m : Nat} {h : MH}, (∀ x ∈ xs, Fz n x) → n + xs.length < m → freezeL m h xs = some (xs, h)
  | [], m, h, _, hm => by
    obtain ⟨k, rfl⟩ : ∃ k, m = k + 1 := ⟨m - 1, by omega⟩
    simp only [freezeL]
  | x :: xs, m, h, hx, hm => by
    obtain ⟨k, rfl⟩ : ∃ k, m = k + 1 := ⟨m - 1, by omega⟩
    simp only [List.length_cons] at hm
    simp only [freezeL, hx x (by simp) k (by omega) h, Option.bind_some, fzL (fun y hy => hx y (by simp [hy])) (show n + xs.length < k by omega), Option.map_some]
theorem fz_lst {n m : Nat} {xs : List MV} (hx : ∀ x ∈ xs, Fz n x) (hm : n + xs.length + 2 ≤ m) : Fz m (.lst xs) := fun k hk h => by
  obtain ⟨k, rfl⟩ : ∃ j, k = j + 1 := ⟨k - 1, by omega⟩
  simp only [freeze, fzL hx (show n + xs.length < k by omega), Option.map_some]
theorem fz_tup {n m : Nat} {xs : List MV} (hx : ∀ x ∈ xs, Fz n x) (hm : n + xs.length + 2 ≤ m) : Fz m (.tup xs) := fun k hk h => by
  obtain ⟨k, rfl⟩ : ∃ j, k = j + 1 := ⟨k - 1, by omega⟩
  simp only [freeze, fzL hx (show n + xs.length < k by omega), Option.map_some]
theorem fz_at {n : Nat} {v : MV} (hn : 0 < n) (hv : ∀ h k, freeze (k + 1) h v = some (v, h)) : Fz n v := fun k hk h => by
  obtain ⟨k, rfl⟩ : ∃ j, k = j + 1 := ⟨k - 1, by omega⟩
  exact hv h k
theorem fz_int {n : Nat} {i : Int} : Fz (n + 1) (.int i) := fz_at (by omega) fun _ _ => by simp only [freeze]
theorem fz_bl {n : Nat} {i : Bool} : Fz (n + 1) (.bl i) := fz_at (by omega) fun _ _ => by simp only [freeze]
theorem fz_non {n : Nat} : Fz (n + 1) .non := fz_at (by omega) fun _ _ => by simp only [freeze]
theorem fz_str {n : Nat} {s : Str} : Fz (n + 1) (.str s) := fz_at (by omega) fun _ _ => by simp only [freeze]
theorem fz_obj {n c : Nat} {ns : List Str} {xs : List MV} : Fz (n + 1) (.obj c ns xs) := fz_at (by omega) fun _ _ => by simp only [freeze]
theorem fz_gd : ∀ {n : Nat} {v : MV}, gd n v → Fz (n * 1002) v
  | 0, _, g => g.elim
  | n + 1, v, g => by
    cases v with
    | non => exact fz_at (by omega) fun _ _ => by simp only [freeze]
    | int => exact fz_at (by omega) fun _ _ => by simp only [freeze]
    | str s => exact fz_at (by omega) fun _ _ => by simp only [freeze]
    | tup xs => exact fz_tup (n := n * 1002) (fun x hx => fz_gd (g.2 x hx)) (by have := g.1; omega)
    | lst xs => exact fz_lst (n := n * 1002) (fun x hx => fz_gd (g.2 x hx)) (by have := g.1; omega)
    | _ => exact g.elim
theorem lts_of {n : Nat} : ∀ {xs : List MV}, (∀ x ∈ xs, MV.lt n x) → MV.lts n xs
  | [], _ => trivial
  | x :: xs, h => ⟨h x (by simp), lts_of fun y hy => h y (by simp [hy])⟩
theorem lt_gd {m : Nat} : ∀ {n : Nat} {v : MV}, gd n v → v.lt m
  | 0, _, g => g.elim
  | n + 1, v, g => by
    cases v with
    | non => trivial
    | int => trivial
    | str s => trivial
    | tup xs => simp only [MV.lt]; exact lts_of fun x hx => lt_gd (g.2 x hx)
    | lst xs => simp only [MV.lt]; exact lts_of fun x hx => lt_gd (g.2 x hx)
    | _ => exact g.elim
/-- what a frozen, cut def may return as it is -/
structure Rv (v : MV) : Prop where
  fz : Fz 900000 v
  lt : ∀ n, v.lt n
theorem Rv.gd {v : MV} (g : gd 64 v) : Rv v := ⟨fun m hm => fz_gd g m (by omega), fun _ => lt_gd g⟩
theorem Rv.gdn {n : Nat} {v : MV} (hn : n ≤ 800) (g : PM.gd n v) : Rv v := ⟨fun m hm => fz_gd g m (by omega), fun _ => lt_gd g⟩
theorem Rv.bl {b : Bool} : Rv (.bl b) := ⟨fz_bl, fun _ => trivial⟩
theorem Rv.int {b : Int} : Rv (.int b) := ⟨fz_int, fun _ => trivial⟩
theorem Rv.non : Rv .non := ⟨fz_non, fun _ => trivial⟩
theorem Rv.obj {c : Nat} {ns : List Str} {xs : List MV} (h : ∀ x ∈ xs, Rv x) : Rv (.obj c ns xs) := ⟨fz_obj, fun n => by simp only [MV.lt]; exact lts_of fun x hx => (h x hx).lt n⟩
theorem Rv.tup {xs : List MV} (h : ∀ x ∈ xs, Fz 800000 x) (h2 : ∀ n, ∀ x ∈ xs, x.lt n) (hl : xs.length ≤ 9000) : Rv (.tup xs) := ⟨fz_tup h (by omega), fun n => by simp only [MV.lt]; exact lts_of (h2 n)⟩
theorem Rv.lst {xs : List MV} (h : ∀ x ∈ xs, Fz 800000 x) (h2 : ∀ n, ∀ x ∈ xs, x.lt n) (hl : xs.length ≤ 9000) : Rv (.lst xs) := ⟨fz_lst h (by omega), fun n => by simp only [MV.lt]; exact lts_of (h2 n)⟩
theorem tidy_app {h l : MH} : Tidy h (h ++ l) := fun i hi => .inl (by rw [List.getElem?_append_left hi])
theorem tidy_refl {h : MH} : Tidy h h := fun i hi => .inl rfl
section
variable {n ar c k : Nat} {body : MS} {ms : List MV} {h h1 h2 l : MH} {v v' : MV} {xs : List MV}
theorem cf (hb : mDef n ar body ms h = .ok v h1) (hf : freeze 1000000 h1 v = some (v', h2)) (lt : v'.lt h.length) (td : Tidy h h2) : cutF (frzF (mDef n ar body)) ms h = .ok v' (h2.take h.length) := by
  simp only [cutF, frzF, hb, Out.frz, Out.bind, hf, Out.cut]
  rw [if_pos ⟨lt, td⟩]
theorem cf_ok (hb : mDef n ar body ms h = .ok v (h ++ l)) (F : Rv v) : cutF (frzF (mDef n ar body)) ms h = .ok v h := by
  rw [cf hb (F.fz _ (by omega) _) (F.lt _) tidy_app]; simp
theorem cf_ok0 (hb : mDef n ar body ms h = .ok v h) (F : Rv v) : cutF (frzF (mDef n ar body)) ms h = .ok v h := cf_ok (l := []) (by rw [hb]; simp) F
theorem cf_er (hb : mDef n ar body ms h = .er c (h ++ l)) : cutF (frzF (mDef n ar body)) ms h = .er c h := by
  simp only [cutF, frzF, hb, Out.frz, Out.bind, Out.cut]
  rw [if_pos tidy_app]; simp
theorem cf_er0 (hb : mDef n ar body ms h = .er c h) : cutF (frzF (mDef n ar body)) ms h = .er c h := cf_er (l := []) (by rw [hb]; simp)
/-- a list of the def's own is returned: its items are data -/
theorem frz_ref {i : Nat} (e : h1[i]? = some (.lst xs)) (hx : ∀ x ∈ xs, Fz 800000 x) (hl : xs.length ≤ 9000) : freeze 1000000 h1 (.ref i) = some (.lst xs, h1.set i .gone) := by
  show freeze (999999 + 1) h1 (.ref i) = _
  simp only [freeze, e]
  rw [fzL hx (by omega)]; rfl
theorem cf_ref (hb : mDef n ar body ms h = .ok (.ref (h.length + k)) (h ++ l)) (e : l[k]? = some (.lst xs)) (F : ∀ x ∈ xs, Fz 800000 x ∧ ∀ n, x.lt n) (hl : xs.length ≤ 9000) : cutF (frzF (mDef n ar body)) ms h = .ok (.lst xs) h := by
  rw [cf hb (frz_ref (xs := xs) (by rw [List.getElem?_append_right (by omega)]; simpa using e) (fun x hx => (F x hx).1) hl)]
  · simp [List.set_append_right]
  · simp only [MV.lt]; exact lts_of fun x hx => (F x hx).2 _
  · rw [List.set_append_right _ _ (by omega)]; exact tidy_app
end
/-- the draws stand in the first cell -/
def D (ds : List Int) : MO := .lst (ds.map MV.int)
theorem D_lt {ds : List Int} {n : Nat} : (D ds).lt n := by
  simp only [D, MO.lt]; exact lts_of fun x hx => by
    obtain ⟨i, _, rfl⟩ := List.mem_map.mp hx; trivial
theorem tidyD {ds ds' : List Int} {hs l : MH} : Tidy (D ds :: hs) (D ds' :: (hs ++ l)) := fun i hi => by
  cases i with
  | zero => exact .inr ⟨_, rfl, D_lt⟩
  | succ i => exact .inl (by simp only [gs]; rw [List.getElem?_append_left (by simpa using hi)])
section
variable {n ar c k : Nat} {body : MS} {ms : List MV} {hs l : MH} {ds ds' : List Int} {v v' : MV} {xs : List MV}
theorem cf_okD (hb : mDef n ar body ms (D ds :: hs) = .ok v (D ds' :: (hs ++ l))) (F : Rv v) : cutF (frzF (mDef n ar body)) ms (D ds :: hs) = .ok v (D ds' :: hs) := by
  rw [cf hb (F.fz _ (by omega) _) (F.lt _) tidyD]; simp
theorem cf_okD0 (hb : mDef n ar body ms (D ds :: hs) = .ok v (D ds' :: hs)) (F : Rv v) : cutF (frzF (mDef n ar body)) ms (D ds :: hs) = .ok v (D ds' :: hs) := cf_okD (l := []) (by rw [hb]; simp) F
theorem cf_refD (hb : mDef n ar body ms (D ds :: hs) = .ok (.ref (hs.length + 1 + k)) (D ds' :: (hs ++ l))) (e : l[k]? = some (.lst xs)) (F : ∀ x ∈ xs, Fz 800000 x ∧ ∀ n, x.lt n) (hl : xs.length ≤ 9000) : cutF (frzF (mDef n ar body)) ms (D ds :: hs) = .ok (.lst xs) (D ds' :: hs) := by
  rw [cf hb (frz_ref (xs := xs) (by rw [show hs.length + 1 + k = (hs.length + k) + 1 by omega, gs, List.getElem?_append_right (by omega)]; simpa using e) (fun x hx => (F x hx).1) hl)]
  · rw [show hs.length + 1 + k = (hs.length + k) + 1 by omega, ss, List.set_append_right _ _ (by omega)]; simp
  · simp only [MV.lt]; exact lts_of fun x hx => (F x hx).2 _
  · rw [show hs.length + 1 + k = (hs.length + k) + 1 by omega, ss, List.set_append_right _ _ (by omega)]; exact tidyD
end
/-- the same for a list of data -/
theorem F_gd {n : Nat} (hn : n ≤ 700) {xs : List MV} (g : ∀ x ∈ xs, gd n x) : ∀ x ∈ xs, Fz 800000 x ∧ ∀ n, x.lt n := fun x hx => ⟨fun m hm => fz_gd (g x hx) m (by omega), fun _ => lt_gd (g x hx)⟩

/-! ### loops -/
section
variable {β : Type} {enc : β → MV} {chk : MH → Prop} {t : Tg} {body : MS}
/-- a for over the items of a list, by what holds ahead of each round, with what is left -/
theorem for_inv (enc : β → MV) (I : List β → En → MH → Prop) (hc : ∀ xs ρ h, I xs ρ h → chk h)
    (hs : ∀ x xs ρ h, I (x :: xs) ρ h → ∃ ρ1, t.set (enc x) ρ = some ρ1 ∧ ∃ ρ' h', (body ρ1 h = .nx ρ' h' ∨ body ρ1 h = .ct ρ' h') ∧ I xs ρ' h') :
    ∀ (xs : List β) (ρ : En) (h : MH), I xs ρ h → ∃ ρ' h', forLoop chk t body (xs.map enc) ρ h = .nx ρ' h' ∧ I [] ρ' h'
  | [], ρ, h, i => ⟨ρ, h, by simp only [List.map_nil, forLoop]; exact if_pos (hc _ _ _ i), i⟩
  | x :: xs, ρ, h, i => by
    obtain ⟨ρ1, e1, ρ', h', e2, i'⟩ := hs x xs ρ h i
    obtain ⟨ρ2, h2, e3, i2⟩ := for_inv enc I hc hs xs ρ' h' i'
    refine ⟨ρ2, h2, ?_, i2⟩
    simp only [List.map_cons, forLoop]
    rw [if_pos (hc _ _ _ i), e1]
    rcases e2 with e2 | e2 <;> simp only [e2, e3]
/-- the same where a round may end the loop -/
theorem for_ret (enc : β → MV) (I : List β → En → MH → Prop) (R : SO → Prop) (hc : ∀ xs ρ h, I xs ρ h → chk h)
    (hs : ∀ x xs ρ h, I (x :: xs) ρ h → ∃ ρ1, t.set (enc x) ρ = some ρ1 ∧ ((∃ ρ' h', (body ρ1 h = .nx ρ' h' ∨ body ρ1 h = .ct ρ' h') ∧ I xs ρ' h') ∨ (R (body ρ1 h) ∧ (∃ v h', body ρ1 h = .rt v h') ∨ R (body ρ1 h) ∧ ∃ c ρ' h', body ρ1 h = .er c ρ' h'))) :
    ∀ (xs : List β) (ρ : En) (h : MH), I xs ρ h → (∃ ρ' h', forLoop chk t body (xs.map enc) ρ h = .nx ρ' h' ∧ I [] ρ' h') ∨ R (forLoop chk t body (xs.map enc) ρ h)
  | [], ρ, h, i => .inl ⟨ρ, h, by simp only [List.map_nil, forLoop]; exact if_pos (hc _ _ _ i), i⟩
  | x :: xs, ρ, h, i => by
    obtain ⟨ρ1, e1, H⟩ := hs x xs ρ h i
    rcases H with ⟨ρ', h', e2, i'⟩ | ⟨r, v, h', e2⟩ | ⟨r, c, ρ', h', e2⟩
    · have K := for_ret enc I R hc hs xs ρ' h' i'
      have e : forLoop chk t body ((x :: xs).map enc) ρ h = forLoop chk t body (xs.map enc) ρ' h' := by
        simp only [List.map_cons, forLoop]
        rw [if_pos (hc _ _ _ i), e1]
        rcases e2 with e2 | e2 <;> simp only [e2]
      rw [e]; exact K
    · refine .inr ?_
      simp only [List.map_cons, forLoop]
      rw [if_pos (hc _ _ _ i), e1]
      simp only [e2] at r ⊢; exact r
    · refine .inr ?_
      simp only [List.map_cons, forLoop]
      rw [if_pos (hc _ _ _ i), e1]
      simp only [e2] at r ⊢; exact r
theorem while_inv {c : MT} {body : MS} (I : Nat → En → MH → Prop)
    (hs : ∀ n ρ h, I n ρ h → ∃ b h', c ρ h = .ok b h' ∧ (b = false → I 0 ρ h') ∧ (b = true → ∃ m, m < n ∧ ∃ ρ' h2, body ρ h' = .nx ρ' h2 ∧ I m ρ' h2)) :
    ∀ (f n : Nat) (ρ : En) (h : MH), n < f → I n ρ h → ∃ ρ' h', whileLoop c body f ρ h = .nx ρ' h' ∧ ∃ h0, c ρ' h0 = .ok false h' ∧ I 0 ρ' h'
  | 0, _, _, _, hf, _ => by omega
  | f + 1, n, ρ, h, hf, i => by
    obtain ⟨b, h', e1, k0, k1⟩ := hs n ρ h i
    cases b with
    | false => exact ⟨ρ, h', by simp only [whileLoop, e1, Out.then]; rfl, h, e1, k0 rfl⟩
    | true =>
      obtain ⟨m, hm, ρ', h2, e2, i2⟩ := k1 rfl
      obtain ⟨ρ3, h3, e3, r⟩ := while_inv I hs f m ρ' h2 (by omega) i2
      exact ⟨ρ3, h3, by simp only [whileLoop, e1, Out.then, if_true, e2, e3], r⟩
/-- a comprehension whose items are told one by one, nothing written -/
theorem comp_map {cond : MT} {elt : ME} {ρ : En} {h : MH} (enc : β → MV) (f : β → MV) (hc : chk h) : ∀ (xs : List β) (acc : List MV), (∀ x ∈ xs, ∃ ρ2, t.set (enc x) ρ = some ρ2 ∧ cond ρ2 h = .ok true h ∧ elt ρ2 h = .ok (f x) h) → acc.length + xs.length ≤ sizeLine →
    compLoop chk t cond elt ρ (xs.map enc) acc h = .ok (acc ++ xs.map f) h
  | [], acc, _, _ => by simp only [List.map_nil, compLoop, List.append_nil]; exact if_pos hc
  | x :: xs, acc, hx, hl => by
    obtain ⟨ρ2, e1, e2, e3⟩ := hx x (by simp)
    simp only [List.length_cons] at hl
    simp only [List.map_cons, compLoop]
    rw [if_pos hc, e1]
    simp only [e2, e3, Out.hard, Out.bind, if_true]
    rw [if_pos (by omega), comp_map enc f hc xs (acc ++ [f x]) (fun y hy => hx y (by simp [hy])) (by simp; omega)]
    simp
/-- with a condition -/
theorem comp_filter {cond : MT} {elt : ME} {ρ : En} {h : MH} (enc : β → MV) (p : β → Bool) (f : β → MV) (hc : chk h) : ∀ (xs : List β) (acc : List MV), (∀ x ∈ xs, ∃ ρ2, t.set (enc x) ρ = some ρ2 ∧ cond ρ2 h = .ok (p x) h ∧ (p x = true → elt ρ2 h = .ok (f x) h)) → acc.length + xs.length ≤ sizeLine →
    compLoop chk t cond elt ρ (xs.map enc) acc h = .ok (acc ++ (xs.filter p).map f) h
  | [], acc, _, _ => by simp only [List.map_nil, compLoop, List.filter_nil, List.append_nil]; exact if_pos hc
  | x :: xs, acc, hx, hl => by
    obtain ⟨ρ2, e1, e2, e3⟩ := hx x (by simp)
    simp only [List.length_cons] at hl
    simp only [List.map_cons, compLoop]
    rw [if_pos hc, e1]
    cases hp : p x with
    | true =>
      simp only [e2, hp, e3 hp, Out.hard, Out.bind, if_true]
      rw [if_pos (by omega), comp_filter enc p f hc xs (acc ++ [f x]) (fun y hy => hx y (by simp [hy])) (by simp; omega)]
      simp [hp]
    | false =>
      simp only [e2, hp, Out.hard, Out.bind, Bool.false_eq_true, if_false]
      rw [comp_filter enc p f hc xs acc (fun y hy => hx y (by simp [hy])) (by omega)]
      simp [hp]
/-- a comprehension that draws: what holds of the items told and of the heap -/
theorem comp_inv {cond : MT} {elt : ME} {ρ : En} (enc : β → MV) (I : List β → List MV → MH → Prop) (hc : ∀ xs acc h, I xs acc h → chk h)
    (hs : ∀ x xs acc h, I (x :: xs) acc h → ∃ ρ2, t.set (enc x) ρ = some ρ2 ∧ cond ρ2 h = .ok true h ∧ ∃ v h', elt ρ2 h = .ok v h' ∧ acc.length < sizeLine ∧ I xs (acc ++ [v]) h') :
    ∀ (xs : List β) (acc : List MV) (h : MH), I xs acc h → ∃ acc' h', compLoop chk t cond elt ρ (xs.map enc) acc h = .ok acc' h' ∧ I [] acc' h'
  | [], acc, h, i => ⟨acc, h, by simp only [List.map_nil, compLoop]; exact if_pos (hc _ _ _ i), i⟩
  | x :: xs, acc, h, i => by
    obtain ⟨ρ2, e1, e2, v, h', e3, hl, i'⟩ := hs x xs acc h i
    obtain ⟨acc', h2, e4, i2⟩ := comp_inv enc I hc hs xs (acc ++ [v]) h' i'
    refine ⟨acc', h2, ?_, i2⟩
    simp only [List.map_cons, compLoop]
    rw [if_pos (hc _ _ _ i), e1]
    simp only [e2, e3, Out.hard, Out.bind, if_true]
    rw [if_pos hl, e4]
end
theorem rangeM_e (n : Nat) : rangeM 0 n = (List.range n).map fun k : Nat => MV.int ((k : Nat) : Int) := by simp [rangeM]
theorem rangeM_s (m n : Nat) : rangeM ((m : Nat) : Int) n = (List.range' m n).map fun k : Nat => MV.int ((k : Nat) : Int) := by
  rw [List.range'_eq_map_range, List.map_map]
  unfold rangeM
  congr 1
end PM
end

section
set_option Elab.async false
set_option linter.all false
set_option maxRecDepth 100000
/-! Rules for loops, as they stand behind what simp leaves. -/
namespace PM
open PySem L2 Mini
theorem dec_t {i : Decidable True} : @decide True i = true := by cases i <;> first | rfl | (rename_i q; exact absurd trivial q)
theorem dec_f {i : Decidable False} : @decide False i = false := by cases i <;> first | rfl | (rename_i q; exact q.elim)
theorem not_t : (!true) = false := rfl
theorem not_f : (!false) = true := rfl
def atK (o : Option En) (body : MS) (h : MH) : SO := match o with
  | some ρ => body ρ h
  | none => .bad
theorem atK_e {ρ : En} {body : MS} {h : MH} : atK (some ρ) body h = body ρ h := rfl
def bodyAt (t : Tg) (body : MS) (v : MV) (ρ : En) (h : MH) : SO := atK (t.set v ρ) body h
theorem bodyAt_e {t : Tg} {body : MS} {v : MV} {ρ : En} {h : MH} : bodyAt t body v ρ h = atK (t.set v ρ) body h := rfl
/-- how a round ends: on (N), out (B), away (R) -/
def Lp (o : SO) (N B : En → MH → Prop) (R : SO → Prop) : Prop := match o with
  | .nx ρ h => N ρ h
  | .ct ρ h => N ρ h
  | .bk ρ h => B ρ h
  | .rt v h => R (.rt v h)
  | .er c ρ h => R (.er c ρ h)
  | .bad => False
section
variable {N B : En → MH → Prop} {R : SO → Prop} {ρ : En} {h : MH} {v : MV} {c : Nat}
theorem Lp_nx : Lp (.nx ρ h) N B R = N ρ h := rfl
theorem Lp_ct : Lp (.ct ρ h) N B R = N ρ h := rfl
theorem Lp_bk : Lp (.bk ρ h) N B R = B ρ h := rfl
theorem Lp_rt : Lp (.rt v h) N B R = R (.rt v h) := rfl
theorem Lp_er : Lp (.er c ρ h) N B R = R (.er c ρ h) := rfl
end
def OkP {α : Type} (o : Out α) (P : α → MH → Prop) : Prop := match o with
  | .ok a h => P a h
  | _ => False
theorem OkP_e {α : Type} {P : α → MH → Prop} {a : α} {h : MH} : OkP (.ok a h) P = P a h := rfl
section
variable {β : Type} {chk : MH → Prop} {t : Tg} {body : MS} {o : SO} {ρ : En} {h : MH}
theorem for_full (enc : β → MV) (I : List β → En → MH → Prop) (B : En → MH → Prop) (R : SO → Prop) (hc : ∀ xs ρ h, I xs ρ h → chk h)
    (hs : ∀ x xs ρ h, I (x :: xs) ρ h → Lp (bodyAt t body (enc x) ρ h) (I xs) B R) : ∀ (xs : List β) (ρ : En) (h : MH), I xs ρ h →
    (∃ ρ' h', forLoop chk t body (xs.map enc) ρ h = .nx ρ' h' ∧ (I [] ρ' h' ∨ B ρ' h')) ∨ R (forLoop chk t body (xs.map enc) ρ h)
  | [], ρ, h, i => .inl ⟨ρ, h, by simp only [List.map_nil, forLoop]; exact if_pos (hc _ _ _ i), .inl i⟩
  | x :: xs, ρ, h, i => by
    have H := hs x xs ρ h i
    unfold bodyAt at H
    cases e1 : t.set (enc x) ρ with
    | none => rw [e1] at H; exact H.elim
    | some ρ1 =>
      rw [e1, atK_e] at H
      have e : forLoop chk t body ((x :: xs).map enc) ρ h = match body ρ1 h with
        | .nx ρ' h' => forLoop chk t body (xs.map enc) ρ' h'
        | .ct ρ' h' => forLoop chk t body (xs.map enc) ρ' h'
        | .bk ρ' h' => .nx ρ' h'
        | o => o := by
        simp only [List.map_cons, forLoop]
        rw [if_pos (hc _ _ _ i)]
        simp only [e1]
        try (cases hb : body ρ1 h <;> simp only [hb])
      rw [e]
      cases e2 : body ρ1 h with
      | nx ρ' h' => rw [e2] at H; exact for_full enc I B R hc hs xs ρ' h' H
      | ct ρ' h' => rw [e2] at H; exact for_full enc I B R hc hs xs ρ' h' H
      | bk ρ' h' => rw [e2] at H; exact .inl ⟨ρ', h', rfl, .inr H⟩
      | rt v h' => rw [e2] at H; exact .inr H
      | er c ρ' h' => rw [e2] at H; exact .inr H
      | bad => rw [e2] at H; exact H.elim
/-- a for that goes through -/
theorem for_nx {xs : List β} (enc : β → MV) (I : List β → En → MH → Prop) (hL : forLoop chk t body (xs.map enc) ρ h = o) (i : I xs ρ h) (hc : ∀ xs ρ h, I xs ρ h → chk h)
    (hs : ∀ x xs ρ h, I (x :: xs) ρ h → Lp (bodyAt t body (enc x) ρ h) (I xs) (fun _ _ => False) fun _ => False) : ∃ ρ' h', o = .nx ρ' h' ∧ I [] ρ' h' := by
  rcases for_full enc I (fun _ _ => False) (fun _ => False) hc hs xs ρ h i with ⟨ρ', h', e, k | k⟩ | k
  · exact ⟨ρ', h', hL ▸ e, k⟩
  · exact k.elim
  · exact k.elim
/-- a for that may return or raise -/
theorem for_rt {xs : List β} (enc : β → MV) (I : List β → En → MH → Prop) (R : SO → Prop) (hL : forLoop chk t body (xs.map enc) ρ h = o) (i : I xs ρ h) (hc : ∀ xs ρ h, I xs ρ h → chk h)
    (hs : ∀ x xs ρ h, I (x :: xs) ρ h → Lp (bodyAt t body (enc x) ρ h) (I xs) (fun _ _ => False) R) : (∃ ρ' h', o = .nx ρ' h' ∧ I [] ρ' h') ∨ R o := by
  rcases for_full enc I (fun _ _ => False) R hc hs xs ρ h i with ⟨ρ', h', e, k | k⟩ | k
  · exact .inl ⟨ρ', h', hL ▸ e, k⟩
  · exact k.elim
  · exact .inr (hL ▸ k)
/-- the same over the list as it is -/
theorem for_nx0 {xs : List MV} (I : List MV → En → MH → Prop) (hL : forLoop chk t body xs ρ h = o) (i : I xs ρ h) (hc : ∀ xs ρ h, I xs ρ h → chk h)
    (hs : ∀ x xs ρ h, I (x :: xs) ρ h → Lp (bodyAt t body x ρ h) (I xs) (fun _ _ => False) fun _ => False) : ∃ ρ' h', o = .nx ρ' h' ∧ I [] ρ' h' :=
  for_nx (fun x => x) I (by rw [List.map_id']; exact hL) i hc hs
theorem for_rt0 {xs : List MV} (I : List MV → En → MH → Prop) (R : SO → Prop) (hL : forLoop chk t body xs ρ h = o) (i : I xs ρ h) (hc : ∀ xs ρ h, I xs ρ h → chk h)
    (hs : ∀ x xs ρ h, I (x :: xs) ρ h → Lp (bodyAt t body x ρ h) (I xs) (fun _ _ => False) R) : (∃ ρ' h', o = .nx ρ' h' ∧ I [] ρ' h') ∨ R o :=
  for_rt (fun x => x) I R (by rw [List.map_id']; exact hL) i hc hs
/-- a for over a range: k rounds are done -/
theorem for_rng {n : Nat} (I : Nat → En → MH → Prop) (hL : forLoop chk t body (rangeM 0 n) ρ h = o) (i : I 0 ρ h) (hc : ∀ k ρ h, I k ρ h → chk h)
    (hs : ∀ k ρ h, k < n → I k ρ h → Lp (bodyAt t body (.int ((k : Nat) : Int)) ρ h) (I (k + 1)) (fun _ _ => False) fun _ => False) : ∃ ρ' h', o = .nx ρ' h' ∧ I n ρ' h' := by
  rw [rangeM_e, List.range_eq_range'] at hL
  obtain ⟨ρ', h', e, k1, k2⟩ := for_nx (fun k : Nat => MV.int ((k : Nat) : Int)) (fun l ρ h => ∃ k, k ≤ n ∧ l = List.range' k (n - k) ∧ I k ρ h) hL ⟨0, by omega, by simp, i⟩ (fun _ _ _ ⟨k, _, _, i⟩ => hc k _ _ i) (fun x xs ρ h ⟨k, hk, e, i⟩ => by
      have hl : k < n := by
        rcases Nat.lt_or_ge k n with q | q
        · exact q
        · rw [show n - k = 0 by omega] at e; simp at e
      rw [show n - k = (n - (k + 1)) + 1 by omega, List.range'_succ] at e
      simp only [List.cons.injEq] at e
      obtain ⟨rfl, rfl⟩ := e
      have := hs x ρ h hl i
      unfold Lp at this ⊢
      split <;> rename_i q <;> simp only [q] at this
      · exact ⟨x + 1, by omega, rfl, this⟩
      · exact ⟨x + 1, by omega, rfl, this⟩)
  obtain ⟨hk, e2, i⟩ := k2
  have hn : k1 = n := by
    have := congrArg List.length e2; simp at this; omega
  subst hn
  exact ⟨ρ', h', e, i⟩

theorem for_rngR {n : Nat} (I : Nat → En → MH → Prop) (R : SO → Prop) (hL : forLoop chk t body (rangeM 0 n) ρ h = o) (i : I 0 ρ h) (hc : ∀ k ρ h, I k ρ h → chk h)
    (hs : ∀ k ρ h, k < n → I k ρ h → Lp (bodyAt t body (.int ((k : Nat) : Int)) ρ h) (I (k + 1)) (fun _ _ => False) R) : (∃ ρ' h', o = .nx ρ' h' ∧ I n ρ' h') ∨ R o := by
  rw [rangeM_e, List.range_eq_range'] at hL
  rcases for_rt (fun k : Nat => MV.int ((k : Nat) : Int)) (fun l ρ h => ∃ k, k ≤ n ∧ l = List.range' k (n - k) ∧ I k ρ h) R hL ⟨0, by omega, by simp, i⟩ (fun _ _ _ ⟨k, _, _, i⟩ => hc k _ _ i) (fun x xs ρ h ⟨k, hk, e, i⟩ => by
      have hl : k < n := by
        rcases Nat.lt_or_ge k n with q | q
        · exact q
        · rw [show n - k = 0 by omega] at e; simp at e
      rw [show n - k = (n - (k + 1)) + 1 by omega, List.range'_succ] at e
      simp only [List.cons.injEq] at e
      obtain ⟨rfl, rfl⟩ := e
      have := hs x ρ h hl i
      unfold Lp at this ⊢
      split <;> rename_i q <;> simp only [q] at this
      · exact ⟨x + 1, by omega, rfl, this⟩
      · exact ⟨x + 1, by omega, rfl, this⟩
      · exact this
      · exact this) with ⟨ρ', h', e, k1, k2⟩ | r
  · obtain ⟨hk, e2, i⟩ := k2
    have hn : k1 = n := by
      have := congrArg List.length e2; simp at this; omega
    subst hn
    exact .inl ⟨ρ', h', e, i⟩
  · exact .inr r

/-- a for over a range from a to b -/
theorem for_rng2 {a b : Nat} (I : Nat → En → MH → Prop) (hL : forLoop chk t body (rangeM ((a : Nat) : Int) b) ρ h = o) (i : I a ρ h) (hc : ∀ k ρ h, I k ρ h → chk h)
    (hs : ∀ k ρ h, a ≤ k → k < a + b → I k ρ h → Lp (bodyAt t body (.int ((k : Nat) : Int)) ρ h) (I (k + 1)) (fun _ _ => False) fun _ => False) : ∃ ρ' h', o = .nx ρ' h' ∧ I (a + b) ρ' h' := by
  rw [rangeM_s] at hL
  obtain ⟨ρ', h', e, k1, k2⟩ := for_nx (fun k : Nat => MV.int ((k : Nat) : Int)) (fun l ρ h => ∃ k, a ≤ k ∧ k ≤ a + b ∧ l = List.range' k (a + b - k) ∧ I k ρ h) hL ⟨a, by omega, by omega, by rw [Nat.add_sub_cancel_left], i⟩ (fun _ _ _ ⟨k, _, _, _, i⟩ => hc k _ _ i) (fun x xs ρ h ⟨k, ha, hk, e, i⟩ => by
      have hl : k < a + b := by
        rcases Nat.lt_or_ge k (a + b) with q | q
        · exact q
        · rw [show a + b - k = 0 by omega] at e; simp at e
      rw [show a + b - k = (a + b - (k + 1)) + 1 by omega, List.range'_succ] at e
      simp only [List.cons.injEq] at e
      obtain ⟨rfl, rfl⟩ := e
      have := hs x ρ h ha hl i
      unfold Lp at this ⊢
      split <;> rename_i q <;> simp only [q] at this
      · exact ⟨x + 1, by omega, by omega, rfl, this⟩
      · exact ⟨x + 1, by omega, by omega, rfl, this⟩)
  obtain ⟨ha, hk, e2, i⟩ := k2
  have hn : k1 = a + b := by
    have := congrArg List.length e2; simp at this; omega
  subst hn
  exact ⟨ρ', h', e, i⟩

theorem rangeD_e (n : Nat) : rangeD (((n : Nat) : Int) - 1) n = (List.range n).map fun k : Nat => MV.int (((n - 1 - k : Nat)) : Int) := by
  unfold rangeD
  apply List.map_congr_left
  intro k hk
  have := List.mem_range.mp hk
  congr 1; omega
/-- a for over a range downwards from n - 1 to 0: k are left -/
theorem for_rngD {n : Nat} (I : Nat → En → MH → Prop) (hL : forLoop chk t body (rangeD (((n : Nat) : Int) - 1) n) ρ h = o) (i : I n ρ h) (hc : ∀ k ρ h, I k ρ h → chk h)
    (hs : ∀ k ρ h, k < n → I (k + 1) ρ h → Lp (bodyAt t body (.int ((k : Nat) : Int)) ρ h) (I k) (fun _ _ => False) fun _ => False) : ∃ ρ' h', o = .nx ρ' h' ∧ I 0 ρ' h' := by
  rw [rangeD_e, List.range_eq_range'] at hL
  obtain ⟨ρ', h', e, k1, k2⟩ := for_nx (fun k : Nat => MV.int (((n - 1 - k : Nat)) : Int)) (fun l ρ h => ∃ k, k ≤ n ∧ l = List.range' (n - k) k ∧ I k ρ h) hL ⟨n, by omega, by simp, i⟩ (fun _ _ _ ⟨k, _, _, i⟩ => hc k _ _ i) (fun x xs ρ h ⟨k, hk, e, i⟩ => by
      cases k with
      | zero => simp at e
      | succ k =>
        rw [List.range'_succ] at e
        simp only [List.cons.injEq] at e
        obtain ⟨rfl, rfl⟩ := e
        rw [show n - 1 - (n - (k + 1)) = k by omega]
        have := hs k ρ h (by omega) i
        unfold Lp at this ⊢
        split <;> rename_i q <;> simp only [q] at this
        · exact ⟨k, by omega, by rw [show n - (k + 1) + 1 = n - k by omega], this⟩
        · exact ⟨k, by omega, by rw [show n - (k + 1) + 1 = n - k by omega], this⟩)
  obtain ⟨hk, e2, i⟩ := k2
  have hn : k1 = 0 := by
    have := congrArg List.length e2; simp at this; omega
  subst hn
  exact ⟨ρ', h', e, i⟩

/-- a while: n rounds at most are left -/
theorem while_nx {c : MT} {f : Nat} (I : Nat → En → MH → Prop) (J : En → MH → Prop) {n : Nat} (hL : whileLoop c body f ρ h = o) (hn : n < f) (i : I n ρ h)
    (hs : ∀ n ρ h, I n ρ h → OkP (c ρ h) fun b h' => (b = false → J ρ h') ∧ (b = true → ∃ m, m < n ∧ Lp (body ρ h') (I m) (fun _ _ => False) fun _ => False)) :
    ∃ ρ' h', o = .nx ρ' h' ∧ J ρ' h' := by
  subst hL
  induction f generalizing n ρ h with
  | zero => omega
  | succ f ih =>
    have H := hs n ρ h i
    simp only [whileLoop]
    cases e : c ρ h with
    | er => rw [e] at H; exact H.elim
    | bad => rw [e] at H; exact H.elim
    | ok b h' =>
      rw [e, OkP_e] at H
      simp only [Out.then]
      cases b with
      | false => exact ⟨ρ, h', by simp, H.1 rfl⟩
      | true =>
        obtain ⟨m, hm, L⟩ := H.2 rfl
        simp only [if_true]
        cases e2 : body ρ h' with
        | nx ρ' h2 => rw [e2, Lp_nx] at L; exact ih (n := m) (by omega) L
        | ct ρ' h2 => rw [e2, Lp_ct] at L; exact ih (n := m) (by omega) L
        | bk => rw [e2] at L; exact L.elim
        | rt => rw [e2] at L; exact L.elim
        | er => rw [e2] at L; exact L.elim
        | bad => rw [e2] at L; exact L.elim
end
/-- one item of a comprehension -/
def cmK3 (o : Out MV) : Out (Option MV) := o.hard.bind fun y h2 => .ok (some y) h2
def cmK2 (o : Out Bool) (elt : ME) (ρ : En) : Out (Option MV) := o.hard.bind fun b h1 => if b = true then cmK3 (elt ρ h1) else .ok none h1
def cmK1 (o : Option En) (cond : MT) (elt : ME) (h : MH) : Out (Option MV) := match o with
  | some ρ => cmK2 (cond ρ h) elt ρ
  | none => .bad
def cmpAt (t : Tg) (cond : MT) (elt : ME) (v : MV) (ρ : En) (h : MH) : Out (Option MV) := cmK1 (t.set v ρ) cond elt h
section
variable {t : Tg} {cond : MT} {elt : ME} {v : MV} {ρ : En} {h : MH}
theorem cmpAt_e : cmpAt t cond elt v ρ h = cmK1 (t.set v ρ) cond elt h := rfl
theorem cmK1_e : cmK1 (some ρ) cond elt h = cmK2 (cond ρ h) elt ρ := rfl
theorem cmK2_t : cmK2 (.ok true h) elt ρ = cmK3 (elt ρ h) := rfl
theorem cmK2_f : cmK2 (.ok false h) elt ρ = .ok none h := rfl
theorem cmK3_e : cmK3 (.ok v h) = .ok (some v) h := rfl
variable {β : Type} {chk : MH → Prop}
theorem comp_fm (enc : β → MV) (f : β → Option MV) (hc : chk h) : ∀ (xs : List β) (acc : List MV), (∀ x ∈ xs, cmpAt t cond elt (enc x) ρ h = .ok (f x) h) → acc.length + xs.length ≤ sizeLine →
    compLoop chk t cond elt ρ (xs.map enc) acc h = .ok (acc ++ xs.filterMap f) h
  | [], acc, _, _ => by simp only [List.map_nil, compLoop, List.filterMap_nil, List.append_nil]; exact if_pos hc
  | x :: xs, acc, hx, hl => by
    have H := hx x (by simp)
    simp only [List.length_cons] at hl
    simp only [List.map_cons, compLoop]
    rw [if_pos hc]
    unfold cmpAt at H
    cases e1 : t.set (enc x) ρ with
    | none => rw [e1] at H; cases H
    | some ρ2 =>
      rw [e1, cmK1_e] at H
      simp only
      cases e2 : cond ρ2 h with
      | er => rw [e2] at H; cases H
      | bad => rw [e2] at H; cases H
      | ok b h1 =>
        rw [e2] at H
        simp only [Out.hard, Out.bind]
        cases b with
        | false =>
          rw [cmK2_f] at H
          injection H with q1 q2
          rw [q2, if_neg (by simp), comp_fm enc f hc xs acc (fun y hy => hx y (by simp [hy])) (by omega), List.filterMap_cons, ← q1]
        | true =>
          rw [cmK2_t] at H
          cases e3 : elt ρ2 h1 with
          | er => rw [e3] at H; cases H
          | bad => rw [e3] at H; cases H
          | ok y h2 =>
            rw [e3, cmK3_e] at H
            injection H with q1 q2
            simp only [if_true]
            rw [q2, if_pos (by omega), comp_fm enc f hc xs (acc ++ [y]) (fun y hy => hx y (by simp [hy])) (by simp; omega), List.filterMap_cons, ← q1]
            simp
/-- every item is told -/
theorem comp_all (enc : β → MV) (f : β → MV) (hc : chk h) (xs : List β) (hx : ∀ x ∈ xs, cmpAt t cond elt (enc x) ρ h = .ok (some (f x)) h) (hl : xs.length ≤ sizeLine) :
    compLoop chk t cond elt ρ (xs.map enc) [] h = .ok (xs.map f) h := by
  rw [comp_fm enc (fun x => some (f x)) hc xs [] hx (by simpa using hl)]
  simp
theorem comp_gen (enc : β → MV) (I : List β → List MV → MH → Prop) {o : Out (List MV)} {xs : List β} {acc : List MV} (hL : compLoop chk t cond elt ρ (xs.map enc) acc h = o) (i : I xs acc h) (hc : ∀ xs acc h, I xs acc h → chk h)
    (hs : ∀ x xs acc h, I (x :: xs) acc h → OkP (cmpAt t cond elt (enc x) ρ h) fun v h' => match v with
      | some v => acc.length < sizeLine ∧ I xs (acc ++ [v]) h'
      | none => I xs acc h') : ∃ acc' h', o = .ok acc' h' ∧ I [] acc' h' := by
  subst hL
  induction xs generalizing acc h with
  | nil => exact ⟨acc, h, by simp only [List.map_nil, compLoop]; exact if_pos (hc _ _ _ i), i⟩
  | cons x xs ih =>
    have H := hs x xs acc h i
    simp only [List.map_cons, compLoop]
    rw [if_pos (hc _ _ _ i)]
    unfold cmpAt at H
    cases e1 : t.set (enc x) ρ with
    | none => rw [e1] at H; exact H.elim
    | some ρ2 =>
      rw [e1, cmK1_e] at H
      simp only
      cases e2 : cond ρ2 h with
      | er => rw [e2] at H; exact H.elim
      | bad => rw [e2] at H; exact H.elim
      | ok b h1 =>
        rw [e2] at H
        simp only [Out.hard, Out.bind]
        cases b with
        | false =>
          rw [cmK2_f, OkP_e] at H
          rw [if_neg (by simp)]
          exact ih H
        | true =>
          rw [cmK2_t] at H
          simp only [if_true]
          cases e3 : elt ρ2 h1 with
          | er => rw [e3] at H; exact H.elim
          | bad => rw [e3] at H; exact H.elim
          | ok y h2 =>
            rw [e3, cmK3_e, OkP_e] at H
            simp only
            rw [if_pos H.1]
            exact ih H.2
end
end PM
end

section
set_option Elab.async false
set_option linter.all false
set_option maxRecDepth 100000
/-! All the rules for simp in one. -/
namespace PM
open PySem L2 Mini
theorem EV : (((((((((type_of% @hard_ok) ∧ (type_of% @sq_nx)) ∧ ((type_of% @sq_rt) ∧ ((type_of% @sq_er) ∧ (type_of% @sq_bk)))) ∧ (((type_of% @sq_ct) ∧ ((type_of% @mSeq_e) ∧ (type_of% @mNext_e))) ∧ ((type_of% @mBreak_e) ∧ ((type_of% @mCont_e) ∧ (type_of% @mRetN_e))))) ∧ ((((type_of% @mRaise_e) ∧ (type_of% @mC_e)) ∧ ((type_of% @mYes_e) ∧ ((type_of% @mNil_e) ∧ (type_of% @mNoPart_e)))) ∧ (((type_of% @vr_e) ∧ ((type_of% @mVar_e) ∧ (type_of% @asgT_e))) ∧ ((type_of% @tset_n) ∧ ((type_of% @tset_t) ∧ (type_of% @tsets_n)))))) ∧ (((((type_of% @tsets_c) ∧ (type_of% @tsetsB_e)) ∧ ((type_of% @tsets_t) ∧ ((type_of% @dropS_e) ∧ (type_of% @dropS_x)))) ∧ (((type_of% @mDrop_e) ∧ ((type_of% @retS_e) ∧ (type_of% @retS_x))) ∧ ((type_of% @mRet_e) ∧ ((type_of% @asgS_e) ∧ (type_of% @asgS_x))))) ∧ ((((type_of% @mAsg_n) ∧ ((type_of% @asgU_e) ∧ (type_of% @asgU_x))) ∧ ((type_of% @mAsg_t) ∧ ((type_of% @iteS_x) ∧ (type_of% @iteS_t)))) ∧ (((type_of% @iteS_f) ∧ ((type_of% @mIte_e) ∧ (type_of% @ifO_x))) ∧ ((type_of% @ifO_t) ∧ ((type_of% @ifO_f) ∧ (type_of% @mIf_e))))))) ∧ ((((((type_of% @andO_x) ∧ (type_of% @andO_t)) ∧ ((type_of% @andO_f) ∧ ((type_of% @mAnd_e) ∧ (type_of% @orO_x)))) ∧ (((type_of% @orO_t) ∧ ((type_of% @orO_f) ∧ (type_of% @mOr_e))) ∧ ((type_of% @notO_e) ∧ ((type_of% @notO_x) ∧ (type_of% @mNot_e))))) ∧ ((((type_of% @tstO_x) ∧ (type_of% @tstO_b)) ∧ ((type_of% @mTest_e) ∧ ((type_of% @andV_x) ∧ (type_of% @andV_t)))) ∧ (((type_of% @andV_f) ∧ ((type_of% @mAndV_e) ∧ (type_of% @orV_x))) ∧ ((type_of% @orV_t) ∧ ((type_of% @orV_f) ∧ (type_of% @mOrV_e)))))) ∧ (((((type_of% @notV_x) ∧ (type_of% @notV_b)) ∧ ((type_of% @mNotV_e) ∧ ((type_of% @ch3_x) ∧ (type_of% @op2K_e)))) ∧ (((type_of% @op2K_x) ∧ ((type_of% @ch3_t) ∧ (type_of% @ch3_f))) ∧ ((type_of% @ch2_e) ∧ ((type_of% @ch2_x) ∧ (type_of% @ch1_e))))) ∧ ((((type_of% @ch1_x) ∧ ((type_of% @mChain_e) ∧ (type_of% @cons2_e))) ∧ ((type_of% @cons2_x) ∧ ((type_of% @cons1_e) ∧ (type_of% @cons1_x)))) ∧ (((type_of% @mCons_e) ∧ ((type_of% @op1K_e) ∧ (type_of% @op1K_x))) ∧ ((type_of% @mOp_e) ∧ ((type_of% @unK_e) ∧ (type_of% @unK_x)))))))) ∧ (((((((type_of% @mUn_e) ∧ (type_of% @tupK_x)) ∧ ((type_of% @mTup_e) ∧ ((type_of% @lstK_x) ∧ (type_of% @mLst_e)))) ∧ (((type_of% @cellK_x) ∧ ((type_of% @mCell_e) ∧ (type_of% @tupK_0))) ∧ ((type_of% @lstK_0) ∧ ((type_of% @cellK_0) ∧ (type_of% @tupK_1))))) ∧ ((((type_of% @lstK_1) ∧ (type_of% @cellK_1)) ∧ ((type_of% @tupK_2) ∧ ((type_of% @lstK_2) ∧ (type_of% @cellK_2)))) ∧ (((type_of% @tupK_3) ∧ ((type_of% @lstK_3) ∧ (type_of% @cellK_3))) ∧ ((type_of% @tupK_4) ∧ ((type_of% @lstK_4) ∧ (type_of% @cellK_4)))))) ∧ (((((type_of% @tupK_5) ∧ (type_of% @lstK_5)) ∧ ((type_of% @cellK_5) ∧ ((type_of% @tupK_6) ∧ (type_of% @lstK_6)))) ∧ (((type_of% @cellK_6) ∧ ((type_of% @tupK_7) ∧ (type_of% @lstK_7))) ∧ ((type_of% @cellK_7) ∧ ((type_of% @tupK_8) ∧ (type_of% @lstK_8))))) ∧ ((((type_of% @cellK_8) ∧ ((type_of% @cbK_e) ∧ (type_of% @cbK_x))) ∧ ((type_of% @mCB_e) ∧ ((type_of% @lmK2_e) ∧ (type_of% @lmK2_x)))) ∧ (((type_of% @lmK_x) ∧ ((type_of% @lmK_l) ∧ (type_of% @mLM_e))) ∧ ((type_of% @lm0K_x) ∧ ((type_of% @lm0K_l) ∧ (type_of% @mLM0_e))))))) ∧ ((((((type_of% @partK_x) ∧ (type_of% @partK_i)) ∧ ((type_of% @mPart_e) ∧ ((type_of% @sl3_e) ∧ (type_of% @sl3_x)))) ∧ (((type_of% @sl2_e) ∧ ((type_of% @sl2_x) ∧ (type_of% @sl1_e))) ∧ ((type_of% @sl1_x) ∧ ((type_of% @mSl_e) ∧ (type_of% @slH3_e))))) ∧ ((((type_of% @slH3_x) ∧ ((type_of% @slH2_e) ∧ (type_of% @slH2_x))) ∧ ((type_of% @slH1_e) ∧ ((type_of% @slH1_x) ∧ (type_of% @mSlH_e)))) ∧ (((type_of% @callK_x) ∧ ((type_of% @callK_0) ∧ (type_of% @callK_1))) ∧ ((type_of% @callK_2) ∧ ((type_of% @callK_3) ∧ (type_of% @callK_4)))))) ∧ (((((type_of% @callK_5) ∧ (type_of% @callK_6)) ∧ ((type_of% @callK_7) ∧ ((type_of% @callK_8) ∧ (type_of% @mCall_e)))) ∧ (((type_of% @augS_e) ∧ ((type_of% @mAug_e) ∧ (type_of% @forK_e))) ∧ ((type_of% @forK_x) ∧ ((type_of% @mFor_e) ∧ (type_of% @itmK_e))))) ∧ ((((type_of% @seqK_e) ∧ ((type_of% @seqK_x) ∧ (type_of% @mSeqI_e))) ∧ ((type_of% @r1K_e) ∧ ((type_of% @r1K_x) ∧ (type_of% @r2K_e)))) ∧ (((type_of% @r2K_x) ∧ ((type_of% @rDK_e) ∧ (type_of% @rDK_x))) ∧ ((type_of% @mRng1_e) ∧ ((type_of% @mRng2_e) ∧ (type_of% @mRngD_e))))))))) ∧ ((((((((type_of% @lcK2_e) ∧ (type_of% @lcK2_x)) ∧ ((type_of% @lcK_e) ∧ ((type_of% @lcK_x) ∧ (type_of% @mLc_e)))) ∧ (((type_of% @lcH2_e) ∧ ((type_of% @lcH2_x) ∧ (type_of% @lcH_e))) ∧ ((type_of% @lcH_x) ∧ ((type_of% @mLcH_e) ∧ (type_of% @wipe_n))))) ∧ ((((type_of% @wipe_c) ∧ (type_of% @isiK_e)) ∧ ((type_of% @isiK_x) ∧ ((type_of% @mIsi_e) ∧ (type_of% @fldK_e)))) ∧ (((type_of% @fldK_x) ∧ ((type_of% @mFld_e) ∧ (type_of% @setK2_e))) ∧ ((type_of% @setK2_x) ∧ ((type_of% @setK1_e) ∧ (type_of% @setK1_x)))))) ∧ (((((type_of% @mSetFld_e) ∧ (type_of% @methK_e)) ∧ ((type_of% @methK_x) ∧ ((type_of% @mMeth_e) ∧ (type_of% @methA_x)))) ∧ (((type_of% @methA_0) ∧ ((type_of% @methA_1) ∧ (type_of% @methA_2))) ∧ ((type_of% @methA_3) ∧ ((type_of% @methA_4) ∧ (type_of% @methA_5))))) ∧ ((((type_of% @methA_6) ∧ ((type_of% @methA_7) ∧ (type_of% @methA_8))) ∧ ((type_of% @mkK_e) ∧ ((type_of% @mkK_x) ∧ (type_of% @mMake_e)))) ∧ (((type_of% @sx3_e) ∧ ((type_of% @sx3_x) ∧ (type_of% @sx2_e))) ∧ ((type_of% @sx2_x) ∧ ((type_of% @sx1_e) ∧ (type_of% @sx1_x))))))) ∧ ((((((type_of% @mSetIx_e) ∧ (type_of% @get0)) ∧ ((type_of% @get1) ∧ ((type_of% @get2) ∧ (type_of% @get3)))) ∧ (((type_of% @get4) ∧ ((type_of% @set0) ∧ (type_of% @set1))) ∧ ((type_of% @set2) ∧ ((type_of% @set3) ∧ (type_of% @set4))))) ∧ ((((type_of% @gz) ∧ (type_of% @gs)) ∧ ((type_of% @sz) ∧ ((type_of% @ss) ∧ (type_of% @app_c)))) ∧ (((type_of% @app_a) ∧ ((type_of% @app_n) ∧ (type_of% @len_p1))) ∧ ((type_of% @len_p2) ∧ ((type_of% @len_p3) ∧ (type_of% @len_p4)))))) ∧ (((((type_of% @len_p5) ∧ (type_of% @len_c)) ∧ ((type_of% @len_n) ∧ ((type_of% @fI_e) ∧ (type_of% @fAdd_i)))) ∧ (((type_of% @fNeg_e) ∧ ((type_of% @fIs_f) ∧ (type_of% @fIs_t))) ∧ ((type_of% @isNon_n) ∧ ((type_of% @isNon_i) ∧ (type_of% @isNon_t))))) ∧ ((((type_of% @isNon_l) ∧ ((type_of% @isNon_s) ∧ (type_of% @refL_e))) ∧ ((type_of% @listOf_r) ∧ ((type_of% @listOf_l) ∧ (type_of% @listOf_f)))) ∧ (((type_of% @seqOf_r) ∧ ((type_of% @seqOf_l) ∧ (type_of% @seqOf_f))) ∧ ((type_of% @seqOf_t) ∧ ((type_of% @isList_l) ∧ (type_of% @someL_e)))))))) ∧ (((((((type_of% @isList_r) ∧ (type_of% @lenK_e)) ∧ ((type_of% @fLen_t) ∧ ((type_of% @fLen_l) ∧ (type_of% @fLen_f)))) ∧ (((type_of% @fLen_r) ∧ ((type_of% @ixK_e) ∧ (type_of% @ixS_e))) ∧ ((type_of% @fIx_t) ∧ ((type_of% @fIx_l) ∧ (type_of% @fIx_f))))) ∧ ((((type_of% @fIx_r) ∧ (type_of% @atI_n)) ∧ ((type_of% @atI_0) ∧ ((type_of% @atI_1) ∧ (type_of% @atI_2)))) ∧ (((type_of% @atI_last) ∧ ((type_of% @fSl_t) ∧ (type_of% @fSl_l))) ∧ ((type_of% @slK_e) ∧ ((type_of% @fSl_r) ∧ (type_of% @cut_hi)))))) ∧ (((((type_of% @cut_lo) ∧ (type_of% @cut_no)) ∧ ((type_of% @cut_lh) ∧ ((type_of% @cut_1) ∧ (type_of% @cut_m1)))) ∧ (((type_of% @cellR_e) ∧ ((type_of% @cellOf_r) ∧ (type_of% @fApp_e))) ∧ ((type_of% @fPop_e) ∧ ((type_of% @popK_e) ∧ (type_of% @fRev_e))))) ∧ ((((type_of% @revK_e) ∧ ((type_of% @fExt_l) ∧ (type_of% @fInt_i))) ∧ ((type_of% @fMin2_e) ∧ ((type_of% @fMax2_e) ∧ (type_of% @fList_t)))) ∧ (((type_of% @fList_l) ∧ ((type_of% @listK_e) ∧ (type_of% @fList_r))) ∧ ((type_of% @fListH_t) ∧ ((type_of% @fListH_l) ∧ (type_of% @fTuple_t))))))) ∧ ((((((type_of% @fTuple_l) ∧ (type_of% @tupleK_e)) ∧ ((type_of% @fTuple_r) ∧ ((type_of% @itmOf_t) ∧ (type_of% @itmOf_l)))) ∧ (((type_of% @itmOf_f) ∧ ((type_of% @itmR_e) ∧ (type_of% @itmOf_r))) ∧ ((type_of% @insOf_o) ∧ ((type_of% @insR_e) ∧ (type_of% @insOf_r))))) ∧ ((((type_of% @sxF_e) ∧ ((type_of% @out_nx) ∧ (type_of% @out_rt))) ∧ ((type_of% @out_er) ∧ ((type_of% @fEq_i) ∧ (type_of% @fNe_i)))) ∧ (((type_of% @mDef_1) ∧ ((type_of% @mDef_2) ∧ (type_of% @mDef_3))) ∧ ((type_of% @mDef_4) ∧ ((type_of% @mDef_5) ∧ (type_of% @mDef_6)))))) ∧ (((((type_of% @mDef_7) ∧ (type_of% @mDef_8)) ∧ ((type_of% @rep_s) ∧ ((type_of% @rep_z) ∧ (type_of% @atK_e)))) ∧ (((type_of% @bodyAt_e) ∧ ((type_of% @Lp_nx) ∧ (type_of% @Lp_ct))) ∧ ((type_of% @Lp_bk) ∧ ((type_of% @Lp_rt) ∧ (type_of% @Lp_er))))) ∧ ((((type_of% @OkP_e) ∧ ((type_of% @cmpAt_e) ∧ (type_of% @cmK1_e))) ∧ ((type_of% @cmK2_t) ∧ ((type_of% @cmK2_f) ∧ (type_of% @cmK3_e)))) ∧ (((type_of% @dropl) ∧ ((type_of% @n0) ∧ (type_of% @dec_t))) ∧ ((type_of% @dec_f) ∧ ((type_of% @not_t) ∧ (type_of% @not_f)))))))))) := ⟨⟨⟨⟨⟨⟨⟨⟨@hard_ok, @sq_nx⟩, ⟨@sq_rt, ⟨@sq_er, @sq_bk⟩⟩⟩, ⟨⟨@sq_ct, ⟨@mSeq_e, @mNext_e⟩⟩, ⟨@mBreak_e, ⟨@mCont_e, @mRetN_e⟩⟩⟩⟩, ⟨⟨⟨@mRaise_e, @mC_e⟩, ⟨@mYes_e, ⟨@mNil_e, @mNoPart_e⟩⟩⟩, ⟨⟨@vr_e, ⟨@mVar_e, @asgT_e⟩⟩, ⟨@tset_n, ⟨@tset_t, @tsets_n⟩⟩⟩⟩⟩, ⟨⟨⟨⟨@tsets_c, @tsetsB_e⟩, ⟨@tsets_t, ⟨@dropS_e, @dropS_x⟩⟩⟩, ⟨⟨@mDrop_e, ⟨@retS_e, @retS_x⟩⟩, ⟨@mRet_e, ⟨@asgS_e, @asgS_x⟩⟩⟩⟩, ⟨⟨⟨@mAsg_n, ⟨@asgU_e, @asgU_x⟩⟩, ⟨@mAsg_t, ⟨@iteS_x, @iteS_t⟩⟩⟩, ⟨⟨@iteS_f, ⟨@mIte_e, @ifO_x⟩⟩, ⟨@ifO_t, ⟨@ifO_f, @mIf_e⟩⟩⟩⟩⟩⟩, ⟨⟨⟨⟨⟨@andO_x, @andO_t⟩, ⟨@andO_f, ⟨@mAnd_e, @orO_x⟩⟩⟩, ⟨⟨@orO_t, ⟨@orO_f, @mOr_e⟩⟩, ⟨@notO_e, ⟨@notO_x, @mNot_e⟩⟩⟩⟩, ⟨⟨⟨@tstO_x, @tstO_b⟩, ⟨@mTest_e, ⟨@andV_x, @andV_t⟩⟩⟩, ⟨⟨@andV_f, ⟨@mAndV_e, @orV_x⟩⟩, ⟨@orV_t, ⟨@orV_f, @mOrV_e⟩⟩⟩⟩⟩, ⟨⟨⟨⟨@notV_x, @notV_b⟩, ⟨@mNotV_e, ⟨@ch3_x, @op2K_e⟩⟩⟩, ⟨⟨@op2K_x, ⟨@ch3_t, @ch3_f⟩⟩, ⟨@ch2_e, ⟨@ch2_x, @ch1_e⟩⟩⟩⟩, ⟨⟨⟨@ch1_x, ⟨@mChain_e, @cons2_e⟩⟩, ⟨@cons2_x, ⟨@cons1_e, @cons1_x⟩⟩⟩, ⟨⟨@mCons_e, ⟨@op1K_e, @op1K_x⟩⟩, ⟨@mOp_e, ⟨@unK_e, @unK_x⟩⟩⟩⟩⟩⟩⟩, ⟨⟨⟨⟨⟨⟨@mUn_e, @tupK_x⟩, ⟨@mTup_e, ⟨@lstK_x, @mLst_e⟩⟩⟩, ⟨⟨@cellK_x, ⟨@mCell_e, @tupK_0⟩⟩, ⟨@lstK_0, ⟨@cellK_0, @tupK_1⟩⟩⟩⟩, ⟨⟨⟨@lstK_1, @cellK_1⟩, ⟨@tupK_2, ⟨@lstK_2, @cellK_2⟩⟩⟩, ⟨⟨@tupK_3, ⟨@lstK_3, @cellK_3⟩⟩, ⟨@tupK_4, ⟨@lstK_4, @cellK_4⟩⟩⟩⟩⟩, ⟨⟨⟨⟨@tupK_5, @lstK_5⟩, ⟨@cellK_5, ⟨@tupK_6, @lstK_6⟩⟩⟩, ⟨⟨@cellK_6, ⟨@tupK_7, @lstK_7⟩⟩, ⟨@cellK_7, ⟨@tupK_8, @lstK_8⟩⟩⟩⟩, ⟨⟨⟨@cellK_8, ⟨@cbK_e, @cbK_x⟩⟩, ⟨@mCB_e, ⟨@lmK2_e, @lmK2_x⟩⟩⟩, ⟨⟨@lmK_x, ⟨@lmK_l, @mLM_e⟩⟩, ⟨@lm0K_x, ⟨@lm0K_l, @mLM0_e⟩⟩⟩⟩⟩⟩, ⟨⟨⟨⟨⟨@partK_x, @partK_i⟩, ⟨@mPart_e, ⟨@sl3_e, @sl3_x⟩⟩⟩, ⟨⟨@sl2_e, ⟨@sl2_x, @sl1_e⟩⟩, ⟨@sl1_x, ⟨@mSl_e, @slH3_e⟩⟩⟩⟩, ⟨⟨⟨@slH3_x, ⟨@slH2_e, @slH2_x⟩⟩, ⟨@slH1_e, ⟨@slH1_x, @mSlH_e⟩⟩⟩, ⟨⟨@callK_x, ⟨@callK_0, @callK_1⟩⟩, ⟨@callK_2, ⟨@callK_3, @callK_4⟩⟩⟩⟩⟩, ⟨⟨⟨⟨@callK_5, @callK_6⟩, ⟨@callK_7, ⟨@callK_8, @mCall_e⟩⟩⟩, ⟨⟨@augS_e, ⟨@mAug_e, @forK_e⟩⟩, ⟨@forK_x, ⟨@mFor_e, @itmK_e⟩⟩⟩⟩, ⟨⟨⟨@seqK_e, ⟨@seqK_x, @mSeqI_e⟩⟩, ⟨@r1K_e, ⟨@r1K_x, @r2K_e⟩⟩⟩, ⟨⟨@r2K_x, ⟨@rDK_e, @rDK_x⟩⟩, ⟨@mRng1_e, ⟨@mRng2_e, @mRngD_e⟩⟩⟩⟩⟩⟩⟩⟩, ⟨⟨⟨⟨⟨⟨⟨@lcK2_e, @lcK2_x⟩, ⟨@lcK_e, ⟨@lcK_x, @mLc_e⟩⟩⟩, ⟨⟨@lcH2_e, ⟨@lcH2_x, @lcH_e⟩⟩, ⟨@lcH_x, ⟨@mLcH_e, @wipe_n⟩⟩⟩⟩, ⟨⟨⟨@wipe_c, @isiK_e⟩, ⟨@isiK_x, ⟨@mIsi_e, @fldK_e⟩⟩⟩, ⟨⟨@fldK_x, ⟨@mFld_e, @setK2_e⟩⟩, ⟨@setK2_x, ⟨@setK1_e, @setK1_x⟩⟩⟩⟩⟩, ⟨⟨⟨⟨@mSetFld_e, @methK_e⟩, ⟨@methK_x, ⟨@mMeth_e, @methA_x⟩⟩⟩, ⟨⟨@methA_0, ⟨@methA_1, @methA_2⟩⟩, ⟨@methA_3, ⟨@methA_4, @methA_5⟩⟩⟩⟩, ⟨⟨⟨@methA_6, ⟨@methA_7, @methA_8⟩⟩, ⟨@mkK_e, ⟨@mkK_x, @mMake_e⟩⟩⟩, ⟨⟨@sx3_e, ⟨@sx3_x, @sx2_e⟩⟩, ⟨@sx2_x, ⟨@sx1_e, @sx1_x⟩⟩⟩⟩⟩⟩, ⟨⟨⟨⟨⟨@mSetIx_e, @get0⟩, ⟨@get1, ⟨@get2, @get3⟩⟩⟩, ⟨⟨@get4, ⟨@set0, @set1⟩⟩, ⟨@set2, ⟨@set3, @set4⟩⟩⟩⟩, ⟨⟨⟨@gz, @gs⟩, ⟨@sz, ⟨@ss, @app_c⟩⟩⟩, ⟨⟨@app_a, ⟨@app_n, @len_p1⟩⟩, ⟨@len_p2, ⟨@len_p3, @len_p4⟩⟩⟩⟩⟩, ⟨⟨⟨⟨@len_p5, @len_c⟩, ⟨@len_n, ⟨@fI_e, @fAdd_i⟩⟩⟩, ⟨⟨@fNeg_e, ⟨@fIs_f, @fIs_t⟩⟩, ⟨@isNon_n, ⟨@isNon_i, @isNon_t⟩⟩⟩⟩, ⟨⟨⟨@isNon_l, ⟨@isNon_s, @refL_e⟩⟩, ⟨@listOf_r, ⟨@listOf_l, @listOf_f⟩⟩⟩, ⟨⟨@seqOf_r, ⟨@seqOf_l, @seqOf_f⟩⟩, ⟨@seqOf_t, ⟨@isList_l, @someL_e⟩⟩⟩⟩⟩⟩⟩, ⟨⟨⟨⟨⟨⟨@isList_r, @lenK_e⟩, ⟨@fLen_t, ⟨@fLen_l, @fLen_f⟩⟩⟩, ⟨⟨@fLen_r, ⟨@ixK_e, @ixS_e⟩⟩, ⟨@fIx_t, ⟨@fIx_l, @fIx_f⟩⟩⟩⟩, ⟨⟨⟨@fIx_r, @atI_n⟩, ⟨@atI_0, ⟨@atI_1, @atI_2⟩⟩⟩, ⟨⟨@atI_last, ⟨@fSl_t, @fSl_l⟩⟩, ⟨@slK_e, ⟨@fSl_r, @cut_hi⟩⟩⟩⟩⟩, ⟨⟨⟨⟨@cut_lo, @cut_no⟩, ⟨@cut_lh, ⟨@cut_1, @cut_m1⟩⟩⟩, ⟨⟨@cellR_e, ⟨@cellOf_r, @fApp_e⟩⟩, ⟨@fPop_e, ⟨@popK_e, @fRev_e⟩⟩⟩⟩, ⟨⟨⟨@revK_e, ⟨@fExt_l, @fInt_i⟩⟩, ⟨@fMin2_e, ⟨@fMax2_e, @fList_t⟩⟩⟩, ⟨⟨@fList_l, ⟨@listK_e, @fList_r⟩⟩, ⟨@fListH_t, ⟨@fListH_l, @fTuple_t⟩⟩⟩⟩⟩⟩, ⟨⟨⟨⟨⟨@fTuple_l, @tupleK_e⟩, ⟨@fTuple_r, ⟨@itmOf_t, @itmOf_l⟩⟩⟩, ⟨⟨@itmOf_f, ⟨@itmR_e, @itmOf_r⟩⟩, ⟨@insOf_o, ⟨@insR_e, @insOf_r⟩⟩⟩⟩, ⟨⟨⟨@sxF_e, ⟨@out_nx, @out_rt⟩⟩, ⟨@out_er, ⟨@fEq_i, @fNe_i⟩⟩⟩, ⟨⟨@mDef_1, ⟨@mDef_2, @mDef_3⟩⟩, ⟨@mDef_4, ⟨@mDef_5, @mDef_6⟩⟩⟩⟩⟩, ⟨⟨⟨⟨@mDef_7, @mDef_8⟩, ⟨@rep_s, ⟨@rep_z, @atK_e⟩⟩⟩, ⟨⟨@bodyAt_e, ⟨@Lp_nx, @Lp_ct⟩⟩, ⟨@Lp_bk, ⟨@Lp_rt, @Lp_er⟩⟩⟩⟩, ⟨⟨⟨@OkP_e, ⟨@cmpAt_e, @cmK1_e⟩⟩, ⟨@cmK2_t, ⟨@cmK2_f, @cmK3_e⟩⟩⟩, ⟨⟨@dropl, ⟨@n0, @dec_t⟩⟩, ⟨@dec_f, ⟨@not_t, @not_f⟩⟩⟩⟩⟩⟩⟩⟩⟩
end PM
end

section
set_option Elab.async false
set_option linter.all false
set_option maxRecDepth 100000
/-! Changes: hunks, alignments, what the defs of changes.py and diffs.py tell of them. -/
namespace PM
open PySem L2 Mini
/-! ### more rules -/
section
variable {h : MH} {v y : MV} {c n cc : Nat} {f g m : Str} {ns : List Str} {xs : List MV}
theorem itm_seq (e : seqOf h v = some xs) : ∃ chk, itmOf h v = some ⟨xs, chk⟩ ∧ ∀ h', (∀ i, i < h.length → h'[i]? = h[i]?) → chk h' := by
  cases v with
  | tup ys => simp only [seqOf, Option.some.injEq] at e; subst e; exact ⟨_, rfl, fun _ _ => trivial⟩
  | lst ys => simp only [seqOf, Mini.listOf, Option.some.injEq] at e; subst e; exact ⟨_, rfl, fun _ _ => trivial⟩
  | fro ys => simp only [seqOf, Mini.listOf, Option.some.injEq] at e; subst e; exact ⟨_, rfl, fun _ _ => trivial⟩
  | ref i =>
    simp only [seqOf_r] at e
    cases q : h[i]? with
    | none => rw [q] at e; cases e
    | some o =>
      rw [q] at e
      cases o with
      | lst ys =>
        simp only [refL, Option.some.injEq] at e; subst e
        refine ⟨_, by rw [itmOf_r, q]; rfl, fun h' k => ?_⟩
        rw [k i (List.getElem?_eq_some_iff.mp q).1, q]
      | _ => simp [refL] at e
  | _ => simp [seqOf, Mini.listOf] at e
theorem putN_n : putN f [] = [f] := rfl
theorem putX_n : putX f v [] xs = [v] := by simp only [putX]
theorem fldF_0 : fldF f c (some (c, f :: ns, v :: xs)) h = .ok v h := by simp [fldF, lookM]
theorem methF_1 {fn : MFun} {as : MA} {x : MV} {ρ : En} (e : (m == g) = false) : methF n m cc fn as x (some (cc, [g], [y])) ρ h = methA (as ρ h) n fn x := methF_e (by simp [lookM, e]) rfl
theorem mkF_e {fn : MFun} {ys : List MV} (hn : xs.length + 1 = n) (e : fn (.ref h.length :: xs) (h ++ [.ins c [] []]) = .ok .non (h ++ [.ins c ns ys])) (lt : ∀ x ∈ ys, x.lt h.length) : mkF c n fn xs h = .ok (.obj c ns ys) h := by
  unfold mkF mMk
  rw [if_pos hn, e]
  simp only [Out.bind, get0, if_true, set0, Out.cut]
  rw [if_pos ⟨by simp only [MV.lt]; exact lts_of lt, tidy_app⟩]; simp
end
theorem cf_put {n ar i : Nat} {body : MS} {ms : List MV} {h : MH} {o : MO} (hb : mDef n ar body ms h = .ok .non (h.set i o)) (lt : o.lt h.length) : cutF (frzF (mDef n ar body)) ms h = .ok .non (h.set i o) := by
  rw [cf (v' := .non) (h2 := h.set i o) hb (by show freeze (999999 + 1) _ .non = _; simp only [freeze]) trivial (fun j hj => ?_)]
  · rw [← List.length_set (as := h) (i := i) (a := o), List.take_length]
  · rw [List.getElem?_set]
    by_cases q : i = j
    · subst q; right; exact ⟨o, by simp [hj], lt⟩
    · left; rw [if_neg q]
/-! ### hunks -/
structure Hk where
  pl : Int
  taken : List MV
  put : List MV
def encH (k : Hk) : MV := .tup [.int k.pl, .tup k.taken, .tup k.put]
def okH : Int → List Hk → Prop
  | _, [] => True
  | e, k :: ks => e < k.pl ∧ 0 ≤ k.pl ∧ 0 < k.taken.length + k.put.length ∧ okH (k.pl + k.taken.length) ks
/-- entries are data -/
def okE (k : Hk) : Prop := k.taken.length ≤ 1000 ∧ k.put.length ≤ 1000 ∧ (∀ x ∈ k.taken, gd 30 x) ∧ ∀ x ∈ k.put, gd 30 x
theorem gd_encH {k : Hk} (h : okE k) : gd 32 (encH k) := by
  refine gd_tup (by simp) fun x hx => ?_
  simp only [List.mem_cons, List.not_mem_nil, or_false] at hx
  rcases hx with rfl | rfl | rfl
  · exact gd_int
  · exact gd_tup h.1 h.2.2.1
  · exact gd_tup h.2.1 h.2.2.2
def chg (hs : List Hk) : MV := .obj 40 ["hunks"] [.tup (hs.map encH)]
theorem gd_hs {hs : List Hk} (hl : hs.length ≤ 1000) (h : ∀ k ∈ hs, okE k) : gd 33 (.tup (hs.map encH)) := gd_tup (by simpa using hl) fun x hx => by
  obtain ⟨k, hk, rfl⟩ := List.mem_map.mp hx; exact gd_encH (h k hk)
theorem rv_chg {hs : List Hk} (hl : hs.length ≤ 1000) (h : ∀ k ∈ hs, okE k) : Rv (chg hs) := Rv.obj fun x hx => by
  simp only [List.mem_cons, List.not_mem_nil, or_false] at hx
  subst hx; exact Rv.gd (gd_mono (by omega) (gd_hs hl h))
theorem check_hunks_ok (hs : List Hk) (h : MH) (ok : okH (-1) hs) : m_check_hunks [.tup (hs.map encH)] h = .ok .non h := by
  refine cf_ok0 ?_ Rv.non
  simp only [b_check_hunks, EV]
  generalize hL : forLoop _ _ _ _ _ _ = o
  obtain ⟨ρ', h', rfl, rfl, _⟩ := for_nx encH (fun xs ρ h' => h' = h ∧ ∃ e a b c, okH e xs ∧ ρ = [some (.tup (hs.map encH)), some (.int e), a, b, c]) hL ⟨rfl, -1, none, none, none, ok, rfl⟩ (fun _ _ _ _ => trivial) (by
    rintro x xs ρ h' ⟨rfl, e, a, b, c, ⟨o1, o2, o3, o4⟩, rfl⟩
    have c1 : ¬ x.pl < 0 := by omega
    have c2 : ¬ ((x.taken.length : Int) + (x.put.length : Int) = 0) := by omega
    have c3 : ¬ x.pl ≤ e := by omega
    simp only [encH, EV, c1, c2, c3]
    exact ⟨trivial, _, _, _, _, o4, rfl⟩)
  simp only [EV]
/-- a hunk as it is handed to Change: its two lists may be lists or tuples, of the heap or not -/
abbrev HB := Hk × MV × MV
def encB (b : HB) : MV := .tup [.int b.1.pl, b.2.1, b.2.2]
def okB (h : MH) (b : HB) : Prop := seqOf h b.2.1 = some b.1.taken ∧ seqOf h b.2.2 = some b.1.put
theorem change_init {i : Nat} {hv : MV} {bs : List HB} {h : MH} (e : seqOf h hv = some (bs.map encB)) (hb : ∀ b ∈ bs, okB h b) (hi : h[i]? = some (.ins 40 [] [])) (ok : okH (-1) (bs.map (·.1))) (hE : ∀ b ∈ bs, okE b.1) (hl : bs.length ≤ 1000) :
    m_Change__init_ [.ref i, hv] h = .ok .non (h.set i (.ins 40 ["hunks"] [.tup ((bs.map (·.1)).map encH)])) := by
  have hE' : ∀ k ∈ bs.map (·.1), okE k := fun k hk => by
    obtain ⟨b, hb', rfl⟩ := List.mem_map.mp hk; exact hE b hb'
  have hlt : (MO.ins 40 ["hunks"] [.tup ((bs.map (·.1)).map encH)]).lt h.length := by
    simp only [MO.lt]
    refine lts_of fun x hx => ?_
    simp only [List.mem_cons, List.not_mem_nil, or_false] at hx
    subst hx; exact lt_gd (gd_hs (by simpa using hl) hE')
  refine cf_put ?_ hlt
  obtain ⟨chk, e1, e2⟩ := itm_seq e
  simp only [b_Change__init_, EV, e1]
  rw [comp_all encB (fun b : HB => encH b.1) (e2 _ fun _ _ => rfl) bs]
  · have hs : h.length > i := (List.getElem?_eq_some_iff.mp hi).1
    have e3 : (bs.map fun b : HB => encH b.1) = (bs.map (·.1)).map encH := by simp
    rw [e3]
    have e4 : ((h.set i (.ins 40 ["hunks"] [.tup ((bs.map (·.1)).map encH)]))[i]?) = some (.ins 40 ["hunks"] [.tup ((bs.map (·.1)).map encH)]) := by simp [hs]
    simp only [EV, setF_e hi (by decide : ([] : List Str).length < 1000), putN_n, putX_n, e4, fldF_0, check_hunks_ok _ _ ok]
  · intro b hbm
    obtain ⟨b1, b2⟩ := hb b hbm
    simp only [encB, EV, fTuple_v b1, fTuple_v b2]
    rfl
  · have : sizeLine = 16777216 := rfl
    omega
theorem change_make {hv : MV} {bs : List HB} {h : MH} (e : seqOf h hv = some (bs.map encB)) (hb : ∀ b ∈ bs, okB h b) (ok : okH (-1) (bs.map (·.1))) (hE : ∀ b ∈ bs, okE b.1) (hl : bs.length ≤ 1000) :
    mkF 40 2 m_Change__init_ [hv] h = .ok (chg (bs.map (·.1))) h := by
  have up : ∀ {v : MV} {xs : List MV} {c : MO}, seqOf h v = some xs → seqOf (h ++ [c]) v = some xs := fun {v xs c} q => by
    cases v with
    | ref j =>
      simp only [seqOf_r] at q ⊢
      cases q2 : h[j]? with
      | none => rw [q2] at q; cases q
      | some o => rw [List.getElem?_append_left (List.getElem?_eq_some_iff.mp q2).1]; exact q
    | _ => exact q
  refine mkF_e rfl ?_ (fun x hx => ?_)
  · rw [change_init (i := h.length) (bs := bs) (up e) (fun b hb' => ⟨up (hb b hb').1, up (hb b hb').2⟩) (by simp) ok hE hl]
    simp
  · simp only [List.mem_cons, List.not_mem_nil, or_false] at hx
    subst hx
    exact lt_gd (gd_hs (by simpa using hl) fun k hk => by
      obtain ⟨b, hb', rfl⟩ := List.mem_map.mp hk; exact hE b hb')
/-- the hunks of a tuple or a list, plain -/
theorem change_make0 {hs : List Hk} {h : MH} (hv : MV) (e : seqOf h hv = some (hs.map encH)) (ok : okH (-1) hs) (hE : ∀ k ∈ hs, okE k) (hl : hs.length ≤ 1000) : mkF 40 2 m_Change__init_ [hv] h = .ok (chg hs) h := by
  have e0 : (hs.map fun k => (k, MV.tup k.taken, MV.tup k.put)).map (fun b : HB => b.1) = hs := by
    rw [List.map_map]; exact List.map_id' hs
  have := change_make (hv := hv) (bs := hs.map fun k => (k, MV.tup k.taken, MV.tup k.put)) (h := h) (by rw [e]; simp [encH, encB]) (fun b hb => by
    obtain ⟨k, _, rfl⟩ := List.mem_map.mp hb; exact ⟨rfl, rfl⟩) (by rw [e0]; exact ok) (fun b hb => by
    obtain ⟨k, hk, rfl⟩ := List.mem_map.mp hb; exact hE k hk) (by simpa using hl)
  rw [e0] at this
  exact this
theorem touched_ok {hs : List Hk} {h : MH} (hl : hs.length ≤ 1000) : m_Change_touched [chg hs] h = .ok (.int (hs.map fun k => (k.put.length : Int) + k.taken.length).sum) h := by
  refine cf_ok0 ?_ Rv.int
  simp only [b_Change_touched, chg, EV, fldF_0]
  rw [comp_all encH (fun k => MV.int ((k.put.length : Int) + k.taken.length)) trivial hs]
  · have e3 : (hs.map fun k => MV.int ((k.put.length : Int) + k.taken.length)) = (hs.map fun k => (k.put.length : Int) + k.taken.length).map MV.int := by simp
    rw [e3]
    simp only [EV, fSum_l]
  · intro b hbm
    simp only [encH, EV]
  · have : sizeLine = 16777216 := rfl
    omega
end PM
end

section
set_option Elab.async false
set_option linter.all false
set_option maxRecDepth 100000
namespace PM
open PySem L2 Mini
/-! ### alignments: what stays, what is taken out, what is put in, .. and the tail -/
abbrev Al := List (List MV × List MV × List MV)
def hkOf : Nat → Al → List Hk
  | _, [] => []
  | n, (k, t, p) :: al => ⟨((n + k.length : Nat) : Int), t, p⟩ :: hkOf (n + k.length + t.length) al
def src : Al → List MV → List MV
  | [], tl => tl
  | (k, t, _) :: al, tl => k ++ (t ++ src al tl)
def dst : Al → List MV → List MV
  | [], tl => tl
  | (k, _, p) :: al, tl => k ++ (p ++ dst al tl)
def swp (al : Al) : Al := al.map fun x => (x.1, x.2.2, x.2.1)
theorem src_swp : ∀ (al : Al) (tl : List MV), src (swp al) tl = dst al tl
  | [], _ => rfl
  | (k, t, p) :: al, tl => by
    show k ++ (p ++ src (swp al) tl) = k ++ (p ++ dst al tl)
    rw [src_swp al tl]
theorem dst_swp : ∀ (al : Al) (tl : List MV), dst (swp al) tl = src al tl
  | [], _ => rfl
  | (k, t, p) :: al, tl => by
    show k ++ (t ++ dst (swp al) tl) = k ++ (t ++ src al tl)
    rw [dst_swp al tl]
/-- hunks that stand apart: something stays between two of them, none is empty -/
def apt : Al → Prop
  | [] => True
  | (_, t, p) :: al => 0 < t.length + p.length ∧ (∀ x ∈ al, 0 < x.1.length) ∧ apt al
theorem okH_hk : ∀ (al : Al) (n : Nat) (e : Int), apt al → (∀ x ∈ al.head?, e < n + x.1.length) → okH e (hkOf n al)
  | [], _, _, _, _ => trivial
  | (k, t, p) :: al, n, e, a, he => by
    refine ⟨by have := he (k, t, p) (by simp); simp only at this ⊢; omega, by simp only; omega, a.1, okH_hk al _ _ a.2.2 fun x hx => ?_⟩
    have := a.2.1 x (List.mem_of_mem_head? hx)
    simp only
    omega
theorem okH_hk0 {al : Al} (a : apt al) : okH (-1) (hkOf 0 al) := okH_hk al 0 (-1) a fun x _ => by omega
theorem apt_swp : ∀ (al : Al), apt al → apt (swp al)
  | [], _ => trivial
  | (k, t, p) :: al, a => ⟨by have := a.1; simp only at *; omega, fun x hx => by
      obtain ⟨y, hy, rfl⟩ := List.mem_map.mp hx; exact a.2.1 y hy, apt_swp al a.2.2⟩
theorem len_hk : ∀ (al : Al) (n : Nat), (hkOf n al).length = al.length
  | [], _ => rfl
  | (k, t, p) :: al, n => by simp only [hkOf, List.length_cons, len_hk al]
def okA (al : Al) : Prop := ∀ x ∈ al, x.2.1.length ≤ 1000 ∧ x.2.2.length ≤ 1000 ∧ (∀ y ∈ x.2.1, gd 30 y) ∧ ∀ y ∈ x.2.2, gd 30 y
theorem okE_hk : ∀ (al : Al) (n : Nat), okA al → ∀ k ∈ hkOf n al, okE k
  | [], _, _, _, h => by simp [hkOf] at h
  | (k, t, p) :: al, n, a, x, hx => by
    simp only [hkOf, List.mem_cons] at hx
    rcases hx with rfl | hx
    · exact a (k, t, p) (by simp)
    · exact okE_hk al _ (fun y hy => a y (by simp [hy])) x hx
theorem okA_swp {al : Al} (a : okA al) : okA (swp al) := fun x hx => by
  obtain ⟨y, hy, rfl⟩ := List.mem_map.mp hx
  obtain ⟨a1, a2, a3, a4⟩ := a y hy
  exact ⟨a2, a1, a4, a3⟩
theorem replaced_ok (al : Al) (tl : List MV) (low : Nat) (h : MH) (hs : (src al tl).length ≤ 1000) (hd : (dst al tl).length ≤ 1000) (g : ∀ x ∈ dst al tl, gd 30 x) :
    m_replaced [.lst (src al tl), .tup ((hkOf low al).map encH), .int (low : Int)] h = .ok (.lst (dst al tl)) h := by
  have z : sizeLine = 16777216 := rfl
  refine cf_ref (k := 0) (l := [.lst (dst al tl)]) ?_ rfl (F_gd (n := 30) (by omega) g) (by omega)
  simp only [b_replaced, EV]
  generalize hL : forLoop _ _ _ _ _ _ = o
  obtain ⟨ρ', h', rfl, n, pre, acc, a, b, c, al', e1, e2, e3, e4, rfl, rfl⟩ := for_nx encH (fun xs ρ h' => ∃ (n : Nat) (pre acc : List MV) (a b c : Option MV) (al' : Al), xs = hkOf (low + n) al' ∧ src al tl = pre ++ src al' tl ∧ pre.length = n ∧ dst al tl = acc ++ dst al' tl ∧ h' = h ++ [.lst acc] ∧
      ρ = [some (.lst (src al tl)), some (.tup ((hkOf low al).map encH)), some (.int low), some (.ref h.length), some (.int n), a, b, c]) hL ⟨0, [], [], none, none, none, al, rfl, rfl, rfl, rfl, rfl, rfl⟩ (fun _ _ _ _ => trivial) (by
    rintro x xs ρ h' ⟨n, pre, acc, a, b, c, al', e1, e2, e3, e4, rfl, rfl⟩
    cases al' with
    | nil => simp [hkOf] at e1
    | cons y al' =>
      obtain ⟨k, t, p⟩ := y
      simp only [hkOf, List.cons.injEq] at e1
      obtain ⟨rfl, rfl⟩ := e1
      have q1 : ((low + n + k.length : Nat) : Int) - (low : Int) = ((n + k.length : Nat) : Int) := by omega
      have q2 : cutM (src al tl) (some (n : Int)) (some ((n + k.length : Nat) : Int)) = k := by
        rw [cut_lh, e2, ← e3, List.drop_left]
        simp only [src]
        rw [Nat.add_sub_cancel_left, List.take_left]
      have q3 : acc.length + k.length ≤ sizeLine := by
        have := congrArg List.length e4; simp only [dst, List.length_append] at this; omega
      have q4 : (acc ++ k).length + p.length ≤ sizeLine := by
        have := congrArg List.length e4; simp only [dst, List.length_append] at this ⊢; omega
      have q5 : ((n + k.length : Nat) : Int) + (t.length : Int) = ((n + k.length + t.length : Nat) : Int) := by omega
      simp only [encH, EV, q1, q2, q5, extK_e q3, extK_e q4]
      exact ⟨n + k.length + t.length, pre ++ (k ++ t), acc ++ k ++ p, _, _, _, al', by rw [show low + (n + k.length + t.length) = low + n + k.length + t.length by omega], by rw [e2]; simp [src], by simp; omega, by rw [e4]; simp [dst], rfl, rfl⟩)
  have e5 : al' = [] := by
    cases al' with
    | nil => rfl
    | cons y al' => obtain ⟨k, t, p⟩ := y; simp [hkOf] at e1
  subst e5
  simp only [src] at e2
  simp only [dst] at e4
  have q2 : cutM (src al tl) (some (n : Int)) none = tl := by rw [cut_lo, e2, ← e3, List.drop_left]
  have q3 : acc.length + tl.length ≤ sizeLine := by
    have := congrArg List.length e4; simp only [List.length_append] at this; omega
  have := e4.symm
  simp only [EV, q2, extK_e q3, this]
  rfl
theorem spliced_ok (al : Al) (tl : List MV) (h : MH) (hs : (src al tl).length ≤ 1000) (hd : (dst al tl).length ≤ 1000) (gs : ∀ x ∈ src al tl, gd 30 x) (g : ∀ x ∈ dst al tl, gd 30 x) (v : MV) (hv : seqOf h v = some (src al tl)) :
    m_spliced [v, chg (hkOf 0 al)] h = .ok (.lst (dst al tl)) h := by
  refine cf_ok0 ?_ (Rv.gd (gd_lst hd fun x hx => gd_mono (by omega) (g x hx)))
  simp only [b_spliced, chg, EV, fList_v hv, fldF_0]
  generalize hL : forLoop _ _ _ _ _ _ = o
  obtain ⟨ρ', h', rfl, n, pre, a, b, c, al', e1, e2, e3, rfl, rfl⟩ := for_nx encH (fun xs ρ h' => ∃ (n : Nat) (pre : List MV) (a b c : Option MV) (al' : Al), xs = hkOf n al' ∧ src al tl = pre ++ src al' tl ∧ pre.length = n ∧ h' = h ∧
      ρ = [some (.lst (src al tl)), some (chg (hkOf 0 al)), a, b, c]) hL ⟨0, [], none, none, none, al, rfl, rfl, rfl, rfl, rfl⟩ (fun _ _ _ _ => trivial) (by
    rintro x xs ρ h' ⟨n, pre, a, b, c, al', e1, e2, e3, rfl, rfl⟩
    cases al' with
    | nil => simp [hkOf] at e1
    | cons y al' =>
      obtain ⟨k, t, p⟩ := y
      simp only [hkOf, List.cons.injEq] at e1
      obtain ⟨rfl, rfl⟩ := e1
      have ln := congrArg List.length e2
      simp only [src, List.length_append] at ln
      have q1 : ¬ (((src al tl).length : Int) < ((n + k.length : Nat) : Int)) := by omega
      have q5 : ((n + k.length : Nat) : Int) + (t.length : Int) = ((n + k.length + t.length : Nat) : Int) := by omega
      have q2 : cutM (src al tl) (some ((n + k.length : Nat) : Int)) (some ((n + k.length + t.length : Nat) : Int)) = t := by
        rw [cut_lh, e2, Nat.add_sub_cancel_left]
        simp only [src]
        rw [← List.append_assoc, List.drop_left' (by simp; omega), List.take_left]
      have gt : gd 64 (.lst t) := gd_lst (by omega) fun x hx => gd_mono (by omega) (gs x (by rw [e2]; simp [src, hx]))
      simp only [encH, EV, q1, q5, q2, fNe_f gt gt rfl]
      exact ⟨n + k.length + t.length, pre ++ (k ++ t), _, _, _, al', rfl, by rw [e2]; simp [src], by simp; omega, trivial, rfl⟩)
  have r := replaced_ok al tl 0 h' hs hd g
  simp only [Int.ofNat_eq_natCast, Int.natCast_zero] at r
  simp only [chg, EV, fldF_0, r]
end PM
end

section
set_option Elab.async false
set_option linter.all false
set_option maxRecDepth 100000
namespace PM
open PySem L2 Mini
theorem sl : sizeLine = 16777216 := rfl
theorem lap {xs : List MV} {x : MV} : (0 : Int) < ((xs ++ [x]).length : Int) := by rw [List.length_append]; simp
theorem lac {xs : List MV} {x : MV} : (0 : Int) < ((x :: xs).length : Int) := by rw [List.length_cons]; omega
theorem dl_len : ∀ (al : Al) (n m : Nat), (hkOf n (swp al)).length = al.length
  | al, n, _ => by rw [len_hk]; simp [swp]
theorem contrary_ok (al : Al) (h : MH) (a : apt al) (o : okA al) (hl : al.length ≤ 1000) : m_Change_contrary [chg (hkOf 0 al)] h = .ok (chg (hkOf 0 (swp al))) h := by
  have hl' : (hkOf 0 (swp al)).length ≤ 1000 := by rw [len_hk]; simpa [swp] using hl
  have oE := okE_hk (swp al) 0 (okA_swp o)
  refine cf_ok (l := [.lst ((hkOf 0 (swp al)).map encH)]) ?_ (rv_chg hl' oE)
  simp only [b_Change_contrary, EV, chg, fldF_0]
  generalize hL : forLoop _ _ _ _ _ _ = o
  obtain ⟨ρ', h', rfl, n, m, acc, a', b, c, al', e1, e2, e3, rfl, rfl⟩ := for_nx encH (fun xs ρ h' => ∃ (n m : Nat) (acc : List Hk) (a b c : Option MV) (al' : Al), xs = hkOf n al' ∧ hkOf 0 (swp al) = acc ++ hkOf m (swp al') ∧ acc.length + al'.length = al.length ∧ h' = h ++ [.lst (acc.map encH)] ∧
      ρ = [some (chg (hkOf 0 al)), some (.ref h.length), some (.int ((m : Int) - (n : Int))), a, b, c]) hL ⟨0, 0, [], none, none, none, al, rfl, rfl, by simp, rfl, rfl⟩ (fun _ _ _ _ => trivial) (by
    rintro x xs ρ h' ⟨n, m, acc, a', b, c, al', e1, e2, e3, rfl, rfl⟩
    cases al' with
    | nil => simp [hkOf] at e1
    | cons y al' =>
      obtain ⟨k, t, p⟩ := y
      simp only [hkOf, List.cons.injEq] at e1
      obtain ⟨rfl, rfl⟩ := e1
      have q1 : (acc.map encH).length < sizeLine := by simp only [List.length_map, List.length_cons, sl] at *; omega
      have q2 : ((n + k.length : Nat) : Int) + ((m : Int) - (n : Int)) = ((m + k.length : Nat) : Int) := by omega
      have q3 : ((m : Int) - (n : Int)) + ((p.length : Int) - (t.length : Int)) = ((m + k.length + p.length : Nat) : Int) - ((n + k.length + t.length : Nat) : Int) := by omega
      simp only [encH, EV, appK_e q1, q2, q3]
      exact ⟨n + k.length + t.length, m + k.length + p.length, acc ++ [⟨((m + k.length : Nat) : Int), p, t⟩], _, _, _, al', rfl, by rw [e2]; simp [swp, hkOf], by simp at *; omega, by simp [encH], rfl⟩)
  have e5 : al' = [] := by
    cases al' with
    | nil => rfl
    | cons y al' => obtain ⟨k, t, p⟩ := y; simp [hkOf] at e1
  subst e5
  simp only [swp, List.map_nil, hkOf, List.append_nil] at e2
  have e2' : acc = hkOf 0 (swp al) := e2.symm
  subst e2'
  have r := change_make0 (h := h ++ [.lst ((hkOf 0 (swp al)).map encH)]) (.ref h.length) (by simp only [EV]) (okH_hk0 (apt_swp al a)) oE hl'
  simp only [EV, r]
  rfl
def nonE (b : HB) : Bool := decide (0 < b.1.taken.length + b.1.put.length)
theorem fm_filter {α : Type} (p : α → Bool) (f : α → MV) : ∀ bs : List α, (bs.filterMap fun b => if p b = true then some (f b) else none) = (bs.filter p).map f
  | [] => rfl
  | b :: bs => by cases hn : p b <;> simp [hn, fm_filter p f bs]
theorem change_of_ok {hv : MV} {bs : List HB} {h : MH} (e : seqOf h hv = some (bs.map encB)) (hb : ∀ b ∈ bs, okB h b) (ok : okH (-1) ((bs.filter nonE).map (·.1))) (hE : ∀ b ∈ bs, okE b.1) (hl : bs.length ≤ 1000) :
    m_change_of [hv] h = .ok (chg ((bs.filter nonE).map (·.1))) h := by
  have hl2 : (bs.filter nonE).length ≤ 1000 := Nat.le_trans (List.length_filter_le ..) hl
  have hE2 : ∀ b ∈ bs.filter nonE, okE b.1 := fun b hb => hE b (List.mem_filter.mp hb).1
  refine cf_ok0 ?_ (rv_chg (by simpa using hl2) fun k hk => by obtain ⟨b, hb, rfl⟩ := List.mem_map.mp hk; exact hE2 b hb)
  obtain ⟨chk, e1, e2⟩ := itm_seq e
  simp only [b_change_of, EV, e1]
  rw [comp_fm encB (fun b => if nonE b = true then some (encB b) else none) (e2 _ fun _ _ => rfl) bs []]
  · rw [fm_filter]
    have r := change_make (hv := .lst ((bs.filter nonE).map encB)) (bs := bs.filter nonE) (h := h) rfl (fun b hb' => hb b (List.mem_filter.mp hb').1) ok hE2 hl2
    simp only [EV, r]
  · intro b hbm
    obtain ⟨b1, b2⟩ := hb b hbm
    by_cases c : (0 : Int) < (b.1.taken.length : Int) + (b.1.put.length : Int)
    · have : nonE b = true := decide_eq_true (by omega)
      simp only [encB, EV, fLen_v b1, fLen_v b2, c, this, if_true]
    · have : nonE b = false := decide_eq_false (by omega)
      simp only [encB, EV, fLen_v b1, fLen_v b2, c, this]
      simp
  · rw [sl]; simp; omega
/-! ### narrowing -/
open Classical in
noncomputable def strip : List MV → List MV → List MV × List MV
  | x :: xs, y :: ys => if x = y then strip xs ys else (x :: xs, y :: ys)
  | xs, ys => (xs, ys)
theorem strip_eq {x : MV} {xs ys : List MV} : strip (x :: xs) (x :: ys) = strip xs ys := by simp [strip]
theorem strip_ne {x y : MV} {xs ys : List MV} (e : x ≠ y) : strip (x :: xs) (y :: ys) = (x :: xs, y :: ys) := by simp only [strip]; exact if_neg e
theorem strip_n1 {ys : List MV} : strip [] ys = ([], ys) := by cases ys <;> simp [strip]
theorem strip_n2 {ys : List MV} : strip ys [] = (ys, []) := by cases ys <;> simp [strip]
theorem strip_pre : ∀ (xs ys : List MV), ∃ z, xs = z ++ (strip xs ys).1 ∧ ys = z ++ (strip xs ys).2
  | [], ys => ⟨[], by simp [strip_n1]⟩
  | x :: xs, [] => ⟨[], by simp [strip_n2]⟩
  | x :: xs, y :: ys => by
    by_cases e : x = y
    · subst e
      obtain ⟨z, h1, h2⟩ := strip_pre xs ys
      rw [strip_eq]
      exact ⟨x :: z, by simp [← h1], by simp [← h2]⟩
    · rw [strip_ne e]; exact ⟨[], rfl, rfl⟩
theorem strip_idem : ∀ (xs ys : List MV), strip (strip xs ys).1 (strip xs ys).2 = strip xs ys
  | [], ys => by simp [strip_n1]
  | x :: xs, [] => by simp [strip_n2]
  | x :: xs, y :: ys => by
    by_cases e : x = y
    · subst e; rw [strip_eq]; exact strip_idem xs ys
    · simp [strip_ne e]
theorem last_cases (xs : List MV) : xs = [] ∨ ∃ ys y, xs = ys ++ [y] := by
  rcases List.eq_nil_or_concat xs with h | ⟨ys, y, h⟩
  · exact .inl h
  · exact .inr ⟨ys, y, by simpa using h⟩
/-- the narrowed hunk -/
noncomputable def nr (n : Int) (xs ys : List MV) : Hk :=
  let a := strip xs.reverse ys.reverse
  let b := strip a.1.reverse a.2.reverse
  ⟨n + ((a.1.length : Int) - (b.1.length : Int)), b.1, b.2⟩
theorem narrow_ok {n : Int} {tv pv : MV} {xs ys : List MV} {h : MH} (ht : seqOf h tv = some xs) (hp : seqOf h pv = some ys) (lx : xs.length ≤ 1000) (ly : ys.length ≤ 1000) (gx : ∀ x ∈ xs, gd 30 x) (gy : ∀ x ∈ ys, gd 30 x) :
    m_narrow [.int n, tv, pv] h = .ok (.tup [.int (nr n xs ys).pl, .lst (nr n xs ys).taken, .lst (nr n xs ys).put]) h := by
  have ga : ∀ x ∈ (strip xs.reverse ys.reverse).1, x ∈ xs := fun x hx => by
    obtain ⟨z, h1, h2⟩ := strip_pre xs.reverse ys.reverse
    have : x ∈ xs.reverse := by rw [h1]; simp [hx]
    simpa using this
  have ga' : ∀ x ∈ (strip xs.reverse ys.reverse).2, x ∈ ys := fun x hx => by
    obtain ⟨z, h1, h2⟩ := strip_pre xs.reverse ys.reverse
    have : x ∈ ys.reverse := by rw [h2]; simp [hx]
    simpa using this
  have la : (strip xs.reverse ys.reverse).1.length ≤ 1000 := by
    obtain ⟨z, h1, h2⟩ := strip_pre xs.reverse ys.reverse
    have := congrArg List.length h1; simp at this; omega
  have la' : (strip xs.reverse ys.reverse).2.length ≤ 1000 := by
    obtain ⟨z, h1, h2⟩ := strip_pre xs.reverse ys.reverse
    have := congrArg List.length h2; simp at this; omega
  have fin : gd 64 (.tup [.int (nr n xs ys).pl, .lst (nr n xs ys).taken, .lst (nr n xs ys).put]) := by
    obtain ⟨z, h1, h2⟩ := strip_pre (strip xs.reverse ys.reverse).1.reverse (strip xs.reverse ys.reverse).2.reverse
    have l1 := congrArg List.length h1
    have l2 := congrArg List.length h2
    simp at l1 l2
    refine gd_tup (by simp) fun x hx => ?_
    simp only [List.mem_cons, List.not_mem_nil, or_false] at hx
    rcases hx with rfl | rfl | rfl
    · exact gd_int
    · refine gd_lst (by simp only [nr]; omega) fun x hx => gd_mono (by omega) (gx x (ga x ?_))
      have : x ∈ (strip xs.reverse ys.reverse).1.reverse := by rw [h1]; exact List.mem_append.mpr (.inr hx)
      simpa using this
    · refine gd_lst (by simp only [nr]; omega) fun x hx => gd_mono (by omega) (gy x (ga' x ?_))
      have : x ∈ (strip xs.reverse ys.reverse).2.reverse := by rw [h2]; exact List.mem_append.mpr (.inr hx)
      simpa using this
  refine cf_ok0 ?_ (Rv.gd fin)
  simp only [b_narrow, EV, fList_v ht, fList_v hp, mWhile_e]
  generalize hL : whileLoop _ _ _ _ _ = o
  obtain ⟨ρ', h', rfl, rfl, rfl⟩ := while_nx (fun k ρ h' => h' = h ∧ ∃ t p : List MV, t.length = k ∧ k ≤ 1000 ∧ strip t.reverse p.reverse = strip xs.reverse ys.reverse ∧ (∀ x ∈ t, x ∈ xs) ∧ (∀ x ∈ p, x ∈ ys) ∧ ρ = [some (.int n), some (.lst t), some (.lst p)])
    (fun ρ h' => h' = h ∧ ρ = [some (.int n), some (.lst (strip xs.reverse ys.reverse).1.reverse), some (.lst (strip xs.reverse ys.reverse).2.reverse)]) hL (n := xs.length) (by omega) ⟨rfl, xs, ys, rfl, lx, rfl, fun _ h => h, fun _ h => h, rfl⟩ (by
    rintro k ρ h' ⟨rfl, t, p, rfl, hk, e, mt, mp, rfl⟩
    rcases last_cases t with rfl | ⟨t', x, rfl⟩
    · simp only [EV, Int.lt_irrefl, Int.natCast_zero]
      rw [List.reverse_nil, strip_n1] at e
      refine ⟨fun _ => ⟨by trivial, by rw [← e]; simp⟩, fun q => by cases q⟩
    · rcases last_cases p with rfl | ⟨p', y, rfl⟩
      · have c1 : (0 : Int) < ((t' ++ [x]).length : Int) := lap
        simp only [EV, c1, Int.lt_irrefl]
        rw [List.reverse_nil, strip_n2] at e
        refine ⟨fun _ => ⟨by trivial, by rw [← e]; simp⟩, fun q => by cases q⟩
      · have c1 : (0 : Int) < ((t' ++ [x]).length : Int) := lap
        have c2 : (0 : Int) < ((p' ++ [y]).length : Int) := lap
        have g1 : gd 64 x := gd_mono (by omega) (gx x (mt x (by simp)))
        have g2 : gd 64 y := gd_mono (by omega) (gy y (mp y (by simp)))
        by_cases c3 : x = y
        · subst c3
          simp only [EV, c1, c2, fEq_t g1 g1 rfl]
          refine ⟨fun q => (by cases q), fun _ => ⟨t'.length, by simp, by trivial, t', p', rfl, by simp at hk; omega, ?_, fun z hz => mt z (by simp [hz]), fun z hz => mp z (by simp [hz]), rfl⟩⟩
          rw [← e]; simp [strip_eq]
        · simp only [EV, c1, c2, fEq_f g1 g2 c3]
          refine ⟨fun _ => ⟨by trivial, ?_⟩, fun q => by cases q⟩
          rw [← e]
          simp [strip_ne c3])
  simp only [EV, mWhile_e]
  generalize hL2 : whileLoop _ _ _ _ _ = o
  obtain ⟨ρ', h', rfl, rfl, rfl⟩ := while_nx (fun k ρ h2 => h2 = h' ∧ ∃ t p : List MV, t.length = k ∧ k ≤ 1000 ∧ strip t p = strip (strip xs.reverse ys.reverse).1.reverse (strip xs.reverse ys.reverse).2.reverse ∧ (∀ x ∈ t, x ∈ xs) ∧ (∀ x ∈ p, x ∈ ys) ∧ ρ = [some (.int (n + ((strip xs.reverse ys.reverse).1.length - t.length))), some (.lst t), some (.lst p)])
    (fun ρ h2 => h2 = h' ∧ ρ = [some (.int (nr n xs ys).pl), some (.lst (nr n xs ys).taken), some (.lst (nr n xs ys).put)]) hL2 (n := (strip xs.reverse ys.reverse).1.length) (by omega) ⟨rfl, _, _, by simp, la, rfl, fun x hx => ga x (by simpa using hx), fun x hx => ga' x (by simpa using hx), by simp⟩ (by
    rintro k ρ h2 ⟨rfl, t, p, rfl, hk, e, mt, mp, rfl⟩
    cases t with
    | nil =>
      simp only [EV, Int.lt_irrefl]
      rw [strip_n1] at e
      refine ⟨fun _ => ⟨by trivial, by simp [nr, ← e]⟩, fun q => by cases q⟩
    | cons x t' =>
      have c1 : (0 : Int) < ((x :: t').length : Int) := lac
      cases p with
      | nil =>
        simp only [EV, c1, Int.lt_irrefl]
        rw [strip_n2] at e
        refine ⟨fun _ => ⟨by trivial, by simp [nr, ← e]⟩, fun q => by cases q⟩
      | cons y p' =>
        have c2 : (0 : Int) < ((y :: p').length : Int) := lac
        have g1 : gd 64 x := gd_mono (by omega) (gx x (mt x (by simp)))
        have g2 : gd 64 y := gd_mono (by omega) (gy y (mp y (by simp)))
        by_cases c3 : x = y
        · subst c3
          simp only [EV, c1, c2, fEq_t g1 g1 rfl]
          refine ⟨fun q => (by cases q), fun _ => ⟨t'.length, by simp, by trivial, t', p', rfl, by simp at hk; omega, by rw [← e, strip_eq], fun z hz => mt z (by simp [hz]), fun z hz => mp z (by simp [hz]), ?_⟩⟩
          simp only [List.length_cons]
          congr 3
          omega
        · simp only [EV, c1, c2, fEq_f g1 g2 c3]
          rw [strip_ne c3] at e
          refine ⟨fun _ => ⟨by trivial, by simp [nr, ← e]⟩, fun q => by cases q⟩)
  simp only [EV]
end PM
end

section
set_option Elab.async false
set_option linter.all false
set_option maxRecDepth 100000
namespace PM
open PySem L2 Mini
/-! ### the law's own narrowing -/
noncomputable def nrL (n : Int) (xs ys : List MV) : List Hk := if 0 < (nr n xs ys).taken.length + (nr n xs ys).put.length then [nr n xs ys] else []
theorem nr_parts (n : Int) (xs ys : List MV) : ∃ (pre suf : List MV), xs = pre ++ ((nr n xs ys).taken ++ suf) ∧ ys = pre ++ ((nr n xs ys).put ++ suf) ∧ (nr n xs ys).pl = n + pre.length := by
  obtain ⟨z, h1, h2⟩ := strip_pre xs.reverse ys.reverse
  obtain ⟨u, k1, k2⟩ := strip_pre (strip xs.reverse ys.reverse).1.reverse (strip xs.reverse ys.reverse).2.reverse
  refine ⟨u, z.reverse, ?_, ?_, ?_⟩
  · have := congrArg List.reverse h1
    rw [List.reverse_reverse, List.reverse_append, k1, List.append_assoc] at this
    exact this
  · have := congrArg List.reverse h2
    rw [List.reverse_reverse, List.reverse_append, k2, List.append_assoc] at this
    exact this
  · have := congrArg List.length k1
    simp at this
    simp only [nr]; omega
theorem nr_okE {n : Int} {xs ys : List MV} (lx : xs.length ≤ 1000) (ly : ys.length ≤ 1000) (gx : ∀ x ∈ xs, gd 30 x) (gy : ∀ x ∈ ys, gd 30 x) : okE (nr n xs ys) := by
  obtain ⟨pre, suf, h1, h2, h3⟩ := nr_parts n xs ys
  have l1 := congrArg List.length h1
  have l2 := congrArg List.length h2
  simp at l1 l2
  exact ⟨by omega, by omega, fun x hx => gx x (by rw [h1]; simp [hx]), fun x hx => gy x (by rw [h2]; simp [hx])⟩
theorem stuck {xs ys : List MV} (h : strip xs ys = (xs, ys)) {x y : MV} {a b : List MV} (h1 : xs = x :: a) (h2 : ys = y :: b) : x ≠ y := by
  rintro rfl
  subst h1 h2
  rw [strip_eq] at h
  obtain ⟨z, k1, k2⟩ := strip_pre a b
  have := congrArg List.length (congrArg Prod.fst h)
  have := congrArg List.length k1
  simp at *; omega
theorem unstuck {xs ys : List MV} (h : ∀ x y a b, xs = x :: a → ys = y :: b → x ≠ y) : strip xs ys = (xs, ys) := by
  cases xs with
  | nil => rw [strip_n1]
  | cons x a => cases ys with
    | nil => rw [strip_n2]
    | cons y b => rw [strip_ne (h x y a b rfl rfl)]
theorem nr_idem (n : Int) (xs ys : List MV) : nr (nr n xs ys).pl (nr n xs ys).taken (nr n xs ys).put = nr n xs ys := by
  have e1 : strip (nr n xs ys).taken.reverse (nr n xs ys).put.reverse = ((nr n xs ys).taken.reverse, (nr n xs ys).put.reverse) := by
    refine unstuck fun x y a b hx hy => ?_
    obtain ⟨u, k1, k2⟩ := strip_pre (strip xs.reverse ys.reverse).1.reverse (strip xs.reverse ys.reverse).2.reverse
    have k1' := congrArg List.reverse k1
    have k2' := congrArg List.reverse k2
    rw [List.reverse_reverse, List.reverse_append] at k1' k2'
    exact stuck (strip_idem xs.reverse ys.reverse) (x := x) (y := y) (a := a ++ u.reverse) (b := b ++ u.reverse) (by rw [k1']; show (nr n xs ys).taken.reverse ++ u.reverse = _; rw [hx]; rfl) (by rw [k2']; show (nr n xs ys).put.reverse ++ u.reverse = _; rw [hy]; rfl)
  have e2 : strip (nr n xs ys).taken (nr n xs ys).put = ((nr n xs ys).taken, (nr n xs ys).put) := strip_idem _ _
  rw [nr, e1]
  simp only [List.reverse_reverse, e2, List.length_reverse, Int.sub_self, Int.add_zero]
theorem lst_nil {xs : List MV} : (MV.lst xs = .lst []) = (xs = []) := by simp
theorem law_narrow_ok {n : Int} {tv pv : MV} {xs ys : List MV} {h : MH} (ht : seqOf h tv = some xs) (hp : seqOf h pv = some ys) (lx : xs.length ≤ 1000) (ly : ys.length ≤ 1000) (gx : ∀ x ∈ xs, gd 30 x) (gy : ∀ x ∈ ys, gd 30 x) :
    m__law_narrow [.int n, tv, pv] h = .ok (.tup ((nrL n xs ys).map encH)) h := by
  have oE := nr_okE (n := n) lx ly gx gy
  have hl1 : (nrL n xs ys).length ≤ 1000 := by unfold nrL; split <;> simp
  have hE : ∀ k ∈ nrL n xs ys, okE k := fun k hk => by
    unfold nrL at hk
    split at hk
    · simp at hk; subst hk; exact oE
    · simp at hk
  have ga : ∀ x ∈ (strip xs.reverse ys.reverse).1, x ∈ xs := fun x hx => by
    obtain ⟨z, h1, h2⟩ := strip_pre xs.reverse ys.reverse
    have : x ∈ xs.reverse := by rw [h1]; simp [hx]
    simpa using this
  have ga' : ∀ x ∈ (strip xs.reverse ys.reverse).2, x ∈ ys := fun x hx => by
    obtain ⟨z, h1, h2⟩ := strip_pre xs.reverse ys.reverse
    have : x ∈ ys.reverse := by rw [h2]; simp [hx]
    simpa using this
  have la : (strip xs.reverse ys.reverse).1.length ≤ 1000 := by
    obtain ⟨z, h1, h2⟩ := strip_pre xs.reverse ys.reverse
    have := congrArg List.length h1; simp at this; omega
  have la' : (strip xs.reverse ys.reverse).2.length ≤ 1000 := by
    obtain ⟨z, h1, h2⟩ := strip_pre xs.reverse ys.reverse
    have := congrArg List.length h2; simp at this; omega
  have gl : ∀ {t : List MV}, t.length ≤ 1000 → (∀ x ∈ t, x ∈ xs ∨ x ∈ ys) → gd 64 (.lst t) := fun {t} hl hm => gd_lst hl fun x hx => by
    rcases hm x hx with q | q
    · exact gd_mono (by omega) (gx x q)
    · exact gd_mono (by omega) (gy x q)
  have gn : gd 64 (.lst []) := gd_lst (by simp) (by simp)
  refine cf_ok0 ?_ (Rv.gd (gd_mono (by omega) (gd_hs hl1 hE)))
  have q0 : -(2 ^ 62) ≤ (xs.length : Int) + ys.length ∧ (xs.length : Int) + ys.length < 2 ^ 62 := ⟨by omega, by omega⟩
  have q1 : ((xs.length : Int) + (ys.length : Int)).toNat = xs.length + ys.length := by omega
  simp only [b__law_narrow, EV, fList_v ht, fList_v hp, rng1_e q0, q1]
  generalize hL : forLoop _ _ _ _ _ _ = o
  obtain ⟨ρ', h', rfl, rfl, t, p, k', e1, e2, e3, e4, e5, rfl⟩ := for_rng (fun k ρ h' => h' = h ∧ ∃ (t p : List MV) (k' : Option MV), strip t.reverse p.reverse = strip xs.reverse ys.reverse ∧ (t.length + k = xs.length ∨ strip t.reverse p.reverse = (t.reverse, p.reverse)) ∧ (∀ x ∈ t, x ∈ xs) ∧ (∀ x ∈ p, x ∈ ys) ∧ (t.length ≤ 1000 ∧ p.length ≤ 1000) ∧ ρ = [some (.int n), some (.lst t), some (.lst p), k'])
    hL ⟨rfl, xs, ys, none, rfl, .inl (by omega), fun _ h => h, fun _ h => h, ⟨lx, ly⟩, rfl⟩ (fun _ _ _ _ => trivial) (by
    rintro k ρ h' hk ⟨rfl, t, p, k', e1, e2, e3, e4, e5, rfl⟩
    have g1 := gl e5.1 fun x hx => .inl (e3 x hx)
    have g2 := gl e5.2 fun x hx => .inr (e4 x hx)
    rcases last_cases t with rfl | ⟨t', x, rfl⟩
    · simp only [EV, fNe_f gn gn rfl]
      exact ⟨by trivial, [], p, _, e1, .inr (by simp [strip_n1]), e3, e4, e5, rfl⟩
    · have n1 : MV.lst (t' ++ [x]) ≠ .lst [] := by simp
      rcases last_cases p with rfl | ⟨p', y, rfl⟩
      · simp only [EV, fNe_t g1 gn n1, fNe_f gn gn rfl]
        exact ⟨by trivial, t' ++ [x], [], _, e1, .inr (by simp [strip_n2]), e3, e4, e5, rfl⟩
      · have n2 : MV.lst (p' ++ [y]) ≠ .lst [] := by simp
        have w1 : (((t' ++ [x]).length : Nat) : Int) - 1 = ((t'.length : Nat) : Int) := by simp
        have w2 : (((p' ++ [y]).length : Nat) : Int) - 1 = ((p'.length : Nat) : Int) := by simp
        have w3 : (t' ++ [x])[t'.length]? = some x := by simp
        have w4 : (p' ++ [y])[p'.length]? = some y := by simp
        have w5 : (t' ++ [x]).take t'.length = t' := by simp
        have w6 : (p' ++ [y]).take p'.length = p' := by simp
        have g3 : gd 64 x := gd_mono (by omega) (gx x (e3 x (by simp)))
        have g4 : gd 64 y := gd_mono (by omega) (gy y (e4 y (by simp)))
        by_cases c3 : x = y
        · subst c3
          simp only [EV, fNe_t g1 gn n1, fNe_t g2 gn n2, w1, w2, w3, w4, fEq_t g3 g3 rfl, w5, w6]
          refine ⟨by trivial, t', p', _, by rw [← e1]; simp [strip_eq], ?_, fun z hz => e3 z (by simp [hz]), fun z hz => e4 z (by simp [hz]), ⟨by simp at e5; omega, by simp at e5; omega⟩, rfl⟩
          rcases e2 with e2 | e2
          · left; simp at e2; omega
          · exfalso; exact stuck e2 (x := x) (y := x) (a := t'.reverse) (b := p'.reverse) (by simp) (by simp) rfl
        · simp only [EV, fNe_t g1 gn n1, fNe_t g2 gn n2, w1, w2, w3, w4, fEq_f g3 g4 c3]
          exact ⟨by trivial, t' ++ [x], p' ++ [y], _, e1, .inr (by simp [strip_ne c3]), e3, e4, e5, rfl⟩)
  have s1 : strip t.reverse p.reverse = (t.reverse, p.reverse) := by
    rcases e2 with e2 | e2
    · have : t = [] := by rw [← List.length_eq_zero_iff]; omega
      subst this; simp [strip_n1]
    · exact e2
  rw [s1] at e1
  have et : t = (strip xs.reverse ys.reverse).1.reverse := by rw [← e1]; simp
  have ep : p = (strip xs.reverse ys.reverse).2.reverse := by rw [← e1]; simp
  have q0 : -(2 ^ 62) ≤ (t.length : Int) + p.length ∧ (t.length : Int) + p.length < 2 ^ 62 := ⟨by omega, by omega⟩
  have q1 : ((t.length : Int) + (p.length : Int)).toNat = t.length + p.length := by omega
  simp only [EV, rng1_e q0, q1]
  generalize hL2 : forLoop _ _ _ _ _ _ = o
  obtain ⟨ρ', h', rfl, rfl, t2, p2, k2, f1, f2, f3, f4, f5, rfl⟩ := for_rng (fun k ρ h2 => h2 = h' ∧ ∃ (t2 p2 : List MV) (k' : Option MV), strip t2 p2 = strip t p ∧ (t2.length + k = t.length ∨ strip t2 p2 = (t2, p2)) ∧ (∀ x ∈ t2, x ∈ xs) ∧ (∀ x ∈ p2, x ∈ ys) ∧ (t2.length ≤ 1000 ∧ p2.length ≤ 1000) ∧ ρ = [some (.int (n + ((t.length : Int) - t2.length))), some (.lst t2), some (.lst p2), k'])
    hL2 ⟨rfl, t, p, _, rfl, .inl (by omega), e3, e4, e5, by simp; rfl⟩ (fun _ _ _ _ => trivial) (by
    rintro k ρ h' hk ⟨rfl, t2, p2, k', f1, f2, f3, f4, f5, rfl⟩
    have g1 := gl f5.1 fun x hx => .inl (f3 x hx)
    have g2 := gl f5.2 fun x hx => .inr (f4 x hx)
    cases t2 with
    | nil =>
      simp only [EV, fNe_f gn gn rfl]
      exact ⟨by trivial, [], p2, _, f1, .inr (by simp [strip_n1]), f3, f4, f5, rfl⟩
    | cons x t' =>
      have n1 : MV.lst (x :: t') ≠ .lst [] := by simp
      cases p2 with
      | nil =>
        simp only [EV, fNe_t g1 gn n1, fNe_f gn gn rfl]
        exact ⟨by trivial, x :: t', [], _, f1, .inr (by simp [strip_n2]), f3, f4, f5, rfl⟩
      | cons y p' =>
        have n2 : MV.lst (y :: p') ≠ .lst [] := by simp
        have g3 : gd 64 x := gd_mono (by omega) (gx x (f3 x (by simp)))
        have g4 : gd 64 y := gd_mono (by omega) (gy y (f4 y (by simp)))
        by_cases c3 : x = y
        · subst c3
          simp only [EV, fNe_t g1 gn n1, fNe_t g2 gn n2, fEq_t g3 g3 rfl]
          refine ⟨by trivial, t', p', some (.int (k : Int)), by rw [← f1]; simp [strip_eq], ?_, fun z hz => f3 z (by simp [hz]), fun z hz => f4 z (by simp [hz]), ⟨by simp at f5; omega, by simp at f5; omega⟩, ?_⟩
          · rcases f2 with f2 | f2
            · left; simp at f2; omega
            · exfalso; exact stuck f2 (x := x) (y := x) (a := t') (b := p') rfl rfl rfl
          · congr 3
            simp; omega
        · simp only [EV, fNe_t g1 gn n1, fNe_t g2 gn n2, fEq_f g3 g4 c3]
          exact ⟨by trivial, x :: t', y :: p', _, f1, .inr (strip_ne c3), f3, f4, f5, rfl⟩)
  have s2 : strip t2 p2 = (t2, p2) := by
    rcases f2 with f2 | f2
    · have : t2 = [] := by rw [← List.length_eq_zero_iff]; omega
      subst this; simp [strip_n1]
    · exact f2
  rw [s2] at f1
  have en : nr n xs ys = ⟨n + ((t.length : Int) - (t2.length : Int)), t2, p2⟩ := by
    simp only [nr, ← et, ← ep, ← f1]
    congr 2; rw [et]; simp
  have g1 := gl f5.1 fun x hx => .inl (f3 x hx)
  have g2 := gl f5.2 fun x hx => .inr (f4 x hx)
  unfold nrL
  rw [en]
  cases t2 with
  | nil =>
    cases p2 with
    | nil => simp only [EV, fEq_t gn gn rfl]; simp
    | cons y p' =>
      have n2 : MV.lst (y :: p') ≠ .lst [] := by simp
      simp only [EV, fEq_t gn gn rfl, fEq_f g2 gn n2]; simp [encH]
  | cons x t' =>
    have n1 : MV.lst (x :: t') ≠ .lst [] := by simp
    simp only [EV, fEq_f g1 gn n1]
    rw [if_pos (by simp; omega)]; simp [encH]
end PM
end

section
set_option Elab.async false
set_option linter.all false
set_option maxRecDepth 100000
namespace PM
open PySem L2 Mini
noncomputable def narL (hs : List Hk) : List Hk := hs.flatMap fun k => nrL k.pl k.taken k.put
def neK (k : Hk) : Bool := decide (0 < k.taken.length + k.put.length)
theorem narL_filter (hs : List Hk) : narL hs = (hs.map fun k => nr k.pl k.taken k.put).filter neK := by
  induction hs with
  | nil => rfl
  | cons k hs ih =>
    unfold narL at ih ⊢
    rw [List.flatMap_cons, List.map_cons, ih]
    unfold nrL neK
    by_cases c : 0 < (nr k.pl k.taken k.put).taken.length + (nr k.pl k.taken k.put).put.length
    · rw [if_pos c, List.filter_cons_of_pos (by simpa using c)]; rfl
    · rw [if_neg c, List.filter_cons_of_neg (by simpa using c)]; rfl
theorem narL_okE {hs : List Hk} (h : ∀ k ∈ hs, okE k) : ∀ k ∈ narL hs, okE k := fun k hk => by
  rw [narL_filter] at hk
  obtain ⟨k', hk', rfl⟩ := List.mem_map.mp (List.mem_filter.mp hk).1
  have := h k' hk'
  exact nr_okE this.1 this.2.1 this.2.2.1 this.2.2.2
theorem narL_len {hs : List Hk} : (narL hs).length ≤ hs.length := by
  rw [narL_filter]; exact Nat.le_trans (List.length_filter_le ..) (by simp)
theorem narL_idem (hs : List Hk) : narL (narL hs) = narL hs := by
  rw [narL_filter (narL hs), narL_filter hs]
  induction hs with
  | nil => rfl
  | cons k hs ih =>
    rw [List.map_cons]
    by_cases c : neK (nr k.pl k.taken k.put) = true
    · rw [List.filter_cons_of_pos c, List.map_cons, nr_idem, List.filter_cons_of_pos c, ih]
    · rw [List.filter_cons_of_neg c, ih]
/-- narrowing over a tuple or a list of hunks -/
theorem narrowed_ok {hs : List Hk} {h : MH} (hE : ∀ k ∈ hs, okE k) (hl : hs.length ≤ 1000) (ok : okH (-1) (narL hs)) : m_narrowed [chg hs] h = .ok (chg (narL hs)) h := by
  refine cf_ok0 ?_ (rv_chg (Nat.le_trans narL_len hl) (narL_okE hE))
  simp only [b_narrowed, EV, chg, fldF_0]
  let bs : List HB := hs.map fun k => (nr k.pl k.taken k.put, MV.lst (nr k.pl k.taken k.put).taken, MV.lst (nr k.pl k.taken k.put).put)
  have e1 : (bs.filter nonE).map (·.1) = narL hs := by
    rw [narL_filter]
    show ((hs.map _).filter nonE).map _ = _
    rw [List.filter_map, List.map_map, List.filter_map]; rfl
  rw [comp_all encH (fun k => encB (nr k.pl k.taken k.put, MV.lst (nr k.pl k.taken k.put).taken, MV.lst (nr k.pl k.taken k.put).put)) trivial hs]
  · have r := change_of_ok (hv := .lst (bs.map encB)) (bs := bs) (h := h) rfl (fun b hb => by
      obtain ⟨k, _, rfl⟩ := List.mem_map.mp hb; exact ⟨rfl, rfl⟩) (by rw [e1]; exact ok) (fun b hb => by
      obtain ⟨k, hk, rfl⟩ := List.mem_map.mp hb
      have := hE k hk
      exact nr_okE this.1 this.2.1 this.2.2.1 this.2.2.2) (by simpa [bs] using hl)
    rw [e1] at r
    have e2 : (hs.map fun k => encB (nr k.pl k.taken k.put, MV.lst (nr k.pl k.taken k.put).taken, MV.lst (nr k.pl k.taken k.put).put)) = bs.map encB := by
      simp [bs]
    simp only [EV, e2, r, chg]
  · intro k hk
    have := hE k hk
    have r := narrow_ok (n := k.pl) (tv := .tup k.taken) (pv := .tup k.put) (h := h) rfl rfl this.1 this.2.1 this.2.2.1 this.2.2.2
    simp only [encH, EV, r]
    rfl
  · rw [sl]; omega
theorem change_between_narrow {xs ys : List MV} {h : MH} (lx : xs.length ≤ 1000) (ly : ys.length ≤ 1000) (gx : ∀ x ∈ xs, gd 30 x) (gy : ∀ x ∈ ys, gd 30 x) :
    m_change_of [.lst [.tup [.int (nr 0 xs ys).pl, .lst (nr 0 xs ys).taken, .lst (nr 0 xs ys).put]]] h = .ok (chg (nrL 0 xs ys)) h := by
  have e1 : ([((nr 0 xs ys), MV.lst (nr 0 xs ys).taken, MV.lst (nr 0 xs ys).put)].filter nonE).map (·.1) = nrL 0 xs ys := by
    unfold nrL
    by_cases c : 0 < (nr 0 xs ys).taken.length + (nr 0 xs ys).put.length
    · rw [if_pos c, List.filter_cons_of_pos (by simpa [nonE] using c)]; rfl
    · rw [if_neg c, List.filter_cons_of_neg (by simpa [nonE] using c)]; rfl
  have oE := nr_okE (n := 0) lx ly gx gy
  obtain ⟨pre, suf, h1, h2, h3⟩ := nr_parts 0 xs ys
  have r := change_of_ok (hv := .lst [.tup [.int (nr 0 xs ys).pl, .lst (nr 0 xs ys).taken, .lst (nr 0 xs ys).put]]) (bs := [((nr 0 xs ys), MV.lst (nr 0 xs ys).taken, MV.lst (nr 0 xs ys).put)]) (h := h) rfl (fun b hb => by
      simp only [List.mem_cons, List.not_mem_nil, or_false] at hb; subst hb; exact ⟨rfl, rfl⟩) (by
      rw [e1]; unfold nrL; split
      · rename_i c; exact ⟨by omega, by omega, c, trivial⟩
      · trivial) (fun b hb => by
      simp only [List.mem_cons, List.not_mem_nil, or_false] at hb; subst hb; exact oE) (by simp)
  rw [e1] at r
  exact r
theorem hunks_good_ok {hs : List Hk} {h : MH} (ok : okH (-1) hs) : m__law_hunks_good [.tup (hs.map encH)] h = .ok (.bl true) h := by
  refine cf_ok0 ?_ Rv.bl
  simp only [b__law_hunks_good, EV]
  generalize hL : forLoop _ _ _ _ _ _ = o
  obtain ⟨ρ', h', rfl, rfl, _, _, _, _, _, rfl⟩ := for_nx encH (fun xs ρ h' => h' = h ∧ ∃ e a b c, okH e xs ∧ ρ = [some (.tup (hs.map encH)), some (.int e), a, b, c]) hL ⟨rfl, -1, none, none, none, ok, rfl⟩ (fun _ _ _ _ => trivial) (by
    rintro x xs ρ h' ⟨rfl, e, a, b, c, ⟨o1, o2, o3, o4⟩, rfl⟩
    have c1 : ¬ x.pl ≤ e := by omega
    have c2 : ¬ ((x.taken.length : Int) + (x.put.length : Int) = 0) := by omega
    simp only [encH, EV, c1, c2]
    exact ⟨by trivial, _, _, _, _, o4, rfl⟩)
  simp only [EV]
/-! ### narrowing an alignment -/
noncomputable def narA : List MV → Al → List MV → Al × List MV
  | c, [], tl => ([], c ++ tl)
  | c, (k, t, p) :: al, tl =>
    let a := strip t.reverse p.reverse
    let b := strip a.1.reverse a.2.reverse
    if 0 < b.1.length + b.2.length then
      let r := narA (t.drop a.1.length) al tl
      ((c ++ (k ++ t.take (a.1.length - b.1.length)), b.1, b.2) :: r.1, r.2)
    else narA (c ++ (k ++ t)) al tl
theorem nr_cut (t p : List MV) : ∃ suf, t = t.take ((strip t.reverse p.reverse).1.length - (nr 0 t p).taken.length) ++ ((nr 0 t p).taken ++ suf) ∧ p = t.take ((strip t.reverse p.reverse).1.length - (nr 0 t p).taken.length) ++ ((nr 0 t p).put ++ suf) ∧ suf = t.drop (strip t.reverse p.reverse).1.length ∧ ∀ n : Int, (nr n t p).pl = n + ((t.take ((strip t.reverse p.reverse).1.length - (nr 0 t p).taken.length)).length : Int) := by
  obtain ⟨z, h1, h2⟩ := strip_pre t.reverse p.reverse
  obtain ⟨u, k1, k2⟩ := strip_pre (strip t.reverse p.reverse).1.reverse (strip t.reverse p.reverse).2.reverse
  have e1 : t = u ++ ((nr 0 t p).taken ++ z.reverse) := by
    have := congrArg List.reverse h1
    rw [List.reverse_reverse, List.reverse_append, k1, List.append_assoc] at this
    exact this
  have e2 : p = u ++ ((nr 0 t p).put ++ z.reverse) := by
    have := congrArg List.reverse h2
    rw [List.reverse_reverse, List.reverse_append, k2, List.append_assoc] at this
    exact this
  have l1 : (strip t.reverse p.reverse).1.length = u.length + (nr 0 t p).taken.length := by
    have := congrArg List.length k1
    simp only [List.length_reverse, List.length_append] at this
    exact this
  have e3 : t.take ((strip t.reverse p.reverse).1.length - (nr 0 t p).taken.length) = u := by
    rw [l1, Nat.add_sub_cancel]
    exact (congrArg (List.take u.length) e1).trans (by simp)
  have e4 : t.drop (strip t.reverse p.reverse).1.length = z.reverse := by
    rw [l1]
    exact (congrArg (List.drop _) e1).trans (by rw [← List.append_assoc]; exact List.drop_left' (by simp))
  refine ⟨z.reverse, by rw [e3]; exact e1, by rw [e3]; exact e2, e4.symm, fun n => ?_⟩
  rw [e3]
  simp only [nr]
  have : ((nr 0 t p).taken.length) = (strip (strip t.reverse p.reverse).1.reverse (strip t.reverse p.reverse).2.reverse).1.length := rfl
  omega
theorem src_cons (c : List MV) (al : Al) (tl k t p) : src ((c ++ k, t, p) :: al) tl = c ++ src ((k, t, p) :: al) tl := by simp [src]
theorem narA_all : ∀ (al : Al) (c tl : List MV), src (narA c al tl).1 (narA c al tl).2 = c ++ src al tl ∧ dst (narA c al tl).1 (narA c al tl).2 = c ++ dst al tl
  | [], c, tl => ⟨rfl, rfl⟩
  | (k, t, p) :: al, c, tl => by
    obtain ⟨suf, e1, e2, e3, e4⟩ := nr_cut t p
    simp only [narA]
    split
    · have ih := narA_all al (t.drop (strip t.reverse p.reverse).1.length) tl
      constructor
      · simp only [src]
        rw [ih.1, ← e3]
        have e1' : t.take ((strip t.reverse p.reverse).1.length - (strip (strip t.reverse p.reverse).1.reverse (strip t.reverse p.reverse).2.reverse).1.length) ++ ((strip (strip t.reverse p.reverse).1.reverse (strip t.reverse p.reverse).2.reverse).1 ++ suf) = t := e1.symm
        have : ∀ z, t ++ z = t.take ((strip t.reverse p.reverse).1.length - (strip (strip t.reverse p.reverse).1.reverse (strip t.reverse p.reverse).2.reverse).1.length) ++ ((strip (strip t.reverse p.reverse).1.reverse (strip t.reverse p.reverse).2.reverse).1 ++ (suf ++ z)) := fun z => by
          rw [← List.append_assoc _ suf, ← List.append_assoc, e1']
        rw [this]; simp only [List.append_assoc]
      · simp only [dst]
        rw [ih.2, ← e3]
        have e1' : t.take ((strip t.reverse p.reverse).1.length - (strip (strip t.reverse p.reverse).1.reverse (strip t.reverse p.reverse).2.reverse).1.length) ++ ((strip (strip t.reverse p.reverse).1.reverse (strip t.reverse p.reverse).2.reverse).2 ++ suf) = p := e2.symm
        have : ∀ z, p ++ z = t.take ((strip t.reverse p.reverse).1.length - (strip (strip t.reverse p.reverse).1.reverse (strip t.reverse p.reverse).2.reverse).1.length) ++ ((strip (strip t.reverse p.reverse).1.reverse (strip t.reverse p.reverse).2.reverse).2 ++ (suf ++ z)) := fun z => by
          rw [← List.append_assoc _ suf, ← List.append_assoc, e1']
        rw [this]; simp only [List.append_assoc]
    · rename_i c0
      have n1 : (nr 0 t p).taken = [] := by
        rw [← List.length_eq_zero_iff]; simp only [nr]; omega
      have n2 : (nr 0 t p).put = [] := by
        rw [← List.length_eq_zero_iff]; simp only [nr]; omega
      have e5 : p = t := by rw [n1] at e1; rw [n2, n1] at e2; exact e2.trans e1.symm
      have ih := narA_all al (c ++ (k ++ t)) tl
      rw [ih.1, ih.2]
      simp [src, dst, e5]
theorem narA_hk : ∀ (al : Al) (c tl : List MV) (n : Nat), hkOf n (narA c al tl).1 = narL (hkOf (n + c.length) al)
  | [], c, tl, n => rfl
  | (k, t, p) :: al, c, tl, n => by
    obtain ⟨suf, e1, e2, e3, e4⟩ := nr_cut t p
    simp only [narA, hkOf]
    have l1 := congrArg List.length e1
    simp only [List.length_append] at l1
    have e5 := e4 ((n + c.length + k.length : Nat) : Int)
    have q1 : (nr ((n + c.length + k.length : Nat) : Int) t p).taken = (strip (strip t.reverse p.reverse).1.reverse (strip t.reverse p.reverse).2.reverse).1 := rfl
    have q2 : (nr ((n + c.length + k.length : Nat) : Int) t p).put = (strip (strip t.reverse p.reverse).1.reverse (strip t.reverse p.reverse).2.reverse).2 := rfl
    have q3 : (nr 0 t p).taken = (strip (strip t.reverse p.reverse).1.reverse (strip t.reverse p.reverse).2.reverse).1 := rfl
    rw [q3] at l1 e5
    have hn : narL (⟨((n + c.length + k.length : Nat) : Int), t, p⟩ :: hkOf (n + c.length + k.length + t.length) al) = nrL ((n + c.length + k.length : Nat) : Int) t p ++ narL (hkOf (n + c.length + k.length + t.length) al) := rfl
    rw [hn]
    split
    · rename_i c0
      simp only [hkOf]
      rw [narA_hk al, nrL, q1, q2, if_pos c0, ← e3]
      have e6 : nr ((n + c.length + k.length : Nat) : Int) t p = ⟨((n + (c ++ (k ++ t.take ((strip t.reverse p.reverse).1.length - (strip (strip t.reverse p.reverse).1.reverse (strip t.reverse p.reverse).2.reverse).1.length))).length : Nat) : Int), (strip (strip t.reverse p.reverse).1.reverse (strip t.reverse p.reverse).2.reverse).1, (strip (strip t.reverse p.reverse).1.reverse (strip t.reverse p.reverse).2.reverse).2⟩ := by
        have : ∀ (a b : Hk), a.pl = b.pl → a.taken = b.taken → a.put = b.put → a = b := fun a b h1 h2 h3 => by
          cases a; cases b; simp only at h1 h2 h3; subst h1 h2 h3; rfl
        refine this _ _ ?_ rfl rfl
        rw [e5]; simp only [List.length_append]; omega
      rw [e6]
      simp only [List.singleton_append, List.cons.injEq, true_and]
      congr 2
      simp only [List.length_append]; omega
    · rename_i c0
      rw [narA_hk al, nrL, q1, q2, if_neg c0]
      simp only [List.nil_append]
      congr 2
      simp only [List.length_append]; omega
theorem narA_keep : ∀ (al : Al) (c tl : List MV), (∀ x ∈ al, 0 < x.1.length) → ∀ x ∈ (narA c al tl).1, 0 < x.1.length
  | [], c, tl, _, x, hx => by simp [narA] at hx
  | (k, t, p) :: al, c, tl, h, x, hx => by
    have hk := h (k, t, p) (by simp)
    simp only [narA] at hx
    split at hx
    · simp only [List.mem_cons] at hx
      rcases hx with rfl | hx
      · simp only [List.length_append] at hk ⊢; omega
      · exact narA_keep al _ tl (fun y hy => h y (by simp [hy])) x hx
    · exact narA_keep al _ tl (fun y hy => h y (by simp [hy])) x hx
theorem narA_apt : ∀ (al : Al) (c tl : List MV), (∀ x ∈ al.tail, 0 < x.1.length) → apt (narA c al tl).1
  | [], c, tl, _ => trivial
  | (k, t, p) :: al, c, tl, h => by
    have h' : ∀ x ∈ al, 0 < x.1.length := h
    simp only [narA]
    split
    · rename_i c0
      exact ⟨c0, narA_keep al _ tl h', narA_apt al _ tl fun x hx => h' x (List.mem_of_mem_tail hx)⟩
    · exact narA_apt al _ tl fun x hx => h' x (List.mem_of_mem_tail hx)
theorem apt_keep {al : Al} (a : apt al) : ∀ x ∈ al.tail, 0 < x.1.length := by
  cases al with
  | nil => simp
  | cons y al => exact a.2.1
theorem narA_okA : ∀ (al : Al) (c tl : List MV), okA al → okA (narA c al tl).1
  | [], c, tl, _, x, hx => by simp [narA] at hx
  | (k, t, p) :: al, c, tl, o, x, hx => by
    have ho := o (k, t, p) (by simp)
    have ih := fun c => narA_okA al c tl fun y hy => o y (by simp [hy])
    simp only [narA] at hx
    split at hx
    · simp only [List.mem_cons] at hx
      rcases hx with rfl | hx
      · exact nr_okE (n := 0) ho.1 ho.2.1 ho.2.2.1 ho.2.2.2
      · exact ih _ x hx
    · exact ih _ x hx
theorem narA_len : ∀ (al : Al) (c tl : List MV), (narA c al tl).1.length ≤ al.length
  | [], c, tl => by simp [narA]
  | (k, t, p) :: al, c, tl => by
    simp only [narA]
    split
    · have := narA_len al (t.drop (strip t.reverse p.reverse).1.length) tl
      simp only [List.length_cons]; omega
    · have := narA_len al (c ++ (k ++ t)) tl
      simp only [List.length_cons]; omega
end PM
end

section
set_option Elab.async false
set_option linter.all false
set_option maxRecDepth 100000
/-! Forms as trees, outlines as their leaves. -/
namespace PM
open PySem L2 Mini
abbrev Row := List MV
inductive T where
  | node (c : Row) (is : List T)
abbrev Lf := Nat × List Row
mutual
def encT : T → MV
  | .node c is => .tup [.tup c, .lst (encTs is)]
def encTs : List T → List MV
  | [] => []
  | t :: ts => encT t :: encTs ts
end
theorem encTs_map : ∀ ts : List T, encTs ts = ts.map encT
  | [] => rfl
  | t :: ts => by simp only [encTs, List.map_cons, encTs_map ts]
def encP (p : List Row) : MV := .tup (p.map MV.tup)
def encL (x : Lf) : MV := .tup [.int x.1, encP x.2]
theorem encP_inj {p q : List Row} (h : encP p = encP q) : p = q := by
  simp only [encP, MV.tup.injEq] at h
  exact (List.map_inj_right fun a b e => by injection e).mp h
theorem encL_inj {x y : Lf} (h : encL x = encL y) : x = y := by
  simp only [encL, MV.tup.injEq, List.cons.injEq, MV.int.injEq, and_true] at h
  obtain ⟨a, b⟩ := x; obtain ⟨c, d⟩ := y
  simp only at h
  rw [encP_inj h.2, show a = c by omega]
theorem encLs_inj {x y : List Lf} (h : x.map encL = y.map encL) : x = y := (List.map_inj_right fun a b e => encL_inj e).mp h
/-! ### putting rows in at the right edge -/
def insAt : Nat → Row → List T → List T
  | 0, c, ts => ts ++ [.node c []]
  | d + 1, c, ts => match ts.getLast? with
    | some (.node c' is) => ts.dropLast ++ [.node c' (insAt d c is)]
    | none => ts
theorem insAt_s {d : Nat} {c c' : Row} {ts is : List T} : insAt (d + 1) c (ts ++ [.node c' is]) = ts ++ [.node c' (insAt d c is)] := by
  simp [insAt]
def insP : Nat → List Row → List T → List T
  | _, [], ts => ts
  | d, c :: cs, ts => insP (d + 1) cs (insAt d c ts)
theorem insP_s {c' : Row} {ts : List T} : ∀ {cs : List Row} {d : Nat} {is : List T}, insP (d + 1) cs (ts ++ [.node c' is]) = ts ++ [.node c' (insP d cs is)]
  | [], d, is => rfl
  | c :: cs, d, is => by simp only [insP, insAt_s]; exact insP_s
theorem insP_0 {c : Row} {cs : List Row} {ts : List T} : insP 0 (c :: cs) ts = ts ++ [.node c (insP 0 cs [])] := by
  simp only [insP, insAt]; exact insP_s
def treeFrom (ts : List T) : List Lf → List T
  | [] => ts
  | x :: o => treeFrom (insP x.1 (x.2.drop x.1) ts) o
def treeOf (o : List Lf) : List T := treeFrom [] o
/-- the rows at the right edge -/
def RS : List T → List Row → Prop
  | ts, [] => ts = []
  | ts, c :: q => ∃ ts' is, ts = ts' ++ [.node c is] ∧ RS is q
mutual
def lvT : T → List Row → Nat → List Lf
  | .node c is, up, s => match is with
    | [] => [(s, up ++ [c])]
    | _ :: _ => lvTs is (up ++ [c]) s
def lvTs : List T → List Row → Nat → List Lf
  | [], _, _ => []
  | t :: ts, up, s => lvT t up s ++ lvTs ts up up.length
end
theorem lvT_nil {c : Row} {up : List Row} {s : Nat} : lvT (.node c []) up s = [(s, up ++ [c])] := by simp only [lvT]
theorem lvT_cons {c : Row} {is : List T} {up : List Row} {s : Nat} (h : is ≠ []) : lvT (.node c is) up s = lvTs is (up ++ [c]) s := by
  cases is with
  | nil => exact absurd rfl h
  | cons t ts => simp only [lvT]
theorem lvTs_app : ∀ (ts us : List T) (up : List Row) (s : Nat), lvTs (ts ++ us) up s = lvTs ts up s ++ lvTs us up (if ts = [] then s else up.length)
  | [], us, up, s => by simp [lvTs]
  | t :: ts, us, up, s => by
    simp only [List.cons_append, lvTs, lvTs_app ts us up up.length, List.append_assoc]
    simp
theorem ins_ne : ∀ (cs : List Row) (d : Nat) (ts : List T), ts ≠ [] → insP d cs ts ≠ []
  | [], _, _, h => h
  | c :: cs, d, ts, h => by
    simp only [insP]
    refine ins_ne cs _ _ ?_
    cases d with
    | zero => simp [insAt]
    | succ d =>
      simp only [insAt]
      cases e : ts.getLast? with
      | none => exact h
      | some t => obtain ⟨c', is⟩ := t; simp
theorem lv_new : ∀ (p : List Row) (up : List Row) (s : Nat), p ≠ [] → lvTs (insP 0 p []) up s = [(s, up ++ p)] ∧ RS (insP 0 p []) p
  | [], _, _, h => absurd rfl h
  | [c], up, s, _ => ⟨by simp [insP, insAt, lvTs, lvT_nil], [], [], by simp [insP, insAt], rfl⟩
  | c :: d :: p, up, s, _ => by
    obtain ⟨h1, h2⟩ := lv_new (d :: p) (up ++ [c]) s (by simp)
    rw [insP_0]
    refine ⟨?_, [], _, rfl, h2⟩
    simp only [List.nil_append, lvTs, List.append_nil]
    rw [lvT_cons (by rw [insP_0]; simp), h1]; simp
theorem lv_ins : ∀ (b : Nat) (q p : List Row) (ts : List T) (up : List Row) (s : Nat), RS ts q → b < q.length → b < p.length → p.take b = q.take b →
    lvTs (insP b (p.drop b) ts) up s = lvTs ts up s ++ [(up.length + b, up ++ p)] ∧ RS (insP b (p.drop b) ts) p
  | 0, q, p, ts, up, s, r, hq, hp, _ => by
    cases p with
    | nil => simp at hp
    | cons c p =>
      cases q with
      | nil => simp at hq
      | cons c' q =>
        obtain ⟨ts', is, rfl, r'⟩ := r
        rw [List.drop_zero, insP_0, lvTs_app _ [_]]
        have hr : RS (insP 0 p []) p := by
          cases p with
          | nil => rfl
          | cons d p => exact (lv_new (d :: p) [] 0 (by simp)).2
        refine ⟨?_, _, _, rfl, hr⟩
        congr 1
        simp only [lvTs, List.append_nil]
        rw [if_neg (by simp)]
        cases p with
        | nil => simp [insP, lvT_nil]
        | cons d p =>
          rw [lvT_cons (by rw [insP_0]; simp), (lv_new (d :: p) _ _ (by simp)).1]; simp
  | b + 1, q, p, ts, up, s, r, hq, hp, ht => by
    cases p with
    | nil => simp at hp
    | cons c p =>
      cases q with
      | nil => simp at hq
      | cons c' q =>
        obtain ⟨ts', is, rfl, r'⟩ := r
        simp only [List.take_succ_cons, List.cons.injEq] at ht
        obtain ⟨rfl, ht⟩ := ht
        simp only [List.length_cons] at hq hp
        rw [List.drop_succ_cons, insP_s]
        have hi : is ≠ [] := by
          cases q with
          | nil => simp at hq
          | cons d q => obtain ⟨a, b, rfl, _⟩ := r'; simp
        obtain ⟨h1, h2⟩ := lv_ins b q p is (up ++ [c]) (if ts' = [] then s else up.length) r' (by omega) (by omega) ht
        refine ⟨?_, _, _, rfl, h2⟩
        rw [lvTs_app, lvTs_app]
        simp only [lvTs, List.append_nil]
        rw [lvT_cons (ins_ne _ _ _ hi), lvT_cons hi, h1]
        simp; omega
/-- point 13: what an outline is -/
def okO : Option (List Row) → List Lf → Prop
  | _, [] => True
  | none, x :: o => x.2 ≠ [] ∧ x.1 = 0 ∧ okO (some x.2) o
  | some q, x :: o => x.2 ≠ [] ∧ x.1 < q.length ∧ x.1 < x.2.length ∧ x.2.take x.1 = q.take x.1 ∧ okO (some x.2) o
theorem lv_from : ∀ (o : List Lf) (q : List Row) (ts : List T), RS ts q → okO (some q) o → lvTs (treeFrom ts o) [] 0 = lvTs ts [] 0 ++ o
  | [], _, _, _, _ => by simp [treeFrom]
  | (b, p) :: o, q, ts, r, ok => by
    obtain ⟨h1, h2, h3, h4, h5⟩ := ok
    obtain ⟨k1, k2⟩ := lv_ins b q p ts [] 0 r h2 h3 h4
    simp only [treeFrom]
    rw [lv_from o p _ k2 h5, k1]; simp
theorem lv_tree {o : List Lf} (ok : okO none o) : lvTs (treeOf o) [] 0 = o := by
  cases o with
  | nil => simp [treeOf, treeFrom, lvTs]
  | cons x o =>
    obtain ⟨b, p⟩ := x
    obtain ⟨h1, h2, h3⟩ := ok
    simp only at h1 h2 h3
    subst h2
    obtain ⟨k1, k2⟩ := lv_new p [] 0 h1
    simp only [treeOf, treeFrom, List.drop_zero]
    rw [lv_from o p _ k2 h3, k1]; simp
end PM
end

section
set_option Elab.async false
set_option linter.all false
set_option maxRecDepth 100000
namespace PM
open PySem L2 Mini
theorem sl7 : sizeLine = 16777216 := rfl
/-! ### a form that stands in the heap -/
mutual
def FrT (h : MH) : MV → T → List Nat → Prop
  | v, .node c is, fp => ∃ (i : Nat) (xs : List MV) (f : List Nat), v = .tup [.tup c, .ref i] ∧ fp = i :: f ∧ h[i]? = some (.lst xs) ∧ FrTs h xs is f
def FrTs (h : MH) : List MV → List T → List Nat → Prop
  | vs, [], fp => vs = [] ∧ fp = []
  | vs, t :: ts, fp => ∃ (v : MV) (vs' : List MV) (f1 f2 : List Nat), vs = v :: vs' ∧ fp = f1 ++ f2 ∧ FrT h v t f1 ∧ FrTs h vs' ts f2
end
mutual
theorem frT_frame {h h' : MH} : ∀ {t : T} {v : MV} {fp : List Nat}, (∀ j ∈ fp, h'[j]? = h[j]?) → FrT h v t fp → FrT h' v t fp
  | .node c is, v, fp, k, r => by
    simp only [FrT] at r ⊢
    obtain ⟨i, xs, f, e1, e2, e3, r⟩ := r
    subst e2
    exact ⟨i, xs, f, e1, rfl, by rw [k i (by simp)]; exact e3, frTs_frame (fun j hj => k j (by simp [hj])) r⟩
theorem frTs_frame {h h' : MH} : ∀ {ts : List T} {vs : List MV} {fp : List Nat}, (∀ j ∈ fp, h'[j]? = h[j]?) → FrTs h vs ts fp → FrTs h' vs ts fp
  | [], vs, fp, k, r => by simpa only [FrTs] using r
  | t :: ts, vs, fp, k, r => by
    simp only [FrTs] at r ⊢
    obtain ⟨v, vs', f1, f2, e1, e2, r1, r2⟩ := r
    subst e2
    exact ⟨v, vs', f1, f2, e1, rfl, frT_frame (fun j hj => k j (by simp [hj])) r1, frTs_frame (fun j hj => k j (by simp [hj])) r2⟩
end
theorem frTs_app {h : MH} {us : List T} {ws : List MV} {g : List Nat} : ∀ {ts : List T} {vs : List MV} {f : List Nat}, FrTs h vs ts f → FrTs h ws us g → FrTs h (vs ++ ws) (ts ++ us) (f ++ g)
  | [], vs, f, r, s => by
    simp only [FrTs] at r
    obtain ⟨rfl, rfl⟩ := r
    exact s
  | t :: ts, vs, f, r, s => by
    simp only [FrTs, List.cons_append] at r ⊢
    obtain ⟨v, vs', f1, f2, rfl, rfl, r1, r2⟩ := r
    exact ⟨v, vs' ++ ws, f1, f2 ++ g, rfl, by simp, r1, frTs_app r2 s⟩
theorem frTs_len {h : MH} : ∀ {ts : List T} {vs : List MV} {f : List Nat}, FrTs h vs ts f → vs.length = ts.length
  | [], vs, f, r => by simp only [FrTs] at r; rw [r.1]; rfl
  | t :: ts, vs, f, r => by
    simp only [FrTs] at r
    obtain ⟨v, vs', f1, f2, rfl, rfl, r1, r2⟩ := r
    simp [frTs_len r2]
/-- the last row apart -/
theorem frTs_last {h : MH} {v : MV} : ∀ {ts : List T} {vs : List MV} {f : List Nat}, FrTs h (vs ++ [v]) ts f → ∃ ts' t f1 f2, ts = ts' ++ [t] ∧ f = f1 ++ f2 ∧ FrTs h vs ts' f1 ∧ FrT h v t f2
  | [], vs, f, r => by simp [FrTs] at r
  | t :: ts, vs, f, r => by
    simp only [FrTs] at r
    obtain ⟨w, vs', f1, f2, e, rfl, r1, r2⟩ := r
    cases vs with
    | nil =>
      simp only [List.nil_append, List.cons.injEq] at e
      obtain ⟨rfl, rfl⟩ := e
      cases ts with
      | nil => simp only [FrTs] at r2; exact ⟨[], t, [], f1, rfl, by rw [r2.2]; simp, by simp [FrTs], r1⟩
      | cons t' ts => simp [FrTs] at r2
    | cons x vs =>
      simp only [List.cons_append, List.cons.injEq] at e
      obtain ⟨rfl, rfl⟩ := e
      obtain ⟨ts', t', g1, g2, rfl, rfl, h1, h2⟩ := frTs_last r2
      refine ⟨t :: ts', t', f1 ++ g1, g2, rfl, by simp, ?_, h2⟩
      simp only [FrTs]
      exact ⟨x, vs, f1, g1, rfl, rfl, r1, h1⟩
/-! sizes -/
mutual
def dT : T → Nat
  | .node _ is => dTs is + 1
def dTs : List T → Nat
  | [] => 0
  | t :: ts => max (dT t) (dTs ts)
def sT : T → Nat
  | .node _ is => sTs is + 1
def sTs : List T → Nat
  | [] => 0
  | t :: ts => sT t + sTs ts
def okT : T → Prop
  | .node c is => gd 31 (.tup c) ∧ okTs is
def okTs : List T → Prop
  | [] => True
  | t :: ts => okT t ∧ okTs ts
end
theorem sTs_app : ∀ {ts us : List T}, sTs (ts ++ us) = sTs ts + sTs us
  | [], us => by simp [sTs]
  | t :: ts, us => by simp [sTs, sTs_app (ts := ts), Nat.add_assoc]
theorem okTs_app : ∀ {ts us : List T}, okTs (ts ++ us) ↔ okTs ts ∧ okTs us
  | [], us => by simp [okTs]
  | t :: ts, us => by simp [okTs, okTs_app (ts := ts), and_assoc]
theorem dTs_app : ∀ {ts us : List T}, dTs (ts ++ us) = max (dTs ts) (dTs us)
  | [], us => by simp [dTs]
  | t :: ts, us => by simp [dTs, dTs_app (ts := ts), Nat.max_assoc]
theorem len_sTs : ∀ {ts : List T}, ts.length ≤ sTs ts
  | [] => by simp [sTs]
  | .node c is :: ts => by have := len_sTs (ts := ts); simp only [List.length_cons, sTs, sT]; omega
mutual
theorem frzT : ∀ (t : T) (h : MH) (v : MV) (fp : List Nat) (m : Nat), okT t → sT t ≤ 1000 → FrT h v t fp → fp.Nodup → 2000 * dT t + 40000 < m → ∃ h', freeze m h v = some (encT t, h') ∧ h'.length = h.length ∧ ∀ j, j ∉ fp → h'[j]? = h[j]?
  | .node c is, h, v, fp, m, ok, hz, r, nd, hm => by
    simp only [okT] at ok
    simp only [sT] at hz
    simp only [dT] at hm
    simp only [FrT] at r
    obtain ⟨i, xs, f, rfl, rfl, e3, r⟩ := r
    obtain ⟨n1, n2⟩ := List.nodup_cons.mp nd
    have hi := (List.getElem?_eq_some_iff.mp e3).1
    obtain ⟨k, rfl⟩ : ∃ k, m = k + 1 + 1 + 1 + 1 := ⟨m - 4, by omega⟩
    have hz2 := len_sTs (ts := is)
    obtain ⟨h', q1, q2, q3⟩ := frzTs is (h.set i .gone) xs f (k) ok.2 (by omega) (frTs_frame (fun j hj => List.getElem?_set_ne (show i ≠ j from fun e => n1 (e ▸ hj))) r) n2 (by omega) (by omega)
    refine ⟨h', ?_, by rw [q2, List.length_set], fun j hj => ?_⟩
    · have c1 : freeze (k + 1 + 1) h (.tup c) = some (.tup c, h) := fz_gd ok.1 _ (by omega) h
      have c2 : freeze (k + 1) h (.ref i) = some (.lst (encTs is), h') := by simp only [freeze, e3, q1, Option.map_some]
      have c3 : freezeL (k + 1) h' [] = some ([], h') := by simp only [freezeL]
      simp only [freeze, freezeL] at c1 c2 c3 ⊢
      simp only [c1, c2, c3, Option.bind_some, Option.map_some, encT]
    · simp only [List.mem_cons, not_or] at hj
      rw [q3 j hj.2, List.getElem?_set_ne (show i ≠ j from fun e => hj.1 e.symm)]
theorem frzTs : ∀ (ts : List T) (h : MH) (vs : List MV) (fp : List Nat) (m : Nat), okTs ts → sTs ts ≤ 1000 → FrTs h vs ts fp → fp.Nodup → 2000 * dTs ts + 40000 + ts.length < m → ts.length ≤ 1000 → ∃ h', freezeL m h vs = some (encTs ts, h') ∧ h'.length = h.length ∧ ∀ j, j ∉ fp → h'[j]? = h[j]?
  | [], h, vs, fp, m, ok, hz, r, nd, hm, _ => by
    simp only [FrTs] at r
    obtain ⟨rfl, rfl⟩ := r
    obtain ⟨k, rfl⟩ : ∃ k, m = k + 1 := ⟨m - 1, by omega⟩
    exact ⟨h, by simp only [freezeL, encTs], rfl, fun _ _ => rfl⟩
  | t :: ts, h, vs, fp, m, ok, hz, r, nd, hm, hl => by
    simp only [okTs] at ok
    simp only [sTs] at hz
    simp only [dTs, List.length_cons] at hm hl
    simp only [FrTs] at r
    obtain ⟨v, vs', f1, f2, rfl, rfl, r1, r2⟩ := r
    obtain ⟨n1, n2, n3⟩ := List.nodup_append.mp nd
    obtain ⟨k, rfl⟩ : ∃ k, m = k + 1 := ⟨m - 1, by omega⟩
    obtain ⟨h1, q1, q2, q3⟩ := frzT t h v f1 k ok.1 (by omega) r1 n1 (by omega)
    obtain ⟨h2, p1, p2, p3⟩ := frzTs ts h1 vs' f2 k ok.2 (by omega) (frTs_frame (fun j hj => q3 j fun hj1 => n3 j hj1 j hj rfl) r2) n2 (by omega) (by omega)
    refine ⟨h2, ?_, by rw [p2, q2], fun j hj => ?_⟩
    · simp only [freezeL, q1, p1, Option.bind_some, Option.map_some, encTs]
    · simp only [List.mem_append, not_or] at hj
      rw [p3 j hj.2, q3 j hj.1]
end
/-- the tables at the right edge -/
def Spn (h : MH) : List MV → List Nat → Prop
  | _, [] => True
  | vs, i :: sp => ∃ vs' c xs, vs = vs' ++ [.tup [c, .ref i]] ∧ h[i]? = some (.lst xs) ∧ Spn h xs sp
def lastN : Nat → List Nat → Nat
  | a, [] => a
  | _, i :: sp => lastN i sp
theorem spn_take {h : MH} : ∀ {sp : List Nat} {vs : List MV} (n : Nat), Spn h vs sp → Spn h vs (sp.take n)
  | [], _, n, _ => by simp [Spn]
  | i :: sp, vs, 0, _ => trivial
  | i :: sp, vs, n + 1, ⟨vs', c, xs, e1, e2, r⟩ => ⟨vs', c, xs, e1, e2, spn_take n r⟩
theorem spn_mem {h : MH} : ∀ {sp : List Nat} {vs : List MV} {ts : List T} {fp : List Nat}, Spn h vs sp → FrTs h vs ts fp → ∀ j ∈ sp, j ∈ fp
  | [], _, _, _, _, _, j, hj => by simp at hj
  | i :: sp, vs, ts, fp, ⟨vs', c, xs, e1, e2, r⟩, f, j, hj => by
    subst e1
    obtain ⟨ts', t, f1, f2, rfl, rfl, g1, g2⟩ := frTs_last f
    obtain ⟨c', is⟩ := t
    simp only [FrT] at g2
    obtain ⟨i', xs', f3, k1, rfl, k3, k4⟩ := g2
    simp only [MV.tup.injEq, List.cons.injEq, MV.ref.injEq, and_true] at k1
    obtain ⟨_, rfl⟩ := k1
    rw [e2] at k3
    injection k3 with k3
    injection k3 with k3
    subst k3
    simp only [List.mem_cons] at hj
    rcases hj with rfl | hj
    · simp
    · have := spn_mem r k4 j hj
      simp [this]
theorem lastN_mem : ∀ (sp : List Nat) (a : Nat), lastN a sp ∈ a :: sp
  | [], a => by simp [lastN]
  | i :: sp, a => by
    have := lastN_mem sp i
    simp only [lastN, List.mem_cons] at this ⊢
    rcases this with h | h
    · exact .inr (.inl h)
    · exact .inr (.inr h)
theorem spn_last {h : MH} : ∀ {sp : List Nat} {vs : List MV} {ts : List T} {fp : List Nat} {a : Nat}, h[a]? = some (.lst vs) → Spn h vs sp → FrTs h vs ts fp → ∃ xs, h[lastN a sp]? = some (.lst xs) ∧ xs.length ≤ sTs ts
  | [], vs, ts, fp, a, e, _, f => ⟨vs, e, by rw [frTs_len f]; exact len_sTs⟩
  | i :: sp, vs, ts, fp, a, e, ⟨vs', c, xs, e1, e2, r⟩, f => by
    subst e1
    obtain ⟨ts', t, f1, f2, rfl, rfl, g1, g2⟩ := frTs_last f
    obtain ⟨c', is⟩ := t
    simp only [FrT] at g2
    obtain ⟨i', xs', f3, k1, rfl, k3, k4⟩ := g2
    simp only [MV.tup.injEq, List.cons.injEq, MV.ref.injEq, and_true] at k1
    obtain ⟨_, rfl⟩ := k1
    rw [e2] at k3
    injection k3 with k3
    injection k3 with k3
    subst k3
    obtain ⟨ys, h1, h2⟩ := spn_last e2 r k4
    refine ⟨ys, h1, ?_⟩
    simp only [sTs_app, sTs, sT]; omega
/-- a row put in at the end of the right edge -/
theorem fr_ins {h h' : MH} {n : Nat} {c : Row} : ∀ {sp : List Nat} {vs : List MV} {ts : List T} {fp : List Nat} {a : Nat} {xs : List MV}, h[a]? = some (.lst vs) → FrTs h vs ts fp → (a :: fp).Nodup → Spn h vs sp → n ∉ a :: fp →
    h[lastN a sp]? = some (.lst xs) → h'[lastN a sp]? = some (.lst (xs ++ [.tup [.tup c, .ref n]])) → h'[n]? = some (.lst []) → (∀ i ∈ a :: fp, i ≠ lastN a sp → h'[i]? = h[i]?) →
    ∃ vs' fp', h'[a]? = some (.lst vs') ∧ FrTs h' vs' (insAt sp.length c ts) fp' ∧ (a :: fp').Nodup ∧ (∀ i ∈ fp', i ∈ fp ∨ i = n) ∧ Spn h' vs' (sp ++ [n])
  | [], vs, ts, fp, a, xs, e, f, nd, _, hn, e1, e2, e3, k => by
    simp only [lastN] at e1 e2 k
    rw [e] at e1
    injection e1 with e1
    injection e1 with e1
    subst e1
    obtain ⟨n1, n2⟩ := List.nodup_cons.mp nd
    simp only [List.mem_cons, not_or] at hn
    refine ⟨_, fp ++ [n], e2, frTs_app (frTs_frame (fun j hj => k j (by simp [hj]) fun e => n1 (e ▸ hj)) f) ?_, ?_, ?_, ?_⟩
    · simp only [FrTs, FrT]
      exact ⟨_, _, [n], [], rfl, rfl, ⟨n, [], [], rfl, rfl, e3, rfl, rfl⟩, rfl, rfl⟩
    · rw [List.nodup_cons]
      refine ⟨by simp only [List.mem_append, List.mem_singleton, not_or]; exact ⟨n1, fun e => hn.1 e.symm⟩, ?_⟩
      rw [List.nodup_append]
      exact ⟨n2, by simp, fun x hx y hy => by simp at hy; subst hy; rintro rfl; exact hn.2 hx⟩
    · intro i hi
      simpa using hi
    · exact ⟨_, _, [], rfl, e3, trivial⟩
  | i :: sp, vs, ts, fp, a, xs, e, f, nd, ⟨vs', c', ys, e4, e5, r⟩, hn, e1, e2, e3, k => by
    subst e4
    obtain ⟨ts', t, f1, f2, rfl, rfl, g1, g2⟩ := frTs_last f
    obtain ⟨c'', is⟩ := t
    simp only [FrT] at g2
    obtain ⟨i', xs', f3, k1, rfl, k3, k4⟩ := g2
    simp only [MV.tup.injEq, List.cons.injEq, MV.ref.injEq, and_true] at k1
    obtain ⟨rfl, rfl⟩ := k1
    rw [e5] at k3
    injection k3 with k3
    injection k3 with k3
    subst k3
    obtain ⟨n1, n2⟩ := List.nodup_cons.mp nd
    obtain ⟨m1, m2, m3⟩ := List.nodup_append.mp n2
    simp only [lastN] at e1 e2 k
    have hj : lastN i sp ∈ i :: f3 := by
      rcases List.mem_cons.mp (lastN_mem sp i) with q | q
      · rw [q]; simp
      · exact List.mem_cons_of_mem _ (spn_mem r k4 _ q)
    simp only [List.mem_cons, List.mem_append, not_or] at hn
    obtain ⟨ys', f3', q1, q2, q3, q4, q5⟩ := fr_ins (sp := sp) (a := i) (h' := h') e5 k4 m2 r (by simp only [List.mem_cons, not_or]; exact hn.2.2) e1 e2 e3 fun j hj' hne => k j (by simp only [List.mem_cons, List.mem_append] at hj' ⊢; exact .inr (.inr hj')) hne
    have ha : h'[a]? = h[a]? := k a (by simp) fun e => n1 (by rw [e]; exact List.mem_append.mpr (.inr hj))
    refine ⟨_, f1 ++ (i :: f3'), by rw [ha]; exact e, ?_, ?_, ?_, ?_⟩
    · rw [List.length_cons, insAt_s]
      refine frTs_app (frTs_frame (fun j hj' => k j (by simp [hj']) fun e => m3 j hj' _ hj e) g1) ?_
      simp only [FrTs, FrT]
      exact ⟨_, _, i :: f3', [], rfl, by simp, ⟨i, ys', f3', rfl, rfl, q1, q2⟩, rfl, rfl⟩
    · rw [List.nodup_cons]
      constructor
      · simp only [List.mem_append, List.mem_cons, not_or] at n1 ⊢
        refine ⟨n1.1, n1.2.1, fun q => ?_⟩
        rcases q4 a q with q | q
        · exact n1.2.2 q
        · exact hn.1 q.symm
      · rw [List.nodup_append]
        refine ⟨m1, q3, fun x hx y hy => ?_⟩
        rintro rfl
        simp only [List.mem_cons] at hy
        rcases hy with rfl | hy
        · exact m3 x hx x (by simp) rfl
        · rcases q4 x hy with q | q
          · exact m3 x hx x (by simp [q]) rfl
          · subst q; exact hn.2.1 hx
    · intro j hj'
      simp only [List.mem_append, List.mem_cons] at hj' ⊢
      rcases hj' with q | q | q
      · exact .inl (.inl q)
      · exact .inl (.inr (.inl q))
      · rcases q4 j q with q | q
        · exact .inl (.inr (.inr q))
        · exact .inr q
    · exact ⟨_, _, ys', rfl, q1, q5⟩
end PM
end

section
set_option Elab.async false
set_option linter.all false
set_option maxRecDepth 100000
namespace PM
open PySem L2 Mini
/-- the state of a form that is being built: h0 the heap ahead, a the form, tb the tables -/
structure FI (h0 h : MH) (a tb : Nat) (ts : List T) (sp : List Nat) : Prop where
  le : h0.length ≤ h.length
  pre : ∀ j, j < h0.length → h[j]? = h0[j]?
  ex : ∃ vs fp, h[a]? = some (.lst vs) ∧ FrTs h vs ts fp ∧ (a :: fp).Nodup ∧ Spn h vs sp ∧ h[tb]? = some (.lst ((a :: sp).map MV.ref)) ∧ tb ∉ a :: fp ∧ (∀ j ∈ a :: fp, h0.length ≤ j ∧ j < h.length) ∧ h0.length ≤ tb
theorem FI.start {h0 : MH} : FI h0 (h0 ++ [.lst [], .lst [.ref h0.length]]) h0.length (h0.length + 1) [] [] := by
  refine ⟨by simp, fun j hj => by rw [List.getElem?_append_left hj], [], [], get0, by simp [FrTs], by simp, trivial, get1, by simp, fun j hj => ?_, by omega⟩
  simp only [List.mem_singleton] at hj; subst hj; simp
theorem spn_frame {h h' : MH} (k : ∀ j, j < h.length → h'[j]? = h[j]?) : ∀ {sp : List Nat} {vs : List MV}, Spn h vs sp → Spn h' vs sp
  | [], _, _ => trivial
  | i :: sp, vs, ⟨vs', c, xs, k1, k2, k3⟩ => ⟨vs', c, xs, k1, by rw [k _ (List.getElem?_eq_some_iff.mp k2).1]; exact k2, spn_frame k k3⟩
/-- the tables are cut: a new list of them -/
theorem FI.cut {h0 h : MH} {a tb : Nat} {ts : List T} {sp : List Nat} (F : FI h0 h a tb ts sp) (b : Nat) : FI h0 (h ++ [.lst ((a :: sp.take b).map MV.ref)]) a h.length ts (sp.take b) := by
  obtain ⟨vs, fp, e1, f, nd, s, e2, nt, bd, ht⟩ := F.ex
  have keep : ∀ j, j < h.length → (h ++ [.lst ((a :: sp.take b).map MV.ref)])[j]? = h[j]? := fun j hj => List.getElem?_append_left hj
  refine ⟨by have := F.le; simp; omega, fun j hj => by rw [keep j (by have := F.le; omega)]; exact F.pre j hj, vs, fp, ?_, frTs_frame (fun j hj => keep j (bd j (by simp [hj])).2) f, nd, spn_frame keep (spn_take b s), by simp, ?_, fun j hj => ?_, F.le⟩
  · rw [keep _ (List.getElem?_eq_some_iff.mp e1).1]; exact e1
  · intro q; have := (bd _ q).2; omega
  · have := bd j hj; simp; omega
/-- one row more -/
theorem FI.row {h0 h : MH} {a tb : Nat} {ts : List T} {sp : List Nat} {xs : List MV} (c : Row) (F : FI h0 h a tb ts sp) (e : h[lastN a sp]? = some (.lst xs)) :
    FI h0 (List.set (List.set (h ++ [MO.lst []]) (lastN a sp) (MO.lst (xs ++ [.tup [.tup c, .ref h.length]]))) tb (MO.lst ((a :: sp).map MV.ref ++ [.ref h.length]))) a tb (insAt sp.length c ts) (sp ++ [h.length]) := by
  obtain ⟨vs, fp, e1, f, nd, s, e2, nt, bd, ht⟩ := F.ex
  have hl := F.le
  have htb := (List.getElem?_eq_some_iff.mp e2).1
  have hj : lastN a sp ∈ a :: fp := by
    rcases List.mem_cons.mp (lastN_mem sp a) with q | q
    · rw [q]; simp
    · exact List.mem_cons_of_mem _ (spn_mem s f _ q)
  have hjb := bd _ hj
  have jt : lastN a sp ≠ tb := fun q => nt (q ▸ hj)
  generalize hh : (List.set (List.set (h ++ [MO.lst []]) (lastN a sp) (MO.lst (xs ++ [.tup [.tup c, .ref h.length]]))) tb (MO.lst ((a :: sp).map MV.ref ++ [.ref h.length]))) = h2
  have keep : ∀ j, j < h.length → j ≠ lastN a sp → j ≠ tb → h2[j]? = h[j]? := fun j q1 q2 q3 => by
    rw [← hh, List.getElem?_set_ne (Ne.symm q3), List.getElem?_set_ne (Ne.symm q2), List.getElem?_append_left q1]
  have l2 : h2.length = h.length + 1 := by rw [← hh]; simp
  obtain ⟨vs', fp', q1, q2, q3, q4, q5⟩ := fr_ins (h' := h2) (n := h.length) (c := c) e1 f nd s (fun q => by have := (bd _ q).2; omega) e
    (by rw [← hh, List.getElem?_set_ne (Ne.symm jt), List.getElem?_set_self (by simp; omega)])
    (by rw [← hh, List.getElem?_set_ne (by omega), List.getElem?_set_ne (by omega)]; simp)
    (fun i hi hne => keep i (bd i hi).2 hne fun q => nt (q ▸ hi))
  refine ⟨by omega, fun j hj' => by rw [keep j (by omega) (by omega) (by omega)]; exact F.pre j hj', vs', fp', q1, q2, q3, q5, ?_, ?_, ?_, ht⟩
  · rw [← hh, List.getElem?_set_self (by simp; omega)]; simp
  · simp only [List.mem_cons, not_or] at nt ⊢
    refine ⟨nt.1, fun q => ?_⟩
    rcases q4 _ q with q | q
    · exact nt.2 q
    · omega
  · intro j hj'
    simp only [List.mem_cons] at hj'
    rcases hj' with rfl | hj'
    · have := bd j (by simp); omega
    · rcases q4 j hj' with q | q
      · have := bd j (by simp [q]); omega
      · omega
mutual
theorem lt_encT {n : Nat} : ∀ (t : T), okT t → (encT t).lt n
  | .node c is, ok => by
    simp only [okT] at ok
    have g := lt_gd (m := n) ok.1
    simp only [MV.lt] at g
    simp only [encT, MV.lt, MV.lts]
    exact ⟨g, lts_encTs is ok.2, trivial⟩
theorem lts_encTs {n : Nat} : ∀ (ts : List T), okTs ts → MV.lts n (encTs ts)
  | [], _ => by simp only [encTs, MV.lts]
  | t :: ts, ok => by
    simp only [okTs] at ok
    simp only [encTs, MV.lts]
    exact ⟨lt_encT t ok.1, lts_encTs ts ok.2⟩
end
theorem cf_form {n ar : Nat} {body : MS} {ms : List MV} {h0 h : MH} {a tb : Nat} {ts : List T} {sp : List Nat} (hb : mDef n ar body ms h0 = .ok (.ref a) h) (F : FI h0 h a tb ts sp) (ok : okTs ts) (hz : sTs ts ≤ 1000) (hd : dTs ts ≤ 400) :
    cutF (frzF (mDef n ar body)) ms h0 = .ok (.lst (ts.map encT)) h0 := by
  obtain ⟨vs, fp, e1, f, nd, s, e2, nt, bd, ht⟩ := F.ex
  obtain ⟨n1, n2⟩ := List.nodup_cons.mp nd
  have hl := len_sTs (ts := ts)
  obtain ⟨h', q1, q2, q3⟩ := frzTs ts (h.set a .gone) vs fp 999999 ok hz (frTs_frame (fun j hj => List.getElem?_set_ne (show a ≠ j from fun e => n1 (e ▸ hj))) f) n2 (by omega) (by omega)
  have fin : freeze 1000000 h (.ref a) = some (.lst (ts.map encT), h') := by
    show freeze (999999 + 1) h (.ref a) = _
    simp only [freeze, e1, q1, Option.map_some, encTs_map]
  have e3 : h'.length = h.length := by rw [q2, List.length_set]
  have e4 : ∀ j, j < h0.length → h'[j]? = h0[j]? := fun j hj => by
    rw [q3 j fun q => by have := (bd j (by simp [q])).1; omega, List.getElem?_set_ne (show a ≠ j from fun e => by have := (bd a (by simp)).1; omega), F.pre j hj]
  rw [cf hb fin _ fun j hj => .inl (e4 j hj)]
  · congr 1
    have hl := F.le
    apply List.ext_getElem?
    intro j
    rw [List.getElem?_take]
    split
    · exact e4 j ‹_›
    · symm; exact List.getElem?_eq_none (by omega)
  · simp only [MV.lt]
    rw [← encTs_map]
    exact lts_encTs ts ok
/-! sizes of trees under insertion -/
theorem insAt_sz : ∀ (d : Nat) (c : Row) (ts : List T), gd 31 (.tup c) → (okTs ts → okTs (insAt d c ts)) ∧ sTs (insAt d c ts) ≤ sTs ts + 1 ∧ dTs (insAt d c ts) ≤ max (dTs ts) (d + 1)
  | 0, c, ts, g => ⟨fun k => by simp only [insAt]; exact okTs_app.mpr ⟨k, by simp only [okTs, okT]; exact ⟨⟨g, trivial⟩, trivial⟩⟩, by simp [insAt, sTs_app, sTs, sT], by simp [insAt, dTs_app, dTs, dT]⟩
  | d + 1, c, ts, g => by
    rcases List.eq_nil_or_concat ts with rfl | ⟨ts', t, rfl⟩
    · refine ⟨fun _ => ?_, ?_, ?_⟩ <;> simp [insAt, okTs, sTs, dTs]
    · obtain ⟨c', is⟩ := t
      rw [List.concat_eq_append, insAt_s]
      obtain ⟨k1, k2, k3⟩ := insAt_sz d c is g
      refine ⟨fun k => ?_, ?_, ?_⟩
      · obtain ⟨m1, m2⟩ := okTs_app.mp k
        simp only [okTs, okT] at m2
        exact okTs_app.mpr ⟨m1, by simp only [okTs, okT]; exact ⟨⟨m2.1.1, k1 m2.1.2⟩, trivial⟩⟩
      · simp only [sTs_app, sTs, sT]; omega
      · simp only [dTs_app, dTs, dT]; omega
theorem insP_sz : ∀ (cs : List Row) (d : Nat) (ts : List T), (∀ c ∈ cs, gd 31 (.tup c)) → (okTs ts → okTs (insP d cs ts)) ∧ sTs (insP d cs ts) ≤ sTs ts + cs.length ∧ dTs (insP d cs ts) ≤ max (dTs ts) (d + cs.length)
  | [], d, ts, _ => ⟨fun k => k, by simp [insP], by simp [insP]; omega⟩
  | c :: cs, d, ts, g => by
    obtain ⟨k1, k2, k3⟩ := insAt_sz d c ts (g c (by simp))
    obtain ⟨m1, m2, m3⟩ := insP_sz cs (d + 1) (insAt d c ts) fun x hx => g x (by simp [hx])
    simp only [insP, List.length_cons]
    exact ⟨fun k => m1 (k1 k), by omega, by omega⟩
/-- an outline's rows: how many, how deep, data -/
def nR (o : List Lf) : Nat := (o.map fun x => x.2.length).sum
theorem tree_sz : ∀ (o : List Lf) (ts : List T) (n : Nat), (∀ x ∈ o, x.2.length ≤ n ∧ ∀ c ∈ x.2, gd 31 (.tup c)) → dTs ts ≤ n → (okTs ts → okTs (treeFrom ts o)) ∧ sTs (treeFrom ts o) ≤ sTs ts + nR o ∧ dTs (treeFrom ts o) ≤ n
  | [], ts, n, _, hd => ⟨fun k => k, by simp [treeFrom, nR], hd⟩
  | x :: o, ts, n, h, hd => by
    obtain ⟨h1, h2⟩ := h x (by simp)
    obtain ⟨k1, k2, k3⟩ := insP_sz (x.2.drop x.1) x.1 ts fun c hc => h2 c (List.mem_of_mem_drop hc)
    by_cases hb : x.1 ≤ x.2.length
    · obtain ⟨m1, m2, m3⟩ := tree_sz o (insP x.1 (x.2.drop x.1) ts) n (fun y hy => h y (by simp [hy])) (by rw [List.length_drop] at k3; omega)
      simp only [treeFrom]
      rw [List.length_drop] at k2
      have : nR (x :: o) = x.2.length + nR o := by simp [nR]
      exact ⟨fun k => m1 (k1 k), by omega, m3⟩
    · have e : x.2.drop x.1 = [] := List.drop_of_length_le (by omega)
      obtain ⟨m1, m2, m3⟩ := tree_sz o ts n (fun y hy => h y (by simp [hy])) hd
      simp only [treeFrom, e, insP]
      have : nR (x :: o) = x.2.length + nR o := by simp [nR]
      exact ⟨m1, by omega, m3⟩
theorem atI_m1 {xs : List MV} {x : MV} (h : xs.getLast? = some x) : atI xs (-1) = some x := by
  rcases last_cases7 xs with rfl | ⟨ys, y, rfl⟩
  · simp at h
  · simp at h; subst h; exact atI_last
where last_cases7 (xs : List MV) : xs = [] ∨ ∃ ys y, xs = ys ++ [y] := by
        rcases List.eq_nil_or_concat xs with h | ⟨ys, y, h⟩
        · exact .inl h
        · exact .inr ⟨ys, y, by simpa using h⟩
theorem refs_last : ∀ (sp : List Nat) (a : Nat), ((a :: sp).map MV.ref).getLast? = some (.ref (lastN a sp))
  | [], a => rfl
  | i :: sp, a => by
    have := refs_last sp i
    simp only [lastN]
    rw [← this]
    simp [List.getLast?_cons_cons]
theorem refs_at (sp : List Nat) (a : Nat) : ((a :: sp).map MV.ref)[sp.length]? = some (.ref (lastN a sp)) := by
  rw [← refs_last sp a, List.getLast?_eq_getElem?]; simp
theorem take_refs (a b : Nat) (sp : List Nat) : ((a :: sp).map MV.ref).take (b + 1) = (a :: sp.take b).map MV.ref := by simp [List.map_take]
/-- one row of a path, by either def -/
theorem tb_len {h0 h : MH} {a tb : Nat} {ts : List T} {sp : List Nat} (F : FI h0 h a tb ts sp) : h[tb]? = some (.lst ((a :: sp).map MV.ref)) := by
  obtain ⟨vs, fp, e1, f, nd, s, e2, r⟩ := F.ex
  exact e2
theorem tb_row {h0 h : MH} {a tb : Nat} {ts : List T} {sp : List Nat} (F : FI h0 h a tb ts sp) : ∃ xs, h[lastN a sp]? = some (.lst xs) ∧ xs.length ≤ sTs ts ∧ lastN a sp ≠ tb := by
  obtain ⟨vs, fp, e1, f, nd, s, e2, nt, r⟩ := F.ex
  obtain ⟨xs, k1, k2⟩ := spn_last e1 s f
  refine ⟨xs, k1, k2, fun q => nt (q ▸ ?_)⟩
  rcases List.mem_cons.mp (lastN_mem sp a) with q | q
  · rw [q]; simp
  · exact List.mem_cons_of_mem _ (spn_mem s f _ q)
end PM
end

section
set_option Elab.async false
set_option linter.all false
set_option maxRecDepth 100000
namespace PM
open PySem L2 Mini
/-- an outline as the defs may read it -/
structure gO (n : Nat) (o : List Lf) : Prop where
  nle : n ≤ 65
  len : o.length ≤ 900
  sum : nR o ≤ 1000
  row : ∀ x ∈ o, x.2.length ≤ n ∧ ∀ c ∈ x.2, gd 28 (.tup c)
theorem gO.rows {n : Nat} {o : List Lf} (g : gO n o) : ∀ x ∈ o, x.2.length ≤ n ∧ ∀ c ∈ x.2, gd 31 (.tup c) := fun x hx => ⟨(g.row x hx).1, fun c hc => gd_mono (by omega) ((g.row x hx).2 c hc)⟩
theorem cut_rows {p : List Row} {b : Nat} : (p.map MV.tup).drop b = (p.drop b).map MV.tup := by rw [List.map_drop]
theorem cut_refs {a b : Nat} {sp : List Nat} : cutM ((a :: sp).map MV.ref) none (some ((b : Int) + 1)) = (a :: sp.take b).map MV.ref := by
  rw [show ((b : Int) + 1) = ((b + 1 : Nat) : Int) by omega, cut_hi, take_refs]
theorem app_get {h : MH} {j : Nat} {o : MO} {c : MH} (e : h[j]? = some o) : (h ++ c)[j]? = some o := by
  rw [List.getElem?_append_left (List.getElem?_eq_some_iff.mp e).1]; exact e
theorem okO_le {q : Option (List Row)} {x : Lf} {o : List Lf} {sp : List Nat} (ok : okO q (x :: o)) (hq : q = none ∧ sp = [] ∨ ∃ p, q = some p ∧ sp.length = p.length) : x.1 ≤ sp.length ∧ x.1 ≤ x.2.length ∧ okO (some x.2) o := by
  rcases hq with ⟨rfl, rfl⟩ | ⟨p, rfl, e⟩
  · obtain ⟨h1, h2, h3⟩ := ok
    exact ⟨by omega, by omega, h3⟩
  · obtain ⟨h1, h2, h3, h4, h5⟩ := ok
    exact ⟨by omega, by omega, h5⟩
theorem law_form_ok {o : List Lf} {n : Nat} {h : MH} (g : gO n o) (ok : okO none o) : m__law_form [.lst (o.map encL)] h = .ok (.lst ((treeOf o).map encT)) h := by
  obtain ⟨t1, t2, t3⟩ := tree_sz o [] n g.rows (by simp [dTs])
  have hs := g.sum
  have hn := g.nle
  have main : ∃ h1 tb sp, mDef 8 1 b__law_form [.lst (o.map encL)] h = .ok (.ref h.length) h1 ∧ FI h h1 h.length tb (treeOf o) sp := by
    simp only [b__law_form, EV]
    generalize hL : forLoop _ _ _ _ _ _ = o1
    obtain ⟨ρ', h', rfl, tb, ts, sp, q, c3, c4, c5, c6, c7, F, e1, e2, e3, e4, e5, rfl⟩ := for_nx encL (fun xs ρ h' => ∃ tb ts sp q c3 c4 c5 c6 c7, FI h h' h.length tb ts sp ∧ treeFrom ts xs = treeOf o ∧ okO q xs ∧ (q = none ∧ sp = [] ∨ ∃ p, q = some p ∧ sp.length = p.length) ∧ sTs ts + nR xs ≤ 1000 ∧ (∀ x ∈ xs, x.2.length ≤ n ∧ ∀ c ∈ x.2, gd 31 (.tup c)) ∧
      ρ = [some (.lst (o.map encL)), some (.ref h.length), some (.ref tb), c3, c4, c5, c6, c7]) hL ⟨h.length + 1, [], [], none, none, none, none, none, none, FI.start, rfl, ok, .inl ⟨rfl, rfl⟩, by simp [sTs]; exact hs, g.rows, rfl⟩ (fun _ _ _ _ => trivial) (by
      rintro ⟨b, p⟩ xs ρ h' ⟨tb, ts, sp, q, c3, c4, c5, c6, c7, F, e1, e2, e3, e4, e5, rfl⟩
      obtain ⟨l1, l2, l3⟩ := okO_le e2 e3
      simp only at l1 l2 l3
      have w1 := slHf_r (lo := none) (hi := some ((b : Int) + 1)) (tb_len F)
      rw [cut_refs] at w1
      simp only [encL, encP, EV, w1, cut_rows]
      generalize hL2 : forLoop _ _ _ _ _ _ = o2
      have hp := (e5 (b, p) (by simp)).1
      simp only at hp
      have hsum : nR ((b, p) :: xs) = p.length + nR xs := by simp [nR]
      obtain ⟨ρ2, h2, rfl, ts2, sp2, d5, d6, d7, F2, f1, f2, f3, f4, rfl⟩ := for_nx MV.tup (fun cs ρ h2 => ∃ ts2 sp2 d5 d6 d7, FI h h2 h.length h'.length ts2 sp2 ∧ sp2.length + cs.length = p.length ∧ insP sp2.length cs ts2 = insP b (p.drop b) ts ∧ sTs ts2 + cs.length ≤ sTs ts + p.length ∧ (∀ c ∈ cs, gd 31 (.tup c)) ∧
        ρ = [some (.lst (o.map encL)), some (.ref h.length), some (.ref h'.length), some (.int b), some (.tup (p.map MV.tup)), d5, d6, d7]) hL2 ⟨ts, sp.take b, c5, c6, c7, F.cut b, by rw [List.length_take, List.length_drop]; omega, by rw [List.length_take, Nat.min_eq_left l1], by rw [List.length_drop]; omega, fun c hc => (e5 (b, p) (by simp)).2 c (List.mem_of_mem_drop hc), rfl⟩ (fun _ _ _ _ => trivial) (by
        rintro c cs ρ h2 ⟨ts2, sp2, d5, d6, d7, F2, f1, f2, f3, f4, rfl⟩
        obtain ⟨ys, k1, k2, k3⟩ := tb_row F2
        have k0 := tb_len F2
        have w2 := app_get (c := [MO.lst []]) k0
        have w3 := app_get (c := [MO.lst []]) k1
        have w4 : (List.set (h2 ++ [MO.lst []]) (lastN h.length sp2) (MO.lst (ys ++ [.tup [.tup c, .ref h2.length]])))[h'.length]? = some (.lst ((h.length :: sp2).map MV.ref)) := by
          rw [List.getElem?_set_ne k3, w2]
        have w5 : ((((h.length :: sp2).map MV.ref).length : Nat) : Int) - 1 = ((sp2.length : Nat) : Int) := by simp
        have w6 := refs_at sp2 h.length
        simp only [List.length_cons] at f1 f3
        have q0 := g.nle
        have q1 : ys.length < sizeLine := by rw [sl7]; omega
        have q2 : ((h.length :: sp2).map MV.ref).length < sizeLine := by rw [sl7]; simp; omega
        simp only [EV, w2, w5, w6, w3, appK_e q1, w4, appK_e q2]
        exact ⟨_, _, _, _, _, F2.row c k1, by simp; omega, by rw [← f2]; simp [insP], by have := (insAt_sz sp2.length c ts2 (f4 c (by simp))).2.1; omega, fun x hx => f4 x (by simp [hx]), rfl⟩)
      simp only [EV]
      simp only [insP, List.length_nil, Nat.add_zero] at f1 f2 f3
      exact ⟨h'.length, ts2, sp2, some p, _, _, _, _, _, F2, by rw [← e1, f2]; rfl, l3, .inr ⟨p, rfl, f1⟩, by omega, fun x hx => e5 x (by simp [hx]), rfl⟩)
    simp only [EV]
    exact ⟨h', tb, sp, rfl, by rw [← e1]; exact F⟩
  obtain ⟨h1, tb, sp, m1, F⟩ := main
  exact cf_form m1 F (t1 trivial) (by show sTs (treeFrom [] o) ≤ 1000; simp [sTs] at t2; omega) (by show dTs (treeFrom [] o) ≤ 400; omega)
end PM
end

section
set_option Elab.async false
set_option linter.all false
set_option maxRecDepth 100000
namespace PM
open PySem L2 Mini
theorem gd_encP {p : List Row} {n : Nat} (hn : p.length ≤ 1000) (h : ∀ c ∈ p, gd n (.tup c)) : gd (n + 1) (encP p) := gd_tup (by simpa using hn) fun x hx => by
  obtain ⟨c, hc, rfl⟩ := List.mem_map.mp hx; exact h c hc
theorem gd_encL {x : Lf} {n : Nat} (hn : x.2.length ≤ 1000) (h : ∀ c ∈ x.2, gd n (.tup c)) : gd (n + 2) (encL x) := gd_tup (by simp) fun y hy => by
  simp only [List.mem_cons, List.not_mem_nil, or_false] at hy
  rcases hy with rfl | rfl
  · exact gd_int
  · exact gd_encP hn h
theorem check_outline_ok {o : List Lf} {n : Nat} {h : MH} (g : gO n o) (ok : okO none o) (v : MV) (hv : v = .lst (o.map encL)) : m_check_outline [v] h = .ok .non h := by
  subst hv
  have hn := g.nle
  refine cf_ok0 ?_ Rv.non
  simp only [b_check_outline, EV]
  generalize hL : forLoop _ _ _ _ _ _ = o1
  obtain ⟨ρ', h', rfl, rfl, _⟩ := for_nx encL (fun xs ρ h' => h' = h ∧ ∃ q c2 c3, okO q xs ∧ (∀ p, q = some p → p ≠ [] ∧ p.length ≤ n ∧ ∀ c ∈ p, gd 31 (.tup c)) ∧ (∀ x ∈ xs, x.2.length ≤ n ∧ ∀ c ∈ x.2, gd 31 (.tup c)) ∧ ρ = [some (.lst (o.map encL)), some (match q with | none => .non | some p => encP p), c2, c3]) hL
    ⟨rfl, none, none, none, ok, by simp, g.rows, rfl⟩ (fun _ _ _ _ => trivial) (by
    rintro ⟨b, p⟩ xs ρ h' ⟨rfl, q, c2, c3, e1, e2, e3, rfl⟩
    obtain ⟨g1, g2⟩ := e3 (b, p) (by simp)
    simp only at g1 g2
    have hb : ¬ ((b : Int) < 0) := by omega
    cases q with
    | none =>
      obtain ⟨h1, h2, h3⟩ := e1
      simp only at h1 h2 h3
      have hl : ¬ ((p.length : Int) = 0) := by
        intro q; exact h1 (List.length_eq_zero_iff.mp (by omega))
      have hb2 : ¬ ((0 : Int) < (b : Int)) := by omega
      simp only [encL, encP, EV, List.length_map, hl, hb, hb2]
      exact ⟨by trivial, some p, _, _, h3, fun p' hp' => by cases hp'; exact ⟨h1, g1, g2⟩, fun x hx => e3 x (by simp [hx]), rfl⟩
    | some q =>
      obtain ⟨h1, h2, h3, h4, h5⟩ := e1
      simp only at h1 h2 h3 h4 h5
      obtain ⟨k1, k2, k3⟩ := e2 q rfl
      have hl : ¬ ((p.length : Int) = 0) := by
        intro q; exact h1 (List.length_eq_zero_iff.mp (by omega))
      have hb2 : ¬ (min (p.length : Int) (q.length : Int) - 1 < (b : Int)) := by omega
      have w1 : (p.map MV.tup).take b = (p.take b).map MV.tup := List.map_take.symm
      have w2 : (q.map MV.tup).take b = (p.take b).map MV.tup := by rw [h4, List.map_take]
      have gt : gd 64 (.tup ((p.take b).map MV.tup)) := gd_mono (n := 32) (by omega) (gd_encP (by rw [List.length_take]; omega) fun c hc => g2 c (List.mem_of_mem_take hc))
      simp only [encL, encP, EV, List.length_map, hl, hb, hb2, w1, w2, fNe_f gt gt rfl]
      exact ⟨by trivial, some p, _, _, h5, fun p' hp' => by cases hp'; exact ⟨h1, g1, g2⟩, fun x hx => e3 x (by simp [hx]), rfl⟩)
  simp only [EV]
theorem form_of_ok {o : List Lf} {n : Nat} {h : MH} (g : gO n o) (ok : okO none o) : m_form_of [.lst (o.map encL)] h = .ok (.lst ((treeOf o).map encT)) h := by
  obtain ⟨t1, t2, t3⟩ := tree_sz o [] n g.rows (by simp [dTs])
  have hs := g.sum
  have hn := g.nle
  have main : ∃ h1 tb sp, mDef 7 1 b_form_of [.lst (o.map encL)] h = .ok (.ref h.length) h1 ∧ FI h h1 h.length tb (treeOf o) sp := by
    have ch := check_outline_ok (h := h) g ok _ rfl
    simp only [b_form_of, EV, ch]
    generalize hL : forLoop _ _ _ _ _ _ = o1
    obtain ⟨ρ', h', rfl, tb, ts, sp, q, c4, c5, c6, c7, F, e1, e2, e3, e4, e5, rfl⟩ := for_nx encL (fun xs ρ h' => ∃ tb ts sp q c4 c5 c6 c7, FI h h' h.length tb ts sp ∧ treeFrom ts xs = treeOf o ∧ okO q xs ∧ (q = none ∧ sp = [] ∨ ∃ p, q = some p ∧ sp.length = p.length) ∧ sTs ts + nR xs ≤ 1000 ∧ (∀ x ∈ xs, x.2.length ≤ n ∧ ∀ c ∈ x.2, gd 31 (.tup c)) ∧
      ρ = [some (.lst (o.map encL)), some (.ref h.length), some (.ref tb), c4, c5, c6, c7]) hL ⟨h.length + 1, [], [], none, none, none, none, none, FI.start, rfl, ok, .inl ⟨rfl, rfl⟩, by simp [sTs]; exact hs, g.rows, rfl⟩ (fun _ _ _ _ => trivial) (by
      rintro ⟨b, p⟩ xs ρ h' ⟨tb, ts, sp, q, c4, c5, c6, c7, F, e1, e2, e3, e4, e5, rfl⟩
      obtain ⟨l1, l2, l3⟩ := okO_le e2 e3
      simp only at l1 l2 l3
      have w1 := slHf_r (lo := none) (hi := some ((b : Int) + 1)) (tb_len F)
      rw [cut_refs] at w1
      simp only [encL, encP, EV, w1, cut_rows]
      generalize hL2 : forLoop _ _ _ _ _ _ = o2
      have hp := (e5 (b, p) (by simp)).1
      simp only at hp
      have hsum : nR ((b, p) :: xs) = p.length + nR xs := by simp [nR]
      obtain ⟨ρ2, h2, rfl, ts2, sp2, d6, d7, F2, f1, f2, f3, f4, rfl⟩ := for_nx MV.tup (fun cs ρ h2 => ∃ ts2 sp2 d6 d7, FI h h2 h.length h'.length ts2 sp2 ∧ sp2.length + cs.length = p.length ∧ insP sp2.length cs ts2 = insP b (p.drop b) ts ∧ sTs ts2 + cs.length ≤ sTs ts + p.length ∧ (∀ c ∈ cs, gd 31 (.tup c)) ∧
        ρ = [some (.lst (o.map encL)), some (.ref h.length), some (.ref h'.length), some (.int b), some (.tup (p.map MV.tup)), d6, d7]) hL2 ⟨ts, sp.take b, c6, c7, F.cut b, by rw [List.length_take, List.length_drop]; omega, by rw [List.length_take, Nat.min_eq_left l1], by rw [List.length_drop]; omega, fun c hc => (e5 (b, p) (by simp)).2 c (List.mem_of_mem_drop hc), rfl⟩ (fun _ _ _ _ => trivial) (by
        rintro c cs ρ h2 ⟨ts2, sp2, d6, d7, F2, f1, f2, f3, f4, rfl⟩
        obtain ⟨ys, k1, k2, k3⟩ := tb_row F2
        have k0 := tb_len F2
        have w2 := app_get (c := [MO.lst []]) k0
        have w3 := app_get (c := [MO.lst []]) k1
        have w4 : (List.set (h2 ++ [MO.lst []]) (lastN h.length sp2) (MO.lst (ys ++ [.tup [.tup c, .ref h2.length]])))[h'.length]? = some (.lst ((h.length :: sp2).map MV.ref)) := by
          rw [List.getElem?_set_ne k3, w2]
        have w6 := atI_m1 (refs_last sp2 h.length)
        simp only [List.length_cons] at f1 f3
        have q0 := g.nle
        have q1 : ys.length < sizeLine := by rw [sl7]; omega
        have q2 : ((h.length :: sp2).map MV.ref).length < sizeLine := by rw [sl7]; simp; omega
        simp only [EV, w2, w6, w3, appK_e q1, w4, appK_e q2]
        exact ⟨_, _, _, _, F2.row c k1, by simp; omega, by rw [← f2]; simp [insP], by have := (insAt_sz sp2.length c ts2 (f4 c (by simp))).2.1; omega, fun x hx => f4 x (by simp [hx]), rfl⟩)
      simp only [EV]
      simp only [insP, List.length_nil, Nat.add_zero] at f1 f2 f3
      exact ⟨h'.length, ts2, sp2, some p, _, _, _, _, F2, by rw [← e1, f2]; rfl, l3, .inr ⟨p, rfl, f1⟩, by omega, fun x hx => e5 x (by simp [hx]), rfl⟩)
    simp only [EV]
    exact ⟨h', tb, sp, rfl, by rw [← e1]; exact F⟩
  obtain ⟨h1, tb, sp, m1, F⟩ := main
  exact cf_form m1 F (t1 trivial) (by show sTs (treeFrom [] o) ≤ 1000; simp [sTs] at t2; omega) (by show dTs (treeFrom [] o) ≤ 400; omega)
/-! ### the leaves of a form -/
theorem lvTs_len : ∀ (ts : List T) (up : List Row) (s : Nat), (lvTs ts up s).length ≤ sTs ts
  | [], up, s => by simp [lvTs]
  | .node c [] :: ts, up, s => by
    have := lvTs_len ts up up.length
    simp only [lvTs, lvT_nil, List.length_append, List.length_cons, List.length_nil, sTs, sT]; omega
  | .node c (i :: is) :: ts, up, s => by
    have := lvTs_len ts up up.length
    have := lvTs_len (i :: is) (up ++ [c]) s
    simp only [lvTs, lvT_cons (is := i :: is) (by simp), List.length_append] at *
    simp only [sTs, sT] at *; omega
theorem lvTs_rows : ∀ (ts : List T) (up : List Row) (s m : Nat), okTs ts → (∀ c ∈ up, gd 31 (.tup c)) → up.length + dTs ts ≤ m → ∀ x ∈ lvTs ts up s, x.2.length ≤ m ∧ ∀ c ∈ x.2, gd 31 (.tup c)
  | [], up, s, m, _, _, _, x, hx => by simp [lvTs] at hx
  | .node c [] :: ts, up, s, m, ok, hu, hd, x, hx => by
    simp only [okTs, okT] at ok
    simp only [dTs, dT] at hd
    simp only [lvTs, lvT_nil, List.mem_append, List.mem_singleton] at hx
    rcases hx with rfl | hx
    · refine ⟨by simp; omega, fun c' hc' => ?_⟩
      simp only [List.mem_append, List.mem_singleton] at hc'
      rcases hc' with q | rfl
      · exact hu _ q
      · exact ok.1.1
    · exact lvTs_rows ts up _ m ok.2 hu (by omega) x hx
  | .node c (i :: is) :: ts, up, s, m, ok, hu, hd, x, hx => by
    simp only [okTs, okT] at ok
    simp only [lvTs, lvT_cons (is := i :: is) (by simp), List.mem_append] at hx
    have hd' : up.length + max (dTs (i :: is) + 1) (dTs ts) ≤ m := by simpa only [dTs, dT] using hd
    have hx' : x ∈ lvTs (i :: is) (up ++ [c]) s ∨ x ∈ lvTs ts up up.length := by simpa only [lvTs, List.mem_append] using hx
    rcases hx' with hx | hx
    · refine lvTs_rows (i :: is) (up ++ [c]) s m ?_ ?_ ?_ x hx
      · simp only [okTs]; exact ok.1.2
      · intro c' hc'
        simp only [List.mem_append, List.mem_singleton] at hc'
        rcases hc' with q | rfl
        · exact hu _ q
        · exact ok.1.1
      · simp; omega
    · exact lvTs_rows ts up _ m ok.2 hu (by omega) x hx
theorem set_self {h : MH} {i : Nat} {o : MO} (e : h[i]? = some o) : h.set i o = h := by
  apply List.ext_getElem?
  intro j
  by_cases q : i = j
  · subst q; rw [e, List.getElem?_set_self (List.getElem?_eq_some_iff.mp e).1]
  · rw [List.getElem?_set_ne q]
theorem add_leaves_ok : ∀ (n : Nat) (ts : List T) (up : List Row) (s i : Nat) (xs : List MV) (h : MH), dTs ts < n → okTs ts → (∀ c ∈ up, gd 31 (.tup c)) → up.length + dTs ts ≤ 400 → h[i]? = some (.lst xs) → xs.length + sTs ts ≤ 1000 → (∀ x ∈ xs, gd 60 x) →
    m_add_leaves n [.lst (ts.map encT), .tup (up.map MV.tup), .int s, .ref i] h = .ok .non (h.set i (.lst (xs ++ (lvTs ts up s).map encL)))
  | 0, _, _, _, _, _, _, hn, _, _, _, _, _, _ => by omega
  | n + 1, ts, up, s, i, xs, h, hn, ok, hu, hd, hi, hz, hx => by
    have lt : (MO.lst (xs ++ (lvTs ts up s).map encL)).lt h.length := by
      simp only [MO.lt]
      refine lts_of fun x hx' => ?_
      rcases List.mem_append.mp hx' with q | q
      · exact lt_gd (hx x q)
      · obtain ⟨y, hy, rfl⟩ := List.mem_map.mp q
        obtain ⟨r1, r2⟩ := lvTs_rows ts up s 400 ok hu hd y hy
        exact lt_gd (gd_encL (n := 31) (by omega) r2)
    have hil := (List.getElem?_eq_some_iff.mp hi).1
    refine cf_put ?_ lt
    simp only [b_add_leaves, EV]
    generalize hL : forLoop _ _ _ _ _ _ = o1
    obtain ⟨ρ', h', rfl, s', ys, c4, c5, c6, rfl, e2, e3, e4, e5, e6, e7, rfl⟩ := for_nx encT (fun us ρ h' => ∃ (s' : Nat) (ys : List MV) (c4 c5 c6 : Option MV), h' = h.set i (.lst ys) ∧ ys ++ (lvTs us up s').map encL = xs ++ (lvTs ts up s).map encL ∧ ys.length + sTs us ≤ 1000 ∧ dTs us < n + 1 ∧ okTs us ∧ up.length + dTs us ≤ 400 ∧ (∀ x ∈ ys, gd 60 x) ∧
      ρ = [some (.lst (ts.map encT)), some (.tup (up.map MV.tup)), some (.int s'), some (.ref i), c4, c5, c6]) hL ⟨s, xs, none, none, none, (set_self hi).symm, rfl, hz, hn, ok, hd, hx, rfl⟩ (fun _ _ _ _ => trivial) (by
      rintro ⟨c, is⟩ us ρ h' ⟨s', ys, c4, c5, c6, rfl, e2, e3, e4, e5, e6, e7, rfl⟩
      simp only [okTs, okT] at e5
      simp only [sTs, sT] at e3
      simp only [dTs, dT] at e4 e6
      have q0 : (up.map MV.tup).length + [MV.tup c].length ≤ sizeLine := by rw [sl7]; simp; omega
      have w0 : (h.set i (.lst ys))[i]? = some (.lst ys) := by simp [hil]
      cases is with
      | nil =>
        have q1 : ys.length < sizeLine := by rw [sl7]; omega
        have w1 : (([] : List MV).length : Int) = 0 := rfl
        simp only [encT, encTs, EV, fAdd_t q0, w0, appK_e q1, List.length_map]
        refine ⟨up.length, ys ++ [encL (s', up ++ [c])], _, _, _, ?_, ?_, by simp; omega, by omega, e5.2, by omega, ?_, rfl⟩
        · rw [List.set_set]; simp [encL, encP]
        · rw [← e2]; simp [lvTs, lvT_nil]
        · intro x hx'
          simp only [List.mem_append, List.mem_singleton] at hx'
          rcases hx' with q | rfl
          · exact e7 x q
          · refine gd_mono (n := 33) (by omega) (gd_encL (n := 31) (by simp; omega) fun c' hc' => ?_)
            simp only [List.mem_append, List.mem_singleton] at hc'
            rcases hc' with q | rfl
            · exact hu _ q
            · exact e5.1.1
      | cons i' is =>
        have w1 : ¬ (((encTs (i' :: is)).length : Int) = 0) := by simp [encTs]; omega
        have hu2 : ∀ c' ∈ up ++ [c], gd 31 (.tup c') := fun c' hc' => by
          simp only [List.mem_append, List.mem_singleton] at hc'
          rcases hc' with q | rfl
          · exact hu _ q
          · exact e5.1.1
        have hd2 : (up ++ [c]).length + dTs (i' :: is) ≤ 400 := by simp; omega
        have w2 := add_leaves_ok n (i' :: is) (up ++ [c]) s' i ys (h.set i (.lst ys)) (by omega) e5.1.2 hu2 hd2 w0 (by omega) e7
        rw [← encTs_map, List.map_append, List.map_singleton] at w2
        simp only [encT, EV, fAdd_t q0, w1, w2, w0, List.length_map]
        refine ⟨up.length, ys ++ (lvTs (i' :: is) (up ++ [c]) s').map encL, _, _, _, ?_, ?_, ?_, by omega, e5.2, by omega, ?_, rfl⟩
        · rw [List.set_set]
        · rw [← e2]; simp [lvTs, lvT_cons]
        · have := lvTs_len (i' :: is) (up ++ [c]) s'
          simp only [List.length_append, List.length_map]; omega
        · intro x hx'
          rcases List.mem_append.mp hx' with q | q
          · exact e7 x q
          · obtain ⟨y, hy, rfl⟩ := List.mem_map.mp q
            obtain ⟨r1, r2⟩ := lvTs_rows (i' :: is) (up ++ [c]) s' 400 e5.1.2 hu2 hd2 y hy
            exact gd_mono (n := 33) (by omega) (gd_encL (n := 31) (by omega) r2))
    simp only [lvTs, List.map_nil, List.append_nil] at e2
    rw [← e2]
    simp only [EV]
theorem outline_of_ok {ts : List T} {h : MH} (hn : dTs ts < 70) (ok : okTs ts) (hz : sTs ts ≤ 1000) : m_outline_of [.lst (ts.map encT)] h = .ok (.lst ((lvTs ts [] 0).map encL)) h := by
  have hl := lvTs_len ts [] 0
  refine cf_ref (k := 0) (l := [.lst ((lvTs ts [] 0).map encL)]) ?_ rfl (F_gd (n := 33) (by omega) fun x hx => by
    obtain ⟨y, hy, rfl⟩ := List.mem_map.mp hx
    obtain ⟨r1, r2⟩ := lvTs_rows ts [] 0 400 ok (by simp) (by simp; omega) y hy
    exact gd_encL (n := 31) (by omega) r2) (by simp; omega)
  have w := add_leaves_ok 70 ts [] 0 h.length [] (h ++ [.lst []]) hn ok (by simp) (by simp; omega) (by simp) (by simpa using hz) (by simp)
  simp only [List.map_nil] at w
  simp only [b_outline_of, EV]
  simp only [Int.natCast_zero] at w
  simp only [EV, w]
  rfl
end PM
end

section
set_option Elab.async false
set_option linter.all false
set_option maxRecDepth 100000
namespace PM
open PySem L2 Mini
mutual
theorem gd_encT : ∀ (t : T), okT t → sT t ≤ 1000 → gd (2 * dT t + 31) (encT t)
  | .node c is, ok, hz => by
    simp only [okT] at ok
    simp only [sT] at hz
    have hl := len_sTs (ts := is)
    simp only [encT, dT]
    rw [show 2 * (dTs is + 1) + 31 = (2 * dTs is + 31 + 1) + 1 by omega]
    refine gd_tup (by simp) fun x hx => ?_
    simp only [List.mem_cons, List.not_mem_nil, or_false] at hx
    rcases hx with rfl | rfl
    · exact gd_mono (by omega) ok.1
    · exact gd_lst (by rw [encTs_map]; simp; omega) (gd_encTs is ok.2 (by omega))
theorem gd_encTs : ∀ (ts : List T), okTs ts → sTs ts ≤ 1000 → ∀ x ∈ encTs ts, gd (2 * dTs ts + 31) x
  | [], _, _, x, hx => by simp [encTs] at hx
  | t :: ts, ok, hz, x, hx => by
    simp only [okTs] at ok
    simp only [sTs] at hz
    simp only [encTs, List.mem_cons] at hx
    simp only [dTs]
    rcases hx with rfl | hx
    · exact gd_mono (by omega) (gd_encT t ok.1 (by omega))
    · exact gd_mono (by omega) (gd_encTs ts ok.2 (by omega) x hx)
end
/-- the form of an outline, as data -/
theorem gd_form {o : List Lf} {n : Nat} (g : gO n o) : gd (2 * n + 32) (.lst ((treeOf o).map encT)) := by
  obtain ⟨t1, t2, t3⟩ := tree_sz o [] n g.rows (by simp [dTs])
  have hz : sTs (treeOf o) ≤ 1000 := by
    have := g.sum
    show sTs (treeFrom [] o) ≤ 1000; simp [sTs] at t2; omega
  have hl := len_sTs (ts := treeOf o)
  have hd : dTs (treeOf o) ≤ n := t3
  refine gd_lst (by simp; omega) fun x hx => ?_
  rw [← encTs_map] at hx
  exact gd_mono (by omega) (gd_encTs (treeOf o) (t1 trivial) hz x hx)
section
variable {h : MH} {xs : List MV} {i : Int} {s : Str}
theorem ty_n : tyOf h .non = some .non := rfl
theorem ty_i : tyOf h (.int i) = some .int := rfl
theorem ty_s : tyOf h (.str s) = some .str := rfl
theorem ty_t : tyOf h (.tup xs) = some .tup := rfl
theorem ty_l : tyOf h (.lst xs) = some .lst := rfl
theorem ty_b {b : Bool} : tyOf h (.bl b) = some .bl := rfl
end
/-- a value is the same as itself -/
theorem same_seq {m : Nat} {h : MH} {xs : List MV} (k : ∀ x ∈ xs, m__law_same m [x, x] h = .ok (.bl true) h) (hl : xs.length ≤ 1000) (v : MV) (hv : v = .tup xs ∨ v = .lst xs) : m__law_same (m + 1) [v, v] h = .ok (.bl true) h := by
  refine cf_ok0 ?_ Rv.bl
  have q0 : -(2 ^ 62) ≤ (xs.length : Int) ∧ (xs.length : Int) < 2 ^ 62 := ⟨by omega, by omega⟩
  have loop : ∀ (v : MV) (hv : seqOf h v = some xs) o, forLoop (fun _ => True) (.name 2) (mIte (mNot (mTest (mCall 2 (m__law_same m) (mCons (mOp fIx (mVar 0) (mVar 2)) (mCons (mOp fIx (mVar 1) (mVar 2)) mNil))))) (mRet (mC (.bl false))) mNext) (rangeM 0 xs.length) [some v, some v, none] h = o → ∃ ρ, o = .nx ρ h := fun v hv o hL => by
    obtain ⟨ρ', h', rfl, rfl, _⟩ := for_rng (fun j ρ h' => h' = h ∧ ∃ c, ρ = [some v, some v, c]) hL ⟨rfl, none, rfl⟩ (fun _ _ _ _ => trivial) (by
      rintro j ρ h' hk ⟨rfl, c, rfl⟩
      have w1 : xs[j]? = some xs[j] := by simp [hk]
      have w2 := k xs[j] (List.getElem_mem hk)
      have w3 : fIx v (.int (j : Int)) h' = .ok xs[j] h' := by rw [fIx_v hv, atI_n, w1]; rfl
      simp only [EV, w3, w2]
      exact ⟨by trivial, _, rfl⟩)
    exact ⟨ρ', rfl⟩
  rcases hv with rfl | rfl
  · simp only [b__law_same, EV, ty_t, Ty.is, q0, rng1_e q0, Int.toNat_natCast]
    generalize hL : forLoop _ _ _ _ _ _ = o
    obtain ⟨ρ, rfl⟩ := loop (.tup xs) rfl o hL
    simp only [EV]
  · simp only [b__law_same, EV, ty_l, Ty.is, q0, rng1_e q0, Int.toNat_natCast]
    generalize hL : forLoop _ _ _ _ _ _ = o
    obtain ⟨ρ, rfl⟩ := loop (.lst xs) rfl o hL
    simp only [EV]
theorem same_ok {h : MH} : ∀ {n : Nat} {v : MV}, gd n v → m__law_same n [v, v] h = .ok (.bl true) h
  | 0, _, g => g.elim
  | n + 1, v, g => by
    cases v with
    | non =>
      refine cf_ok0 ?_ Rv.bl
      simp only [b__law_same, EV, ty_n, Ty.is]
    | int i =>
      refine cf_ok0 ?_ Rv.bl
      simp only [b__law_same, EV, ty_i, Ty.is]
    | str s =>
      refine cf_ok0 ?_ Rv.bl
      have : gd 64 (.str s) := g
      simp only [b__law_same, EV, ty_s, Ty.is, fEq_t this this rfl]
    | tup xs => exact same_seq (fun x hx => same_ok (g.2 x hx)) g.1 _ (.inl rfl)
    | lst xs => exact same_seq (fun x hx => same_ok (g.2 x hx)) g.1 _ (.inr rfl)
    | bl => exact g.elim
    | fro => exact g.elim
    | obj => exact g.elim
    | dct => exact g.elim
    | ref => exact g.elim
end PM
end

section
set_option Elab.async false
set_option linter.all false
set_option maxRecDepth 100000
namespace PM
open PySem L2 Mini
/-! ### longest common sublists -/
open Classical in
noncomputable def lcs : List MV → List MV → Nat
  | x :: xs, y :: ys => if x = y then lcs xs ys + 1 else max (lcs xs (y :: ys)) (lcs (x :: xs) ys)
  | [], _ => 0
  | _, [] => 0
termination_by xs ys => xs.length + ys.length
theorem lcs_eq {x : MV} {xs ys : List MV} : lcs (x :: xs) (x :: ys) = lcs xs ys + 1 := by rw [lcs]; simp
theorem lcs_ne {x y : MV} {xs ys : List MV} (e : x ≠ y) : lcs (x :: xs) (y :: ys) = max (lcs xs (y :: ys)) (lcs (x :: xs) ys) := by rw [lcs]; simp [e]
theorem lcs_n1 {ys : List MV} : lcs [] ys = 0 := by cases ys <;> simp [lcs]
theorem lcs_n2 {ys : List MV} : lcs ys [] = 0 := by cases ys <;> simp [lcs]
theorem drop_at {xs : List MV} {n : Nat} (h : n < xs.length) : xs.drop n = xs[n] :: xs.drop (n + 1) := List.drop_eq_getElem_cons h
theorem comp_rng {t : Tg} {cond : MT} {elt : ME} {ρ : En} {h : MH} {chk : MH → Prop} {n : Nat} (I : Nat → List MV → MH → Prop) {o : Out (List MV)} {acc : List MV} (hL : compLoop chk t cond elt ρ (rangeM 0 n) acc h = o) (i : I 0 acc h) (hc : ∀ k acc h, I k acc h → chk h)
    (hs : ∀ k acc h, k < n → I k acc h → OkP (cmpAt t cond elt (.int (k : Int)) ρ h) fun v h' => match v with
      | some v => acc.length < sizeLine ∧ I (k + 1) (acc ++ [v]) h'
      | none => I (k + 1) acc h') : ∃ acc' h', o = .ok acc' h' ∧ I n acc' h' := by
  rw [rangeM_e, List.range_eq_range'] at hL
  obtain ⟨acc', h', e, k1, k2⟩ := comp_gen (fun k : Nat => MV.int ((k : Nat) : Int)) (fun l acc h => ∃ k, k ≤ n ∧ l = List.range' k (n - k) ∧ I k acc h) hL ⟨0, by omega, by simp, i⟩ (fun _ _ _ ⟨k, _, _, i⟩ => hc k _ _ i) (fun x xs acc h ⟨k, hk, e, i⟩ => by
      have hl : k < n := by
        rcases Nat.lt_or_ge k n with q | q
        · exact q
        · rw [show n - k = 0 by omega] at e; simp at e
      rw [show n - k = (n - (k + 1)) + 1 by omega, List.range'_succ] at e
      simp only [List.cons.injEq] at e
      obtain ⟨rfl, rfl⟩ := e
      have := hs x acc h hl i
      unfold OkP at this ⊢
      split <;> rename_i q <;> simp only [q] at this
      · rename_i v h' 
        cases v with
        | none => exact ⟨x + 1, by omega, rfl, this⟩
        | some v => exact ⟨this.1, x + 1, by omega, rfl, this.2⟩)
  obtain ⟨hk, e2, i⟩ := k2
  have hn : k1 = n := by
    have := congrArg List.length e2; simp at this; omega
  subst hn
  exact ⟨acc', h', e, i⟩
/-! a table whose rows stand in the heap -/
def rowV (T : Nat → Nat → Nat) (b i : Nat) : List MV := (List.range b).map fun j => .int ((T i j : Nat) : Int)
def rowsH (T : Nat → Nat → Nat) (a b : Nat) : MH := (List.range a).map fun i => .lst (rowV T b i)
def refsT (n a : Nat) : List MV := (List.range a).map fun i => .ref (n + i)
theorem rows_get {T : Nat → Nat → Nat} {a b i : Nat} {h : MH} (hi : i < a) : (h ++ rowsH T a b)[h.length + i]? = some (.lst (rowV T b i)) := by
  rw [List.getElem?_append_right (by omega), Nat.add_sub_cancel_left]; simp [rowsH, hi]
theorem refs_get {n a i : Nat} (hi : i < a) : (refsT n a)[i]? = some (.ref (n + i)) := by simp [refsT, hi]
theorem row_get {T : Nat → Nat → Nat} {b i j : Nat} (hj : j < b) : (rowV T b i)[j]? = some (.int ((T i j : Nat) : Int)) := by simp [rowV, hj]
def updT (T : Nat → Nat → Nat) (i j v : Nat) : Nat → Nat → Nat := fun i' j' => if i' = i ∧ j' = j then v else T i' j'
theorem rows_set {T : Nat → Nat → Nat} {a b i j v : Nat} {h : MH} (hi : i < a) (hj : j < b) : (h ++ rowsH T a b).set (h.length + i) (.lst ((rowV T b i).set j (.int (v : Int)))) = h ++ rowsH (updT T i j v) a b := by
  rw [List.set_append_right _ _ (by omega), Nat.add_sub_cancel_left]
  congr 1
  apply List.ext_getElem?
  intro k
  by_cases hk : k < a
  · by_cases e : i = k
    · subst e
      rw [List.getElem?_set_self (by simp [rowsH, hi])]
      simp only [rowsH, List.getElem?_map, List.getElem?_range hi, Option.map_some]
      congr 2
      apply List.ext_getElem?
      intro l
      by_cases hl : l < b
      · by_cases e2 : j = l
        · subst e2
          rw [List.getElem?_set_self (by simp [rowV, hj])]
          simp [rowV, hl, updT]
        · rw [List.getElem?_set_ne e2]
          simp [rowV, hl, updT, Ne.symm e2]
      · rw [List.getElem?_eq_none (by simp [rowV]; omega), List.getElem?_eq_none (by simp [rowV]; omega)]
    · rw [List.getElem?_set_ne e]
      simp only [rowsH, List.getElem?_map, List.getElem?_range hk, Option.map_some]
      congr 2
      simp only [rowV, updT]
      apply List.map_congr_left
      intro l _
      rw [if_neg (fun q => e q.1.symm)]
  · rw [List.getElem?_eq_none (by simp [rowsH]; omega), List.getElem?_eq_none (by simp [rowsH]; omega)]
theorem frz_rows {m : Nat} {T : Nat → Nat → Nat} {b : Nat} (hm : 1000 + b < m) : ∀ (k a : Nat) (h : MH) (f : Nat), ∃ h', freezeL (m + k + f + 10) (h ++ (List.range' a k).map fun i => MO.lst (rowV T b i)) ((List.range k).map fun i => MV.ref (h.length + i)) = some ((List.range' a k).map fun i => MV.lst (rowV T b i), h') ∧ ∃ l, h' = h ++ l
  | 0, a, h, f => ⟨h, by rw [show m + 0 + f + 10 = (m + f + 9) + 1 by omega]; simp [freezeL], [], by simp⟩
  | k + 1, a, h, f => by
    have e0 : (List.range (k + 1)).map (fun i => MV.ref (h.length + i)) = .ref h.length :: (List.range k).map (fun i => MV.ref ((h ++ [MO.gone]).length + i)) := by
      rw [List.range_succ_eq_map, List.map_cons, List.map_map]
      congr 1
      apply List.map_congr_left
      intro i _
      simp; omega
    have e1 : (h ++ (List.range' a (k + 1)).map fun i => MO.lst (rowV T b i))[h.length]? = some (.lst (rowV T b a)) := by
      rw [List.range'_succ, List.map_cons]; exact get0
    have e2 : (h ++ (List.range' a (k + 1)).map fun i => MO.lst (rowV T b i)).set h.length .gone = (h ++ [MO.gone]) ++ (List.range' (a + 1) k).map fun i => MO.lst (rowV T b i) := by
      rw [List.range'_succ, List.map_cons, set0]; simp
    obtain ⟨h', q1, l, q2⟩ := frz_rows (T := T) hm k (a + 1) (h ++ [MO.gone]) f
    refine ⟨h', ?_, .gone :: l, by rw [q2]; simp⟩
    have c1 : freeze (m + k + f + 10) (h ++ (List.range' a (k + 1)).map fun i => MO.lst (rowV T b i)) (.ref h.length) = some (.lst (rowV T b a), (h ++ [MO.gone]) ++ (List.range' (a + 1) k).map fun i => MO.lst (rowV T b i)) := by
      rw [show m + k + f + 10 = (m + k + f + 9) + 1 by omega]
      simp only [freeze, e1, e2]
      rw [fzL (n := 2) (fun x hx => by
        obtain ⟨j, _, rfl⟩ := List.mem_map.mp hx; exact fz_int) (by simp [rowV]; omega)]
      rfl
    rw [e0, show m + (k + 1) + f + 10 = (m + k + f + 10) + 1 by omega]
    simp only [freezeL, c1, q1, Option.bind_some, Option.map_some]
    rw [List.range'_succ, List.map_cons]
noncomputable def tabL (os ns : List MV) : List MV := (List.range (os.length + 1)).map fun i => .lst (rowV (fun i j => lcs (os.drop i) (ns.drop j)) (ns.length + 1) i)
theorem lts_map {α : Type} {n : Nat} {f : α → MV} (k : ∀ i, (f i).lt n) : ∀ {l : List α}, MV.lts n (l.map f)
  | [] => trivial
  | x :: l => ⟨k x, lts_map k⟩
theorem lt_rowV {T : Nat → Nat → Nat} {b i n : Nat} : (MV.lst (rowV T b i)).lt n := by
  simp only [MV.lt]
  exact lts_map fun _ => by simp only [MV.lt]
theorem lt_tabL {os ns : List MV} {n : Nat} : (MV.lst (tabL os ns)).lt n := by
  simp only [MV.lt]
  exact lts_map fun i => lt_rowV
theorem common_lengths_ok {os ns : List MV} {h : MH} (lo : os.length ≤ 900) (ln : ns.length ≤ 900) (go : ∀ x ∈ os, gd 60 x) (gn : ∀ x ∈ ns, gd 60 x) : m_common_lengths [.lst os, .lst ns] h = .ok (.lst (tabL os ns)) h := by
  have main : ∃ T, mDef 5 2 b_common_lengths [.lst os, .lst ns] h = .ok (.lst (refsT h.length (os.length + 1))) (h ++ rowsH T (os.length + 1) (ns.length + 1)) ∧ ∀ i j, i ≤ os.length → j ≤ ns.length → T i j = lcs (os.drop i) (ns.drop j) := by
    have r1 : -(2 ^ 62) ≤ (os.length : Int) + 1 ∧ (os.length : Int) + 1 < 2 ^ 62 := ⟨by omega, by omega⟩
    have r2 : -(2 ^ 62) ≤ (ns.length : Int) + 1 ∧ (ns.length : Int) + 1 < 2 ^ 62 := ⟨by omega, by omega⟩
    have n1 : ((os.length : Int) + 1).toNat = os.length + 1 := by omega
    have n2 : ((ns.length : Int) + 1).toNat = ns.length + 1 := by omega
    have inner : ∀ (ρ : En) (h : MH), compLoop (fun _ => True) (.name 4) mYes (mC (.int 0)) ρ (rangeM 0 (ns.length + 1)) [] h = .ok (rowV (fun _ _ => 0) (ns.length + 1) 0) h := fun ρ h => by
      rw [rangeM_e, comp_all (fun k : Nat => MV.int ((k : Nat) : Int)) (fun _ => MV.int ((0 : Nat) : Int)) trivial]
      · rfl
      · intro x hx; simp only [EV]; rfl
      · rw [sl7]; simp; omega
    simp only [b_common_lengths, EV, rng1_e r1, n1]
    generalize hL : compLoop _ _ _ _ _ _ _ _ = o
    obtain ⟨acc, h', rfl, rfl, rfl⟩ := comp_rng (fun k acc h' => h' = h ++ rowsH (fun _ _ => 0) k (ns.length + 1) ∧ acc = refsT h.length k) hL ⟨by simp [rowsH], by simp [refsT]⟩ (fun _ _ _ _ => trivial) (by
      intro k acc h' hk h0
      have e1 := h0.1
      have e2 := h0.2
      subst e1
      subst e2
      simp only [EV, rng1_e r2, n2, inner]
      refine ⟨by rw [sl7]; simp [refsT]; omega, ?_, ?_⟩
      · congr 1
        simp only [rowsH, List.range_succ, List.map_append, List.map_cons, List.map_nil]; rfl
      · simp only [refsT, List.range_succ, List.map_append, List.map_cons, List.map_nil]
        congr 3; simp [rowsH])
    have r3 : -(2 ^ 62) ≤ (os.length : Int) - 1 ∧ (os.length : Int) - 1 < 2 ^ 62 := ⟨by omega, by omega⟩
    have r4 : -(2 ^ 62) ≤ (ns.length : Int) - 1 ∧ (ns.length : Int) - 1 < 2 ^ 62 := ⟨by omega, by omega⟩
    have r5 : -(2 ^ 62) ≤ (-1 : Int) ∧ (-1 : Int) < 2 ^ 62 := ⟨by omega, by omega⟩
    have n3 : ((os.length : Int) - 1 - -1).toNat = os.length := by omega
    have n4 : ((ns.length : Int) - 1 - -1).toNat = ns.length := by omega
    simp only [EV, rngD_e r3 r5, n3]
    generalize hL2 : forLoop _ _ _ _ _ _ = o
    obtain ⟨ρ', h', rfl, T, c3, c4, rfl, e1, rfl⟩ := for_rngD (fun k ρ h' => ∃ T c3 c4, h' = h ++ rowsH T (os.length + 1) (ns.length + 1) ∧ (∀ i j, i ≤ os.length → j ≤ ns.length → (k ≤ i → T i j = lcs (os.drop i) (ns.drop j)) ∧ (i < k → T i j = 0)) ∧
      ρ = [some (.lst os), some (.lst ns), some (.lst (refsT h.length (os.length + 1))), c3, c4]) hL2 ⟨_, _, _, rfl, fun i j hi hj => ⟨fun hk => by rw [List.drop_of_length_le hk, lcs_n1], fun _ => rfl⟩, rfl⟩ (fun _ _ _ _ => trivial) (by
      rintro a ρ h' ha ⟨T, c3, c4, rfl, e1, rfl⟩
      simp only [EV, rngD_e r4 r5, n4]
      generalize hL3 : forLoop _ _ _ _ _ _ = o
      obtain ⟨ρ', h', rfl, T2, d4, rfl, f1, rfl⟩ := for_rngD (fun k ρ h' => ∃ T c4, h' = h ++ rowsH T (os.length + 1) (ns.length + 1) ∧ (∀ i j, i ≤ os.length → j ≤ ns.length → (a < i → T i j = lcs (os.drop i) (ns.drop j)) ∧ (i = a → k ≤ j → T i j = lcs (os.drop i) (ns.drop j)) ∧ (i < a → T i j = 0)) ∧
        ρ = [some (.lst os), some (.lst ns), some (.lst (refsT h.length (os.length + 1))), some (.int (a : Int)), c4]) hL3 ⟨T, c4, rfl, fun i j hi hj => ⟨fun hk => (e1 i j hi hj).1 hk, fun q hk => by rw [(e1 i j hi hj).2 (by omega), List.drop_of_length_le hk, lcs_n2], fun hk => (e1 i j hi hj).2 (by omega)⟩, rfl⟩ (fun _ _ _ _ => trivial) (by
        rintro b ρ h' hb ⟨T, c4, rfl, f1, rfl⟩
        have w1 : os[a]? = some os[a] := by simp [ha]
        have w2 : ns[b]? = some ns[b] := by simp [hb]
        have g1 : gd 64 os[a] := gd_mono (by omega) (go _ (List.getElem_mem ha))
        have g2 : gd 64 ns[b] := gd_mono (by omega) (gn _ (List.getElem_mem hb))
        have k1 : (a : Int) + 1 = ((a + 1 : Nat) : Int) := by omega
        have k2 : (b : Int) + 1 = ((b + 1 : Nat) : Int) := by omega
        have w3 := refs_get (n := h.length) (show a < os.length + 1 by omega)
        have w4 := refs_get (n := h.length) (show a + 1 < os.length + 1 by omega)
        have w5 := rows_get (T := T) (b := ns.length + 1) (h := h) (show a < os.length + 1 by omega)
        have w6 := rows_get (T := T) (b := ns.length + 1) (h := h) (show a + 1 < os.length + 1 by omega)
        have w7 := row_get (T := T) (i := a + 1) (show b + 1 < ns.length + 1 by omega)
        have w8 := row_get (T := T) (i := a + 1) (show b < ns.length + 1 by omega)
        have w9 := row_get (T := T) (i := a) (show b + 1 < ns.length + 1 by omega)
        have ws : b < (rowV T (ns.length + 1) a).length := by simp [rowV]; omega
        have D1 := drop_at ha
        have D2 := drop_at hb
        by_cases c : os[a] = ns[b]
        · have w10 := rows_set (T := T) (v := T (a + 1) (b + 1) + 1) (h := h) (show a < os.length + 1 by omega) (show b < ns.length + 1 by omega)
          have k3 : ((T (a + 1) (b + 1) : Nat) : Int) + 1 = ((T (a + 1) (b + 1) + 1 : Nat) : Int) := by omega
          simp only [EV, w1, w2, fEq_t g1 g2 c, k1, k2, w4, w6, w7, k3, w3, w5, sxK_e ws, w10]
          refine ⟨_, _, rfl, fun i j hi hj => ⟨fun q => ?_, fun q q2 => ?_, fun q => ?_⟩, rfl⟩
          · unfold updT; rw [if_neg (by omega)]; exact (f1 i j hi hj).1 q
          · unfold updT
            split
            · rename_i q3
              obtain ⟨rfl, rfl⟩ := q3
              rw [(f1 (i + 1) (j + 1) (by omega) (by omega)).1 (by omega), D1, D2, c, lcs_eq]
            · exact (f1 i j hi hj).2.1 q (by omega)
          · unfold updT; rw [if_neg (by omega)]; exact (f1 i j hi hj).2.2 q
        · have w10 := rows_set (T := T) (v := max (T (a + 1) b) (T a (b + 1))) (h := h) (show a < os.length + 1 by omega) (show b < ns.length + 1 by omega)
          have k3 : max ((T (a + 1) b : Nat) : Int) ((T a (b + 1) : Nat) : Int) = ((max (T (a + 1) b) (T a (b + 1)) : Nat) : Int) := by omega
          simp only [EV, w1, w2, fEq_f g1 g2 c, k1, k2, w4, w6, w8, w9, k3, w3, w5, sxK_e ws, w10]
          refine ⟨_, _, rfl, fun i j hi hj => ⟨fun q => ?_, fun q q2 => ?_, fun q => ?_⟩, rfl⟩
          · unfold updT; rw [if_neg (by omega)]; exact (f1 i j hi hj).1 q
          · unfold updT
            split
            · rename_i q3
              obtain ⟨rfl, rfl⟩ := q3
              rw [(f1 (i + 1) j (by omega) (by omega)).1 (by omega), (f1 i (j + 1) (by omega) (by omega)).2.1 rfl (by omega), D1, D2, lcs_ne c]
            · exact (f1 i j hi hj).2.1 q (by omega)
          · unfold updT; rw [if_neg (by omega)]; exact (f1 i j hi hj).2.2 q)
      simp only [EV]
      refine ⟨_, _, _, rfl, fun i j hi hj => ⟨fun q => ?_, fun q => (f1 i j hi hj).2.2 q⟩, rfl⟩
      rcases Nat.lt_or_ge a i with q2 | q2
      · exact (f1 i j hi hj).1 q2
      · exact (f1 i j hi hj).2.1 (by omega) (by omega))
    simp only [EV]
    exact ⟨T, rfl, fun i j hi hj => (e1 i j hi hj).1 (by omega)⟩
  obtain ⟨T, m1, e1⟩ := main
  obtain ⟨h', q1, l, q2⟩ := frz_rows (m := 10000) (T := T) (b := ns.length + 1) (by omega) (os.length + 1) 0 h (999999 - (10000 + (os.length + 1) + 10))
  rw [show 10000 + (os.length + 1) + (999999 - (10000 + (os.length + 1) + 10)) + 10 = 999999 by omega, ← List.range_eq_range'] at q1
  have q3 : freeze 1000000 (h ++ rowsH T (os.length + 1) (ns.length + 1)) (.lst (refsT h.length (os.length + 1))) = some (.lst ((List.range (os.length + 1)).map fun i => MV.lst (rowV T (ns.length + 1) i)), h') := by
    show freeze (999999 + 1) _ _ = _
    simp only [freeze]
    show (freezeL 999999 (h ++ (List.range (os.length + 1)).map fun i => MO.lst (rowV T (ns.length + 1) i)) ((List.range (os.length + 1)).map fun i => MV.ref (h.length + i))).map _ = _
    rw [q1]; rfl
  have q4 : ((List.range (os.length + 1)).map fun i => MV.lst (rowV T (ns.length + 1) i)) = tabL os ns := by
    unfold tabL
    apply List.map_congr_left
    intro i hi
    refine congrArg MV.lst ?_
    unfold rowV
    apply List.map_congr_left
    intro j hj
    rw [e1 i j (by have := List.mem_range.mp hi; omega) (by have := List.mem_range.mp hj; omega)]
  rw [q4] at q3
  subst q2
  have r := cf m1 q3 lt_tabL tidy_app
  rw [List.take_left] at r
  exact r
end PM
end

section
set_option Elab.async false
set_option linter.all false
set_option maxRecDepth 100000
namespace PM
open PySem L2 Mini
theorem sub_one {z : List MV} {x : MV} (h : z.Sublist [x]) : z = [] ∨ z = [x] := by
  cases h with
  | cons _ h => cases h; exact .inl rfl
  | cons_cons _ h => cases h; exact .inr rfl
theorem sub_snoc {z l : List MV} {x : MV} (h : z.Sublist (l ++ [x])) : z.Sublist l ∨ ∃ y, z = y ++ [x] ∧ y.Sublist l := by
  obtain ⟨a, b, rfl, h1, h2⟩ := List.sublist_append_iff.mp h
  rcases sub_one h2 with rfl | rfl
  · exact .inl (by simpa using h1)
  · exact .inr ⟨a, rfl, h1⟩
theorem lcs_ub : ∀ (n : Nat) (xs ys z : List MV), xs.length + ys.length ≤ n → z.Sublist xs → z.Sublist ys → z.length ≤ lcs xs ys
  | n, [], ys, z, _, h, _ => by rw [List.sublist_nil.mp h]; simp
  | n, x :: xs, [], z, _, _, h => by rw [List.sublist_nil.mp h]; simp
  | 0, x :: xs, y :: ys, z, hn, _, _ => by simp at hn
  | n + 1, x :: xs, y :: ys, z, hn, h1, h2 => by
    simp only [List.length_cons] at hn
    cases z with
    | nil => simp
    | cons c z =>
      have t1 : z.Sublist xs := by
        cases h1 with
        | cons _ h => exact (List.sublist_cons_self c z).trans h
        | cons_cons _ h => exact h
      have t2 : z.Sublist ys := by
        cases h2 with
        | cons _ h => exact (List.sublist_cons_self c z).trans h
        | cons_cons _ h => exact h
      by_cases e : x = y
      · subst e
        rw [lcs_eq]
        have := lcs_ub n xs ys z (by omega) t1 t2
        simp; omega
      · rw [lcs_ne e]
        cases h1 with
        | cons _ h =>
          have := lcs_ub n xs (y :: ys) (c :: z) (by simp; omega) h h2
          omega
        | cons_cons _ h =>
          cases h2 with
          | cons _ h' =>
            have := lcs_ub n (x :: xs) ys (x :: z) (by simp; omega) (List.Sublist.cons_cons _ h) h'
            omega
          | cons_cons _ h' => exact absurd rfl e
theorem lcs_ex : ∀ (n : Nat) (xs ys : List MV), xs.length + ys.length ≤ n → ∃ z : List MV, z.Sublist xs ∧ z.Sublist ys ∧ z.length = lcs xs ys
  | n, [], ys, _ => ⟨[], by simp, by simp, by simp [lcs_n1]⟩
  | n, x :: xs, [], _ => ⟨[], by simp, by simp, by simp [lcs_n2]⟩
  | 0, x :: xs, y :: ys, hn => by simp at hn
  | n + 1, x :: xs, y :: ys, hn => by
    simp only [List.length_cons] at hn
    by_cases e : x = y
    · subst e
      obtain ⟨z, h1, h2, h3⟩ := lcs_ex n xs ys (by omega)
      exact ⟨x :: z, List.Sublist.cons_cons _ h1, List.Sublist.cons_cons _ h2, by rw [lcs_eq]; simp [h3]⟩
    · rw [lcs_ne e]
      obtain ⟨z, h1, h2, h3⟩ := lcs_ex n xs (y :: ys) (by simp; omega)
      obtain ⟨z', k1, k2, k3⟩ := lcs_ex n (x :: xs) ys (by simp; omega)
      rcases Nat.le_total (lcs (x :: xs) ys) (lcs xs (y :: ys)) with q | q
      · exact ⟨z, h1.cons _, h2, by rw [h3]; omega⟩
      · exact ⟨z', k1, k2.cons _, by rw [k3]; omega⟩
/-! the law's own count -/
def mx (E : List Nat) (k : Nat) : Nat := (E.take k).foldl max 0
theorem mx_0 {E : List Nat} : mx E 0 = 0 := by simp [mx]
theorem mx_s {E : List Nat} {k : Nat} (h : k < E.length) : mx E (k + 1) = max (mx E k) E[k] := by
  simp only [mx]
  rw [List.take_succ_eq_append_getElem h, List.foldl_append]; rfl
theorem mx_at {E : List Nat} : ∀ {k : Nat}, k ≤ E.length → mx E k = 0 ∨ ∃ q, ∃ h : q < E.length, q < k ∧ E[q] = mx E k
  | 0, _ => .inl mx_0
  | k + 1, h => by
    rw [mx_s (show k < E.length by omega)]
    rcases Nat.le_total (mx E k) E[k] with c | c
    · exact .inr ⟨k, by omega, by omega, by omega⟩
    · rcases mx_at (E := E) (k := k) (by omega) with q | ⟨q, hq, h1, h2⟩
      · exact .inl (by omega)
      · exact .inr ⟨q, hq, by omega, by omega⟩
theorem mx_mono {E E' : List Nat} : ∀ {k : Nat} (h : k ≤ E.length) (h' : k ≤ E'.length), (∀ q (hq : q < E.length) (hq' : q < E'.length), q < k → E[q] ≤ E'[q]) → mx E k ≤ mx E' k
  | 0, _, _, _ => by simp [mx_0]
  | k + 1, h, h', a => by
    rw [mx_s (show k < E.length by omega), mx_s (show k < E'.length by omega)]
    have := mx_mono (E := E) (E' := E') (k := k) (by omega) (by omega) fun q hq hq' hk => a q hq hq' (by omega)
    have := a k (by omega) (by omega) (by omega)
    omega
theorem mx_cong {E E' : List Nat} {k : Nat} (h : k ≤ E.length) (h' : k ≤ E'.length) (a : ∀ q (hq : q < E.length) (hq' : q < E'.length), q < k → E[q] = E'[q]) : mx E k = mx E' k :=
  Nat.le_antisymm (mx_mono h h' fun q hq hq' hk => Nat.le_of_eq (a q hq hq' hk)) (mx_mono h' h fun q hq hq' hk => Nat.le_of_eq (a q hq' hq hk).symm)
/-- what ends tells behind a part of the old entries -/
structure Mk (pre ns : List MV) (E : List Nat) : Prop where
  len : E.length = ns.length
  ex : ∀ p (h : p < E.length), ∃ z : List MV, z.length = E[p] ∧ z.Sublist pre ∧ z.Sublist (ns.take (p + 1))
  ub : ∀ k, k ≤ ns.length → ∀ z : List MV, z.Sublist pre → z.Sublist (ns.take k) → z.length ≤ mx E k
structure Mi (pre ns : List MV) (e : MV) (E E' : List Nat) (k : Nat) : Prop where
  len : E'.length = ns.length
  ge : ∀ q (h : q < E.length) (h' : q < E'.length), E[q] ≤ E'[q] ∧ (k ≤ q → E'[q] = E[q])
  ex : ∀ p (h : p < E'.length), ∃ z : List MV, z.length = E'[p] ∧ z.Sublist (pre ++ [e]) ∧ z.Sublist (ns.take (p + 1))
  ub : ∀ j, j ≤ k → ∀ z : List MV, z.Sublist (pre ++ [e]) → z.Sublist (ns.take j) → z.length ≤ mx E' j
open Classical in
theorem Mi.step {pre ns : List MV} {e : MV} {E E' : List Nat} {k : Nat} (M : Mk pre ns E) (I : Mi pre ns e E E' k) (hk : k < ns.length) (hk' : k < E'.length) :
    Mi pre ns e E (if ns[k] = e then E'.set k (max E'[k] (mx E k + 1)) else E') (k + 1) := by
  have hl := M.len
  have hl' := I.len
  have hE : E'[k] = E[k] := (I.ge k (by omega) hk').2 (by omega)
  have tk : ns.take (k + 1) = ns.take k ++ [ns[k]] := List.take_succ_eq_append_getElem hk
  generalize hE2 : (if ns[k] = e then E'.set k (max E'[k] (mx E k + 1)) else E') = E2
  have l2 : E2.length = ns.length := by rw [← hE2]; split <;> simp [hl']
  have at2 : ∀ q (h : q < E2.length), q ≠ k → E2[q] = E'[q]'(by omega) := fun q h hne => by
    subst hE2
    split
    · rw [List.getElem_set_ne (Ne.symm hne)]
    · rfl
  have atk : E2[k]'(by omega) = if ns[k] = e then max E[k] (mx E k + 1) else E[k] := by
    subst hE2
    split
    · rw [List.getElem_set_self]; exact congrArg (fun t => max t (mx E k + 1)) hE
    · exact hE
  have key : ∀ j, j ≤ k + 1 → k < j → ∀ z : List MV, z.Sublist (pre ++ [e]) → z.Sublist (ns.take j) → z.length ≤ mx E2 j := fun j hj hj2 z h1 h2 => by
    obtain rfl : j = k + 1 := by omega
    have m1 : mx E2 k = mx E' k := mx_cong (by omega) (by omega) fun q hq hq' hk2 => at2 q hq (by omega)
    have m2 : mx E (k + 1) ≤ mx E2 (k + 1) := mx_mono (by omega) (by omega) fun q hq hq' hk2 => by
      by_cases c : q = k
      · subst c; rw [atk]; split <;> omega
      · rw [at2 q hq' c]; exact (I.ge q hq (by omega)).1
    have m3 := mx_s (E := E2) (k := k) (by omega)
    rw [tk] at h2
    rcases sub_snoc h2 with h3 | ⟨y, rfl, h3⟩
    · have := I.ub k (Nat.le_refl _) z h1 h3
      omega
    · rcases sub_snoc h1 with h4 | ⟨y', e1, h4⟩
      · have := M.ub (k + 1) (by omega) _ h4 (by rw [tk]; exact h3.append (List.Sublist.refl _))
        omega
      · have e2 := List.append_inj' e1 rfl
        obtain ⟨rfl, e3⟩ := e2
        simp only [List.cons.injEq, and_true] at e3
        have := M.ub k (by omega) y h4 h3
        rw [atk, if_pos e3] at m3
        simp; omega
  refine ⟨l2, fun q h h' => ?_, fun p h => ?_, fun j hj z h1 h2 => ?_⟩
  · by_cases c : q = k
    · subst c
      rw [atk]
      refine ⟨by split <;> omega, fun q => by omega⟩
    · rw [at2 q h' c]
      exact ⟨(I.ge q h (by omega)).1, fun c2 => (I.ge q h (by omega)).2 (by omega)⟩
  · by_cases c : p = k
    · subst c
      rw [atk]
      obtain ⟨z, z1, z2, z3⟩ := M.ex p (by omega)
      by_cases c2 : ns[p] = e
      · rw [if_pos c2]
        rcases Nat.le_total (mx E p + 1) E[p] with q | q
        · exact ⟨z, by omega, z2.trans (List.sublist_append_left _ _), z3⟩
        · have : ∃ y : List MV, y.length = mx E p ∧ y.Sublist pre ∧ y.Sublist (ns.take p) := by
            rcases mx_at (E := E) (k := p) (by omega) with q0 | ⟨r, hr, r1, r2⟩
            · exact ⟨[], by simp [q0], by simp, by simp⟩
            · obtain ⟨y, y1, y2, y3⟩ := M.ex r hr
              exact ⟨y, by omega, y2, y3.trans (by
                rw [show ns.take (r + 1) = (ns.take p).take (r + 1) by rw [List.take_take, Nat.min_eq_left (by omega)]]
                exact List.take_sublist _ _)⟩
          obtain ⟨y, y1, y2, y3⟩ := this
          exact ⟨y ++ [e], by simp; omega, y2.append (List.Sublist.refl _), by rw [tk, c2]; exact y3.append (List.Sublist.refl _)⟩
      · rw [if_neg c2]
        exact ⟨z, z1, z2.trans (List.sublist_append_left _ _), z3⟩
    · rw [at2 p h c]
      exact I.ex p (by omega)
  · have m0 : ∀ j, j ≤ k → mx E2 j = mx E' j := fun j hj => mx_cong (by omega) (by omega) fun q hq hq' hk2 => at2 q hq (by omega)
    rcases Nat.lt_or_ge k j with hj2 | hj2
    · exact key j hj hj2 z h1 h2
    · rw [m0 j hj2]; exact I.ub j hj2 z h1 h2
theorem Mk.init {ns : List MV} : Mk [] ns (ns.map fun _ => 0) := by
  refine ⟨by simp, fun p h => ⟨[], by simp, by simp, by simp⟩, fun k hk z h1 _ => by rw [List.sublist_nil.mp h1]; simp⟩
theorem Mi.init {pre ns : List MV} {e : MV} {E : List Nat} (M : Mk pre ns E) : Mi pre ns e E E 0 :=
  ⟨M.len, fun q h h' => ⟨Nat.le_refl _, fun _ => rfl⟩, fun p h => by
    obtain ⟨z, z1, z2, z3⟩ := M.ex p h
    exact ⟨z, z1, z2.trans (List.sublist_append_left _ _), z3⟩, fun j hj z _ h => by
    obtain rfl : j = 0 := by omega
    rw [List.take_zero] at h; rw [List.sublist_nil.mp h]; simp⟩
theorem Mi.done {pre ns : List MV} {e : MV} {E E' : List Nat} (I : Mi pre ns e E E' ns.length) : Mk (pre ++ [e]) ns E' :=
  ⟨I.len, I.ex, I.ub⟩
theorem Mk.lcs {os ns : List MV} {E : List Nat} (M : Mk os ns E) : mx E ns.length = lcs os ns := by
  apply Nat.le_antisymm
  · rcases mx_at (E := E) (k := ns.length) (by rw [M.len]; omega) with q | ⟨q, hq, _, e⟩
    · omega
    · obtain ⟨z, z1, z2, z3⟩ := M.ex q hq
      rw [← e, ← z1]
      exact lcs_ub _ os ns z (Nat.le_refl _) z2 (z3.trans (List.take_sublist _ _))
  · obtain ⟨z, z1, z2, z3⟩ := lcs_ex _ os ns (Nat.le_refl _)
    rw [← z3]
    exact M.ub ns.length (Nat.le_refl _) z z1 (by rw [List.take_length]; exact z2)
end PM
end

section
set_option Elab.async false
set_option linter.all false
set_option maxRecDepth 100000
namespace PM
open PySem L2 Mini
theorem fAdd_rl {h : MH} {n : Nat} {xs ys : List MV} (e : h[n]? = some (.lst xs)) (hl : xs.length + ys.length ≤ sizeLine) : fAdd (.ref n) (.lst ys) h = .ok (.lst (xs ++ ys)) h := by
  simp only [fAdd, Mini.listOf, e]; exact if_pos hl
theorem maxOf_nat : ∀ (l : List Nat) (m : Nat), maxOf (m : Int) (l.map (fun n : Nat => (n : Int)) ++ [0]) = ((l.foldl max m : Nat) : Int)
  | [], m => by simp [maxOf]; omega
  | x :: l, m => by
    simp only [List.map_cons, List.cons_append, maxOf, List.foldl_cons]
    rw [← maxOf_nat l (max m x)]
    congr 1
    split <;> omega
def encE (E : List Nat) : List MV := E.map fun n : Nat => .int (n : Int)
theorem fMaxL_E {E : List Nat} {h : MH} : fMaxL [.lst (encE E ++ [.int 0])] h = .ok (.int (mx E E.length : Nat)) h := by
  have e1 : intsOf (encE E ++ [.int 0]) = some (E.map (fun n : Nat => (n : Int)) ++ [0]) := by
    rw [show encE E ++ [.int 0] = (E.map (fun n : Nat => (n : Int)) ++ [0]).map MV.int by simp [encE], intsOf_map]
  simp only [fMaxL, Mini.listOf, Option.bind_some, e1]
  cases E with
  | nil => simp [maxOf, mx]
  | cons x E =>
    simp only [List.map_cons, List.cons_append]
    rw [maxOf_nat E x]
    simp [mx]
theorem most_kept_ok {os ns : List MV} {h : MH} (lo : os.length ≤ 900) (ln : ns.length ≤ 900) (go : ∀ x ∈ os, gd 60 x) (gn : ∀ x ∈ ns, gd 60 x) : m__law_most_kept [.lst os, .lst ns] h = .ok (.int ((lcs os ns : Nat) : Int)) h := by
  have r2 : -(2 ^ 62) ≤ (ns.length : Int) ∧ (ns.length : Int) < 2 ^ 62 := ⟨by omega, by omega⟩
  have main : ∃ l, mDef 7 2 b__law_most_kept [.lst os, .lst ns] h = .ok (.int ((lcs os ns : Nat) : Int)) (h ++ l) := by
    have c0 : compLoop (fun _ => True) (.name 3) mYes (mC (.int 0)) [some (.lst os), some (.lst ns), none, none, none, none, none] ns [] h = .ok (encE (ns.map fun _ => 0)) h := by
      have := comp_all (chk := fun _ => True) (t := .name 3) (cond := mYes) (elt := mC (.int 0)) (ρ := [some (.lst os), some (.lst ns), none, none, none, none, none]) (h := h) (fun x : MV => x) (fun _ => MV.int ((0 : Nat) : Int)) trivial ns (fun x hx => by simp only [EV]; rfl) (by rw [sl7]; omega)
      rw [List.map_id'] at this
      rw [this]; simp [encE]
    simp only [b__law_most_kept, EV, c0]
    generalize hL : forLoop _ _ _ _ _ _ = o
    obtain ⟨ρ', h', rfl, E, pre, c3, c4, c5, c6, e1, M, rfl, rfl⟩ := for_nx0 (fun xs ρ h' => ∃ E pre c3 c4 c5 c6, os = pre ++ xs ∧ Mk pre ns E ∧ h' = h ++ [.lst (encE E)] ∧ ρ = [some (.lst os), some (.lst ns), some (.ref h.length), c3, c4, c5, c6]) hL
      ⟨_, [], none, none, none, none, rfl, Mk.init, rfl, rfl⟩ (fun _ _ _ _ => trivial) (by
      rintro x xs ρ h' ⟨E, pre, c3, c4, c5, c6, e1, M, rfl, rfl⟩
      have gx : gd 64 x := gd_mono (by omega) (go x (by rw [e1]; simp))
      simp only [EV, rng1_e r2, Int.toNat_natCast]
      generalize hL2 : forLoop _ _ _ _ _ _ = o
      obtain ⟨ρ', h', rfl, E', d5, d6, I, rfl, rfl⟩ := for_rng (fun k ρ h' => ∃ E' d5 d6, Mi pre ns x E E' k ∧ h' = h ++ [.lst (encE E')] ∧ ρ = [some (.lst os), some (.lst ns), some (.ref h.length), some x, some (.int ((mx E k : Nat) : Int)), d5, d6]) hL2
        ⟨E, c5, c6, Mi.init M, rfl, by rw [mx_0]; rfl⟩ (fun _ _ _ _ => trivial) (by
        rintro k ρ h' hk ⟨E', d5, d6, I, rfl, rfl⟩
        have hk1 : k < E'.length := by rw [I.len]; exact hk
        have hk2 : k < E.length := by rw [M.len]; exact hk
        have w1 : (encE E')[k]? = some (.int ((E'[k] : Nat) : Int)) := by simp [encE, hk1]
        have w2 : ns[k]? = some ns[k] := by simp [hk]
        have gk : gd 64 ns[k] := gd_mono (by omega) (gn _ (List.getElem_mem hk))
        have hE : E'[k] = E[k] := (I.ge k hk2 hk1).2 (Nat.le_refl _)
        have k1 : max ((mx E k : Nat) : Int) ((E'[k] : Nat) : Int) = ((mx E (k + 1) : Nat) : Int) := by rw [mx_s hk2, hE]; omega
        have k2 : max ((E'[k] : Nat) : Int) (((mx E k : Nat) : Int) + 1) = ((max E'[k] (mx E k + 1) : Nat) : Int) := by omega
        have S := I.step M hk hk1
        by_cases c : ns[k] = x
        · rw [if_pos c] at S
          have ws : k < (encE E').length := by simp [encE]; exact hk1
          have k3 : (encE E').set k (.int ((max E'[k] (mx E k + 1) : Nat) : Int)) = encE (E'.set k (max E'[k] (mx E k + 1))) := by simp [encE, List.map_set]
          simp only [EV, w1, w2, k1, fEq_t gk gx c, k2, sxK_e ws, k3]
          exact ⟨_, _, _, S, rfl, rfl⟩
        · rw [if_neg c] at S
          simp only [EV, w1, w2, k1, fEq_f gk gx c]
          exact ⟨_, _, _, S, rfl, rfl⟩)
      simp only [EV]
      exact ⟨E', pre ++ [x], _, _, _, _, by rw [e1]; simp, I.done, rfl, rfl⟩)
    rw [List.append_nil] at e1
    subst e1
    have q : (encE E).length + [MV.int 0].length ≤ sizeLine := by have := M.len; rw [sl7]; simp [encE]; omega
    have w : fAdd (.ref h.length) (.lst [.int 0]) (h ++ [.lst (encE E)]) = .ok (.lst (encE E ++ [.int 0])) (h ++ [.lst (encE E)]) := fAdd_rl get0 q
    have ml : mx E E.length = lcs os ns := by rw [M.len]; exact M.lcs
    simp only [EV, w, fMaxL_E, ml]
    exact ⟨_, rfl⟩
  obtain ⟨l, m1⟩ := main
  exact cf_ok m1 Rv.int
end PM
end

section
set_option Elab.async false
set_option linter.all false
set_option maxRecDepth 100000
namespace PM
open PySem L2 Mini
/-! ### empty hunks dropped -/
def fltA : List MV → Al → List MV → Al × List MV
  | c, [], tl => ([], c ++ tl)
  | c, (k, t, p) :: al, tl => if 0 < t.length + p.length then ((c ++ k, t, p) :: (fltA [] al tl).1, (fltA [] al tl).2) else fltA (c ++ k) al tl
theorem fltA_all : ∀ (al : Al) (c tl : List MV), src (fltA c al tl).1 (fltA c al tl).2 = c ++ src al tl ∧ dst (fltA c al tl).1 (fltA c al tl).2 = c ++ dst al tl
  | [], c, tl => ⟨rfl, rfl⟩
  | (k, t, p) :: al, c, tl => by
    simp only [fltA]
    split
    · have ih := fltA_all al [] tl
      simp only [src, dst, ih.1, ih.2, List.nil_append, List.append_assoc, and_self]
    · have ih := fltA_all al (c ++ k) tl
      have e1 : t = [] := by rw [← List.length_eq_zero_iff]; omega
      have e2 : p = [] := by rw [← List.length_eq_zero_iff]; omega
      rw [ih.1, ih.2]; simp [src, dst, e1, e2]
theorem fltA_hk : ∀ (al : Al) (c tl : List MV) (n : Nat), hkOf n (fltA c al tl).1 = (hkOf (n + c.length) al).filter neK
  | [], c, tl, n => rfl
  | (k, t, p) :: al, c, tl, n => by
    simp only [fltA, hkOf]
    split
    · rename_i q
      rw [List.filter_cons_of_pos (show neK _ = true from decide_eq_true q)]
      simp only [hkOf]
      rw [fltA_hk al [] tl]
      simp only [List.length_append, List.length_nil, Nat.add_zero, Nat.add_assoc]
    · rename_i q
      rw [List.filter_cons_of_neg (show ¬ neK ⟨((n + c.length + k.length : Nat) : Int), t, p⟩ = true from fun c => q (of_decide_eq_true c)), fltA_hk al (c ++ k) tl]
      have : t.length = 0 := by omega
      congr 2
      simp only [List.length_append]; omega
theorem fltA_keep : ∀ (al : Al) (c tl : List MV), (∀ x ∈ al, 0 < x.1.length) → ∀ x ∈ (fltA c al tl).1, 0 < x.1.length
  | [], c, tl, _, x, hx => by simp [fltA] at hx
  | (k, t, p) :: al, c, tl, h, x, hx => by
    have hk := h (k, t, p) (by simp)
    simp only [fltA] at hx
    split at hx
    · simp only [List.mem_cons] at hx
      rcases hx with rfl | hx
      · simp only [List.length_append] at hk ⊢; omega
      · exact fltA_keep al _ tl (fun y hy => h y (by simp [hy])) x hx
    · exact fltA_keep al _ tl (fun y hy => h y (by simp [hy])) x hx
theorem fltA_apt : ∀ (al : Al) (c tl : List MV), (∀ x ∈ al.tail, 0 < x.1.length) → apt (fltA c al tl).1
  | [], c, tl, _ => trivial
  | (k, t, p) :: al, c, tl, h => by
    have h' : ∀ x ∈ al, 0 < x.1.length := h
    simp only [fltA]
    split
    · rename_i c0
      exact ⟨c0, fltA_keep al _ tl h', fltA_apt al _ tl fun x hx => h' x (List.mem_of_mem_tail hx)⟩
    · exact fltA_apt al _ tl fun x hx => h' x (List.mem_of_mem_tail hx)
theorem fltA_okA : ∀ (al : Al) (c tl : List MV), okA al → okA (fltA c al tl).1
  | [], c, tl, _, x, hx => by simp [fltA] at hx
  | (k, t, p) :: al, c, tl, o, x, hx => by
    have ih := fun c => fltA_okA al c tl fun y hy => o y (by simp [hy])
    simp only [fltA] at hx
    split at hx
    · simp only [List.mem_cons] at hx
      rcases hx with rfl | hx
      · exact o (k, t, p) (by simp)
      · exact ih _ x hx
    · exact ih _ x hx
theorem fltA_len : ∀ (al : Al) (c tl : List MV), (fltA c al tl).1.length ≤ al.length
  | [], c, tl => by simp [fltA]
  | (k, t, p) :: al, c, tl => by
    simp only [fltA]
    split
    · have := fltA_len al [] tl
      simp only [List.length_cons]; omega
    · have := fltA_len al (c ++ k) tl
      simp only [List.length_cons]; omega
theorem src_app : ∀ (al al2 : Al) (tl : List MV), src (al ++ al2) tl = src al (src al2 tl)
  | [], _, _ => rfl
  | (k, t, p) :: al, al2, tl => by simp only [List.cons_append, src, src_app al al2 tl]
theorem dst_app : ∀ (al al2 : Al) (tl : List MV), dst (al ++ al2) tl = dst al (dst al2 tl)
  | [], _, _ => rfl
  | (k, t, p) :: al, al2, tl => by simp only [List.cons_append, dst, dst_app al al2 tl]
theorem src_tl : ∀ (al : Al) (tl : List MV), src al tl = src al [] ++ tl
  | [], _ => rfl
  | (k, t, p) :: al, tl => by simp only [src]; rw [src_tl al tl]; simp
theorem dst_tl : ∀ (al : Al) (tl : List MV), dst al tl = dst al [] ++ tl
  | [], _ => rfl
  | (k, t, p) :: al, tl => by simp only [dst]; rw [dst_tl al tl]; simp
theorem hk_app : ∀ (al al2 : Al) (n : Nat), hkOf n (al ++ al2) = hkOf n al ++ hkOf (n + (src al []).length) al2
  | [], _, _ => rfl
  | (k, t, p) :: al, al2, n => by
    simp only [List.cons_append, hkOf, hk_app al al2, src, List.length_append]
    rw [show n + k.length + t.length + (src al []).length = n + (k.length + (t.length + (src al []).length)) by omega]
/-- all that is touched, and all that stays -/
def keepN (al : Al) : Nat := (al.map fun x => x.1.length).sum
theorem touch_sum : ∀ (al : Al) (tl : List MV) (n : Nat), ((hkOf n al).map fun k => (k.put.length : Int) + k.taken.length).sum = ((src al tl).length : Int) + (dst al tl).length - 2 * ((keepN al : Int) + tl.length)
  | [], tl, n => by simp [hkOf, src, dst, keepN]; omega
  | (k, t, p) :: al, tl, n => by
    have ih := touch_sum al tl (n + k.length + t.length)
    have e : keepN ((k, t, p) :: al) = k.length + keepN al := by simp [keepN]
    simp only [hkOf, List.map_cons, List.sum_cons, ih, src, dst, List.length_append, e]; omega
theorem touch_filter : ∀ (hs : List Hk), ((hs.filter neK).map fun k => (k.put.length : Int) + k.taken.length).sum = (hs.map fun k => (k.put.length : Int) + k.taken.length).sum
  | [] => rfl
  | k :: hs => by
    by_cases c : neK k = true
    · rw [List.filter_cons_of_pos c]; simp [touch_filter hs]
    · rw [List.filter_cons_of_neg c, touch_filter hs]
      have : ¬ 0 < k.taken.length + k.put.length := fun q => c (decide_eq_true q)
      simp only [List.map_cons, List.sum_cons]; omega
/-! ### the walk through the table -/
structure LC (os ns : List MV) (h h' : MH) (ti pi : Nat) (al : Al) (kp t p : List MV) (bs : List HB) (a b : Nat) : Prop where
  pre : ∃ l, h' = h ++ l
  hv : h'[h.length]? = some (.lst (bs.map encB))
  ht : h'[ti]? = some (.lst t)
  hp : h'[pi]? = some (.lst p)
  lt : h.length < ti ∧ ti < pi ∧ pi < h'.length
  refs : ∀ x ∈ bs, ∃ i j : Nat, x.2 = (.ref i, .ref j) ∧ h.length < i ∧ i < ti ∧ h.length < j ∧ j < ti ∧ h'[i]? = some (.lst x.1.taken) ∧ h'[j]? = some (.lst x.1.put)
  hk : bs.map (·.1) = hkOf 0 al
  sr : src (al ++ [(kp, t, p)]) (os.drop a) = os
  ds : dst (al ++ [(kp, t, p)]) (ns.drop b) = ns
  al_le : a ≤ os.length
  bl_le : b ≤ ns.length
  kps : (∀ x ∈ (al ++ [(kp, t, p)]).head?, x.1 = []) ∧ ∀ x ∈ (al ++ [(kp, t, p)]).tail, x.1.length = 1
  opt : al.length + lcs (os.drop a) (ns.drop b) = lcs os ns
theorem lcs_le {xs ys : List MV} : lcs xs ys ≤ xs.length := by
  obtain ⟨z, h1, _, h3⟩ := lcs_ex _ xs ys (Nat.le_refl _)
  rw [← h3]; exact h1.length_le
theorem LC.bounds {os ns h h' ti pi al kp t p bs a b} (L : LC os ns h h' ti pi al kp t p bs a b) : (src al []).length + kp.length + t.length = a ∧ (dst al []).length + kp.length + p.length = b ∧ bs.length ≤ al.length ∧ al.length ≤ os.length := by
  have e1 := congrArg List.length L.sr
  have e2 := congrArg List.length L.ds
  have e3 := congrArg List.length L.hk
  have h1 := L.al_le
  have h2 := L.bl_le
  rw [src_app, src_tl] at e1
  rw [dst_app, dst_tl] at e2
  simp only [src, dst, List.length_append, List.length_drop] at e1 e2
  rw [len_hk] at e3
  simp only [List.length_map] at e3
  have h3 := L.opt
  have h4 := lcs_le (xs := os) (ys := ns)
  omega
theorem pre_set {h h' : MH} {i : Nat} {o : MO} (p : ∃ l, h' = h ++ l) (hi : h.length ≤ i) : ∃ l, h'.set i o = h ++ l := by
  obtain ⟨l, rfl⟩ := p
  exact ⟨l.set (i - h.length) o, List.set_append_right _ _ hi⟩
/-- an entry stays: the hunk is told, a new one begins -/
theorem LC.keep {os ns h h' ti pi al kp t p bs a b} (L : LC os ns h h' ti pi al kp t p bs a b) (ha : a < os.length) (hb : b < ns.length) (e : os[a] = ns[b]) :
    LC os ns h ((List.set h' h.length (MO.lst (bs.map encB ++ [.tup [.int ((a : Int) - (t.length : Int)), .ref ti, .ref pi]]))) ++ [.lst [], .lst []]) h'.length (h'.length + 1) (al ++ [(kp, t, p)]) [os[a]] [] []
      (bs ++ [(⟨((0 + (src al []).length + kp.length : Nat) : Int), t, p⟩, .ref ti, .ref pi)]) (a + 1) (b + 1) := by
  obtain ⟨b1, b2, b3, b4⟩ := L.bounds
  obtain ⟨l1, l2, l3⟩ := L.lt
  have keep : ∀ i : Nat, h.length < i → i < h'.length → ((List.set h' h.length (MO.lst (bs.map encB ++ [.tup [.int ((a : Int) - (t.length : Int)), .ref ti, .ref pi]]))) ++ [.lst [], .lst []])[i]? = h'[i]? := fun i h1 h2 => by
    rw [List.getElem?_append_left (by simpa using h2), List.getElem?_set_ne (by omega)]
  have ea : (a : Int) - (t.length : Int) = ((0 + (src al []).length + kp.length : Nat) : Int) := by omega
  constructor
  · obtain ⟨l, hl⟩ := pre_set (i := h.length) (o := MO.lst (bs.map encB ++ [.tup [.int ((a : Int) - (t.length : Int)), .ref ti, .ref pi]])) L.pre (Nat.le_refl _)
    exact ⟨l ++ [.lst [], .lst []], by rw [hl]; simp⟩
  · rw [List.getElem?_append_left (by simp; omega), List.getElem?_set_self (by omega), ea]
    simp [encB]
  · rw [List.getElem?_append_right (by simp)]; simp
  · rw [List.getElem?_append_right (by simp)]; simp
  · exact ⟨by omega, by omega, by simp⟩
  · intro x hx
    simp only [List.mem_append, List.mem_singleton] at hx
    rcases hx with hx | rfl
    · obtain ⟨i, j, r1, r2, r3, r4, r5, r6, r7⟩ := L.refs x hx
      exact ⟨i, j, r1, r2, by omega, r4, by omega, by rw [keep i r2 (by omega)]; exact r6, by rw [keep j r4 (by omega)]; exact r7⟩
    · exact ⟨ti, pi, rfl, by omega, by omega, by omega, by omega, by rw [keep ti (by omega) (by omega)]; exact L.ht, by rw [keep pi (by omega) (by omega)]; exact L.hp⟩
  · rw [List.map_append, L.hk, hk_app]; rfl
  · have := L.sr
    rw [drop_at ha, src_app] at this
    rw [src_app, src_app]
    exact this
  · have := L.ds
    rw [drop_at hb, dst_app] at this
    rw [dst_app, dst_app, e]
    exact this
  · omega
  · omega
  · obtain ⟨k1, k2⟩ := L.kps
    cases al with
    | nil => exact ⟨k1, fun x hx => by simp at hx; subst hx; rfl⟩
    | cons y al =>
      refine ⟨k1, fun x hx => ?_⟩
      simp only [List.cons_append, List.tail_cons, List.mem_append, List.mem_singleton] at hx k2
      rcases hx with (hx | hx) | hx
      · exact k2 x (.inl hx)
      · exact k2 x (.inr hx)
      · subst hx; rfl
  · have := L.opt
    rw [drop_at ha, drop_at hb, e, lcs_eq] at this
    simp; omega
/-- an entry is taken out -/
theorem LC.take {os ns h h' ti pi al kp t p bs a b} (L : LC os ns h h' ti pi al kp t p bs a b) (ha : a < os.length) (ho : lcs (os.drop a) (ns.drop b) = lcs (os.drop (a + 1)) (ns.drop b)) :
    LC os ns h (List.set h' ti (MO.lst (t ++ [os[a]]))) ti pi al kp (t ++ [os[a]]) p bs (a + 1) b := by
  obtain ⟨l1, l2, l3⟩ := L.lt
  constructor
  · exact pre_set L.pre (by omega)
  · rw [List.getElem?_set_ne (by omega)]; exact L.hv
  · rw [List.getElem?_set_self (by omega)]
  · rw [List.getElem?_set_ne (by omega)]; exact L.hp
  · simp; omega
  · intro x hx
    obtain ⟨i, j, r1, r2, r3, r4, r5, r6, r7⟩ := L.refs x hx
    exact ⟨i, j, r1, r2, r3, r4, r5, by rw [List.getElem?_set_ne (by omega)]; exact r6, by rw [List.getElem?_set_ne (by omega)]; exact r7⟩
  · exact L.hk
  · have := L.sr
    rw [drop_at ha, src_app] at this
    rw [src_app]
    refine Eq.trans ?_ this
    simp [src]
  · have := L.ds
    rw [dst_app] at this ⊢
    exact this
  · omega
  · exact L.bl_le
  · obtain ⟨k1, k2⟩ := L.kps
    cases al with
    | nil => exact ⟨fun x hx => by simp at hx; subst hx; exact k1 (kp, t, p) rfl, fun x hx => by simp at hx⟩
    | cons y al =>
      refine ⟨k1, fun x hx => ?_⟩
      simp only [List.cons_append, List.tail_cons, List.mem_append, List.mem_singleton] at hx k2
      rcases hx with hx | hx
      · exact k2 x (.inl hx)
      · subst hx; exact k2 (kp, t, p) (.inr rfl)
  · rw [← ho]; exact L.opt
/-- an entry is put in -/
theorem LC.put {os ns h h' ti pi al kp t p bs a b} (L : LC os ns h h' ti pi al kp t p bs a b) (hb : b < ns.length) (ho : lcs (os.drop a) (ns.drop b) = lcs (os.drop a) (ns.drop (b + 1))) :
    LC os ns h (List.set h' pi (MO.lst (p ++ [ns[b]]))) ti pi al kp t (p ++ [ns[b]]) bs a (b + 1) := by
  obtain ⟨l1, l2, l3⟩ := L.lt
  constructor
  · exact pre_set L.pre (by omega)
  · rw [List.getElem?_set_ne (by omega)]; exact L.hv
  · rw [List.getElem?_set_ne (by omega)]; exact L.ht
  · rw [List.getElem?_set_self (by omega)]
  · simp; omega
  · intro x hx
    obtain ⟨i, j, r1, r2, r3, r4, r5, r6, r7⟩ := L.refs x hx
    exact ⟨i, j, r1, r2, r3, r4, r5, by rw [List.getElem?_set_ne (by omega)]; exact r6, by rw [List.getElem?_set_ne (by omega)]; exact r7⟩
  · exact L.hk
  · have := L.sr
    rw [src_app] at this ⊢
    exact this
  · have := L.ds
    rw [drop_at hb, dst_app] at this
    rw [dst_app]
    refine Eq.trans ?_ this
    simp [dst]
  · exact L.al_le
  · omega
  · obtain ⟨k1, k2⟩ := L.kps
    cases al with
    | nil => exact ⟨fun x hx => by simp at hx; subst hx; exact k1 (kp, t, p) rfl, fun x hx => by simp at hx⟩
    | cons y al =>
      refine ⟨k1, fun x hx => ?_⟩
      simp only [List.cons_append, List.tail_cons, List.mem_append, List.mem_singleton] at hx k2
      rcases hx with hx | hx
      · exact k2 x (.inl hx)
      · subst hx; exact k2 (kp, t, p) (.inr rfl)
  · rw [← ho]; exact L.opt
theorem tab_at {os ns : List MV} {i j : Nat} (hi : i ≤ os.length) (hj : j ≤ ns.length) : (tabL os ns)[i]? = some (.lst (rowV (fun i j => lcs (os.drop i) (ns.drop j)) (ns.length + 1) i)) ∧ (rowV (fun i j => lcs (os.drop i) (ns.drop j)) (ns.length + 1) i)[j]? = some (.int ((lcs (os.drop i) (ns.drop j) : Nat) : Int)) := by
  constructor
  · rw [tabL, List.getElem?_map, List.getElem?_range (by omega)]; rfl
  · rw [rowV, List.getElem?_map, List.getElem?_range (by omega)]; rfl
theorem okA_of : ∀ (al : Al) (tl : List MV), (src al tl).length ≤ 1000 → (dst al tl).length ≤ 1000 → (∀ x ∈ src al tl, gd 30 x) → (∀ x ∈ dst al tl, gd 30 x) → okA al
  | [], _, _, _, _, _, x, hx => by simp at hx
  | (k, t, p) :: al, tl, h1, h2, h3, h4, x, hx => by
    simp only [src, dst, List.length_append] at h1 h2
    rcases List.mem_cons.mp hx with rfl | hx
    · exact ⟨by simp only; omega, by simp only; omega, fun y hy => h3 y (by simp [src, hy]), fun y hy => h4 y (by simp [dst, hy])⟩
    · exact okA_of al tl (by omega) (by omega) (fun y hy => h3 y (by simp [src, hy])) (fun y hy => h4 y (by simp [dst, hy])) x hx
/-- the alignment that the least change tells: as much stays as can -/
theorem least_ok {os ns : List MV} {ft gt : List T} {h : MH} (lo : os.length ≤ 900) (ln : ns.length ≤ 900) (go : ∀ x ∈ os, gd 30 x) (gn : ∀ x ∈ ns, gd 30 x)
    (eo : m_outline_of [.lst (ft.map encT)] h = .ok (.lst os) h) (en : m_outline_of [.lst (gt.map encT)] h = .ok (.lst ns) h) :
    ∃ (al : Al) (tl : List MV), m_least_change [.lst (ft.map encT), .lst (gt.map encT)] h = .ok (chg (hkOf 0 al)) h ∧ src al tl = os ∧ dst al tl = ns ∧ apt al ∧ okA al ∧ al.length ≤ 1000 ∧
      ((hkOf 0 al).map fun k => (k.put.length : Int) + k.taken.length).sum = (os.length : Int) + ns.length - 2 * (lcs os ns : Int) := by
  have ct := common_lengths_ok (h := h) lo ln (fun x hx => gd_mono (by omega) (go x hx)) fun x hx => gd_mono (by omega) (gn x hx)
  have main : ∃ (al : Al) (kp t p : List MV) (l : MH), mDef 10 2 b_least_change [.lst (ft.map encT), .lst (gt.map encT)] h = .ok (chg ((hkOf 0 (al ++ [(kp, t, p)])).filter neK)) (h ++ l) ∧
      src (al ++ [(kp, t, p)]) [] = os ∧ dst (al ++ [(kp, t, p)]) [] = ns ∧ ((∀ x ∈ (al ++ [(kp, t, p)]).head?, x.1 = []) ∧ ∀ x ∈ (al ++ [(kp, t, p)]).tail, x.1.length = 1) ∧ al.length = lcs os ns := by
    simp only [b_least_change, EV, eo, en, ct, mWhile_e]
    generalize hL : whileLoop _ _ _ _ _ = o
    obtain ⟨ρ', h', rfl, ti, pi, al, kp, t, p, bs, L, rfl⟩ := while_nx (fun k ρ h' => ∃ ti pi al kp t p bs a b, k = os.length - a + (ns.length - b) ∧ LC os ns h h' ti pi al kp t p bs a b ∧
        ρ = [some (.lst (ft.map encT)), some (.lst (gt.map encT)), some (.lst os), some (.lst ns), some (.lst (tabL os ns)), some (.ref h.length), some (.ref ti), some (.ref pi), some (.int ((a : Nat) : Int)), some (.int ((b : Nat) : Int))])
      (fun ρ h' => ∃ ti pi al kp t p bs, LC os ns h h' ti pi al kp t p bs os.length ns.length ∧
        ρ = [some (.lst (ft.map encT)), some (.lst (gt.map encT)), some (.lst os), some (.lst ns), some (.lst (tabL os ns)), some (.ref h.length), some (.ref ti), some (.ref pi), some (.int ((os.length : Nat) : Int)), some (.int ((ns.length : Nat) : Int))])
      hL (n := os.length + ns.length) (by omega) ⟨h.length + 1, h.length + 1 + 1, [], [], [], [], [], 0, 0, by omega, by
        refine ⟨⟨_, rfl⟩, get0, get1, get2, ⟨by omega, by omega, by simp⟩, by simp, rfl, rfl, rfl, by omega, by omega, ⟨fun x hx => by simp at hx; subst hx; rfl, by simp⟩, by simp⟩, rfl⟩ (by
      rintro k ρ h' ⟨ti, pi, al, kp, t, p, bs, a, b, hk, L, rfl⟩
      obtain ⟨b1, b2, b3, b4⟩ := L.bounds
      obtain ⟨l1, l2, l3⟩ := L.lt
      have la := L.al_le
      have lb := L.bl_le
      by_cases ca : a < os.length
      · have ca' : ((a : Nat) : Int) < (os.length : Int) := by omega
        have wa : os[a]? = some os[a] := by simp [ca]
        have ga : gd 64 os[a] := gd_mono (by omega) (go _ (List.getElem_mem ca))
        have k1 : (a : Int) + 1 = ((a + 1 : Nat) : Int) := by omega
        have qt : t.length < sizeLine := by rw [sl7]; omega
        have wt := L.ht
        by_cases cb : b < ns.length
        · have cb' : ((b : Nat) : Int) < (ns.length : Int) := by omega
          have wb : ns[b]? = some ns[b] := by simp [cb]
          have gb : gd 64 ns[b] := gd_mono (by omega) (gn _ (List.getElem_mem cb))
          have k2 : (b : Int) + 1 = ((b + 1 : Nat) : Int) := by omega
          by_cases ce : os[a] = ns[b]
          · have wv := L.hv
            have qv : (bs.map encB).length < sizeLine := by rw [sl7]; simp; omega
            simp only [EV, ca', cb', wa, wb, fEq_t ga gb ce, wt, wv, appK_e qv]
            refine ⟨fun q => (by cases q), fun _ => ⟨k - 2, by omega, ?_⟩⟩
            have e1 : (List.set h' h.length (MO.lst (bs.map encB ++ [.tup [.int ((a : Int) - (t.length : Int)), .ref ti, .ref pi]]))).length = h'.length := by simp
            simp only [e1, k1, k2]
            refine ⟨_, _, _, _, _, _, _, _, _, ?_, L.keep ca cb ce, ?_⟩
            · omega
            · rfl
          · have hlc : lcs (os.drop a) (ns.drop b) = max (lcs (os.drop (a + 1)) (ns.drop b)) (lcs (os.drop a) (ns.drop (b + 1))) := by
              conv => lhs; rw [drop_at ca, drop_at cb]
              rw [lcs_ne ce, ← drop_at ca, ← drop_at cb]
            have nb : ¬ ((b : Nat) : Int) = (ns.length : Int) := by omega
            obtain ⟨t1, t2⟩ := tab_at (os := os) (ns := ns) (i := a + 1) (j := b) (by omega) (by omega)
            obtain ⟨t3, t4⟩ := tab_at (os := os) (ns := ns) (i := a) (j := b + 1) (by omega) (by omega)
            have wp := L.hp
            have qp : p.length < sizeLine := by rw [sl7]; omega
            by_cases cg : lcs (os.drop a) (ns.drop (b + 1)) ≤ lcs (os.drop (a + 1)) (ns.drop b)
            · have cg' : ((lcs (os.drop a) (ns.drop (b + 1)) : Nat) : Int) ≤ ((lcs (os.drop (a + 1)) (ns.drop b) : Nat) : Int) := by omega
              simp only [EV, ca', cb', wa, wb, fEq_f ga gb ce, nb, k1, k2, t1, t2, t3, t4, cg', wt, appK_e qt]
              exact ⟨fun q => (by cases q), fun _ => ⟨_, by omega, _, _, _, _, _, _, _, _, _, rfl, L.take ca (by omega), rfl⟩⟩
            · have cg' : ¬ ((lcs (os.drop a) (ns.drop (b + 1)) : Nat) : Int) ≤ ((lcs (os.drop (a + 1)) (ns.drop b) : Nat) : Int) := by omega
              simp only [EV, ca', cb', wa, wb, fEq_f ga gb ce, nb, k1, k2, t1, t2, t3, t4, cg', wp, appK_e qp]
              exact ⟨fun q => (by cases q), fun _ => ⟨_, by omega, _, _, _, _, _, _, _, _, _, rfl, L.put cb (by omega), rfl⟩⟩
        · have cb' : ¬ ((b : Nat) : Int) < (ns.length : Int) := by omega
          have eb : ((b : Nat) : Int) = (ns.length : Int) := by omega
          have hz : lcs (os.drop a) (ns.drop b) = lcs (os.drop (a + 1)) (ns.drop b) := by
            rw [List.drop_of_length_le (show ns.length ≤ b by omega), lcs_n2, lcs_n2]
          have L2 := L.take ca hz
          rw [eb] at cb' ⊢
          simp only [EV, ca', cb', wa, k1, wt, appK_e qt]
          refine ⟨fun q => (by cases q), fun _ => ⟨_, by omega, _, _, _, _, _, _, _, _, b, rfl, L2, by rw [eb]⟩⟩
      · have ca' : ¬ ((a : Nat) : Int) < (os.length : Int) := by omega
        by_cases cb : b < ns.length
        · have cb' : ((b : Nat) : Int) < (ns.length : Int) := by omega
          have wb : ns[b]? = some ns[b] := by simp [cb]
          have k2 : (b : Int) + 1 = ((b + 1 : Nat) : Int) := by omega
          have nb : ¬ ((b : Nat) : Int) = (ns.length : Int) := by omega
          have wp := L.hp
          have qp : p.length < sizeLine := by rw [sl7]; omega
          have hz : lcs (os.drop a) (ns.drop b) = lcs (os.drop a) (ns.drop (b + 1)) := by
            rw [List.drop_of_length_le (show os.length ≤ a by omega), lcs_n1, lcs_n1]
          simp only [EV, ca', cb', nb, wb, k2, wp, appK_e qp]
          exact ⟨fun q => (by cases q), fun _ => ⟨_, by omega, _, _, _, _, _, _, _, _, _, rfl, L.put cb hz, rfl⟩⟩
        · have cb' : ¬ ((b : Nat) : Int) < (ns.length : Int) := by omega
          obtain rfl : a = os.length := by omega
          obtain rfl : b = ns.length := by omega
          simp only [EV, ca', cb']
          exact ⟨fun _ => ⟨_, _, _, _, _, _, _, L, rfl⟩, fun q => (by cases q)⟩)
    obtain ⟨b1, b2, b3, b4⟩ := L.bounds
    obtain ⟨l1, l2, l3⟩ := L.lt
    have wv := L.hv
    have wt := L.ht
    have qv : (bs.map encB).length < sizeLine := by rw [sl7]; simp; omega
    have hk2 : ∀ i : Nat, h.length < i → (List.set h' h.length (MO.lst (bs.map encB ++ [.tup [.int ((os.length : Int) - (t.length : Int)), .ref ti, .ref pi]])))[i]? = h'[i]? := fun i hi => List.getElem?_set_ne (by omega)
    have ea : (os.length : Int) - (t.length : Int) = ((0 + (src al []).length + kp.length : Nat) : Int) := by omega
    let bs2 : List HB := bs ++ [(⟨((0 + (src al []).length + kp.length : Nat) : Int), t, p⟩, .ref ti, .ref pi)]
    have e2 : bs2.map (·.1) = hkOf 0 (al ++ [(kp, t, p)]) := by
      simp only [bs2, List.map_append, L.hk, hk_app]; rfl
    have sr := L.sr
    have ds := L.ds
    rw [List.drop_length] at sr ds
    have nE : (bs2.filter nonE).map (·.1) = (hkOf 0 (al ++ [(kp, t, p)])).filter neK := by
      rw [← e2, List.filter_map]; rfl
    have kps := L.kps
    have aptA : apt (fltA [] (al ++ [(kp, t, p)]) []).1 := fltA_apt _ _ _ fun x hx => by rw [kps.2 x hx]; omega
    have hkA := fltA_hk (al ++ [(kp, t, p)]) [] [] 0
    have r := change_of_ok (hv := .ref h.length) (bs := bs2) (h := List.set h' h.length (MO.lst (bs.map encB ++ [.tup [.int ((os.length : Int) - (t.length : Int)), .ref ti, .ref pi]])))
      (by rw [seqOf_r, List.getElem?_set_self (by omega), ea]; simp [bs2, refL, encB]) (by
        intro x hx
        simp only [bs2, List.mem_append, List.mem_singleton] at hx
        rcases hx with hx | rfl
        · obtain ⟨i, j, r1, r2, r3, r4, r5, r6, r7⟩ := L.refs x hx
          rw [okB, r1]
          exact ⟨by rw [seqOf_r, hk2 i r2, r6]; rfl, by rw [seqOf_r, hk2 j r4, r7]; rfl⟩
        · exact ⟨by rw [seqOf_r, hk2 ti (by omega), L.ht]; rfl, by rw [seqOf_r, hk2 pi (by omega), L.hp]; rfl⟩) (by
        rw [nE]
        have := okH_hk0 aptA
        rw [hkA] at this
        exact this) (by
        have oA : okA (al ++ [(kp, t, p)]) := okA_of _ [] (by rw [sr]; omega) (by rw [ds]; omega) (by rw [sr]; exact go) (by rw [ds]; exact gn)
        intro x hx
        have : x.1 ∈ bs2.map (·.1) := List.mem_map_of_mem hx
        rw [e2] at this
        exact okE_hk _ _ oA _ this) (by simp [bs2]; omega)
    rw [nE] at r
    obtain ⟨l, hl⟩ := pre_set (i := h.length) (o := MO.lst (bs.map encB ++ [.tup [.int ((os.length : Int) - (t.length : Int)), .ref ti, .ref pi]])) L.pre (Nat.le_refl _)
    have op := L.opt
    simp only [EV, wv, wt, appK_e qv, r]
    refine ⟨al, kp, t, p, l, by rw [hl], sr, ds, kps, ?_⟩
    rw [List.drop_length, List.drop_length, lcs_n1] at op
    exact op
  obtain ⟨al, kp, t, p, l, m1, sr, ds, kps, hl⟩ := main
  have hkA := fltA_hk (al ++ [(kp, t, p)]) [] [] 0
  have all := fltA_all (al ++ [(kp, t, p)]) [] []
  have aptA : apt (fltA [] (al ++ [(kp, t, p)]) []).1 := fltA_apt _ _ _ fun x hx => by rw [kps.2 x hx]; omega
  have oA : okA (al ++ [(kp, t, p)]) := okA_of _ [] (by rw [sr]; omega) (by rw [ds]; omega) (by rw [sr]; exact go) (by rw [ds]; exact gn)
  have hl2 := fltA_len (al ++ [(kp, t, p)]) [] []
  have hl3 : (al ++ [(kp, t, p)]).length = al.length + 1 := by simp
  have hl4 := lcs_le (xs := os) (ys := ns)
  simp only [List.length_nil, Nat.add_zero] at hkA
  rw [sr, ds] at all
  rw [← hkA] at m1
  refine ⟨(fltA [] (al ++ [(kp, t, p)]) []).1, (fltA [] (al ++ [(kp, t, p)]) []).2, cf_ok m1 (rv_chg (by rw [len_hk]; omega) (okE_hk _ _ (fltA_okA _ _ _ oA))), all.1, all.2, aptA, fltA_okA _ _ _ oA, by omega, ?_⟩
  rw [hkA, touch_filter, touch_sum _ [] 0, sr, ds]
  have : keepN (al ++ [(kp, t, p)]) = al.length := by
    have ks : ∀ (al : Al), (∀ x ∈ al, x.1.length = 1) → keepN al = al.length := fun al => by
      induction al with
      | nil => intro _; rfl
      | cons x al ih => intro h; have := ih fun y hy => h y (by simp [hy]); have := h x (by simp); simp [keepN] at *; omega
    cases al with
    | nil => have := kps.1 (kp, t, p) rfl; simp only at this; subst this; simp [keepN]
    | cons x al =>
      have h1 := kps.1 x rfl
      have h2 := ks (al ++ [(kp, t, p)]) kps.2
      simp only [List.cons_append, keepN, List.map_cons, List.sum_cons, h1, List.length_nil, Nat.zero_add] at h2 ⊢
      rw [h2]; simp
  rw [this, hl]; simp
end PM
end

section
set_option Elab.async false
set_option linter.all false
set_option maxRecDepth 100000
namespace PM
open PySem L2 Mini
/-- a valid outline, and what is told of it -/
structure VO (n : Nat) (o : List Lf) : Prop where
  g : gO n o
  ok : okO none o
theorem VO.gd {n : Nat} {o : List Lf} (V : VO n o) : ∀ x ∈ o.map encL, gd 30 x := fun x hx => by
  obtain ⟨y, hy, rfl⟩ := List.mem_map.mp hx
  have := V.g.nle
  exact gd_encL (n := 28) (by have := (V.g.row y hy).1; omega) (V.g.row y hy).2
theorem VO.len {n : Nat} {o : List Lf} (V : VO n o) : (o.map encL).length ≤ 900 := by have := V.g.len; simpa using this
theorem VO.out {n : Nat} {o : List Lf} {h : MH} (V : VO n o) : m_outline_of [.lst ((treeOf o).map encT)] h = .ok (.lst (o.map encL)) h := by
  obtain ⟨t1, t2, t3⟩ := tree_sz o [] n V.g.rows (by simp [dTs])
  have hs := V.g.sum
  have hn := V.g.nle
  have hz : sTs (treeOf o) ≤ 1000 := by show sTs (treeFrom [] o) ≤ 1000; simp [sTs] at t2; omega
  have hd : dTs (treeOf o) < 70 := by show dTs (treeFrom [] o) < 70; omega
  rw [outline_of_ok hd (t1 trivial) hz, lv_tree V.ok]
theorem changed_ok {n : Nat} {o o' : List Lf} {h : MH} (V : VO n o) (V' : VO n o') {al : Al} {tl : List MV} (hs : src al tl = o.map encL) (hd : dst al tl = o'.map encL) :
    m_changed [.lst ((treeOf o).map encT), chg (hkOf 0 al)] h = .ok (.lst ((treeOf o').map encT)) h := by
  have h1 := V.len
  have h2 := V'.len
  have r := spliced_ok al tl h (by rw [hs]; omega) (by rw [hd]; omega) (by rw [hs]; exact V.gd) (by rw [hd]; exact V'.gd) (.lst (o.map encL)) (by rw [hs]; rfl)
  rw [hd] at r
  have hn := V'.g.nle
  refine cf_ok0 ?_ (Rv.gdn (by omega) (gd_form V'.g))
  simp only [b_changed, EV, V.out, r, form_of_ok V'.g V'.ok]
theorem insOf_chg {hs : List Hk} {h : MH} : insOf h (chg hs) = some (40, [("hunks" : Str)], [MV.tup (hs.map encH)]) := rfl
theorem leads_ok {n : Nat} {o o' : List Lf} {h : MH} (V : VO n o) (V' : VO n o') {al : Al} {tl : List MV} (hs : src al tl = o.map encL) (hd : dst al tl = o'.map encL) (a : apt al) (oA : okA al) (hl : al.length ≤ 1000) :
    m__law_leads [.lst (o.map encL), .lst (o'.map encL), chg (hkOf 0 al)] h = .ok (.bl true) h := by
  have hn := V.g.nle
  have c1 := changed_ok (h := h) V V' hs hd
  have c2 := changed_ok (h := h) (al := swp al) (tl := tl) V' V (by rw [src_swp]; exact hd) (by rw [dst_swp]; exact hs)
  have c3 := contrary_ok al h a oA hl
  have f1 := law_form_ok (h := h) V.g V.ok
  have f2 := law_form_ok (h := h) V'.g V'.ok
  have s1 : m__law_same 200 [.lst ((treeOf o).map encT), .lst ((treeOf o).map encT)] h = .ok (.bl true) h := same_ok (gd_mono (by have := V.g.nle; omega) (gd_form V.g))
  have s2 : m__law_same 200 [.lst ((treeOf o').map encT), .lst ((treeOf o').map encT)] h = .ok (.bl true) h := same_ok (gd_mono (by have := V'.g.nle; omega) (gd_form V'.g))
  refine cf_ok0 ?_ Rv.bl
  have ne : (("contrary" : Str) == "hunks") = false := by decide
  simp only [b__law_leads, EV, f1, f2, c1, s2, insOf_chg, methF_1 ne, c3, c2, s1]
theorem nar1 (os ns : List MV) : hkOf 0 (narA [] [([], os, ns)] []).1 = nrL 0 os ns := by
  rw [narA_hk]
  simp only [hkOf, narL, List.flatMap_cons, List.flatMap_nil, List.append_nil]
  rfl
theorem okA1 {os ns : List MV} (lo : os.length ≤ 1000) (ln : ns.length ≤ 1000) (go : ∀ x ∈ os, gd 30 x) (gn : ∀ x ∈ ns, gd 30 x) : okA [([], os, ns)] := fun x hx => by
  simp only [List.mem_singleton] at hx; subst hx; exact ⟨lo, ln, go, gn⟩
theorem between_ok {n : Nat} {o o' : List Lf} {h : MH} (V : VO n o) (V' : VO n o') : m_change_between [.lst ((treeOf o).map encT), .lst ((treeOf o').map encT)] h = .ok (chg (nrL 0 (o.map encL) (o'.map encL))) h := by
  have h1 := V.len
  have h2 := V'.len
  have r1 := narrow_ok (n := 0) (tv := .lst (o.map encL)) (pv := .lst (o'.map encL)) (h := h) rfl rfl (by omega) (by omega) V.gd V'.gd
  have r2 := change_between_narrow (h := h) (xs := o.map encL) (ys := o'.map encL) (by omega) (by omega) V.gd V'.gd
  have hl : (nrL 0 (o.map encL) (o'.map encL)).length ≤ 1000 := by unfold nrL; split <;> simp
  refine cf_ok0 ?_ (rv_chg hl ?_)
  · simp only [b_change_between, EV, V.out, V'.out, r1, r2]
  · intro k hk
    unfold nrL at hk
    split at hk
    · simp at hk; subst hk; exact nr_okE (by omega) (by omega) V.gd V'.gd
    · simp at hk
theorem sum_pos : ∀ (al : Al) (n : Nat), apt al → ((hkOf n al).map fun k => (k.put.length : Int) + k.taken.length).sum = 0 → al = []
  | [], _, _, _ => rfl
  | (k, t, p) :: al, n, a, e => by
    have nn : ∀ (hs : List Hk), 0 ≤ (hs.map fun k => (k.put.length : Int) + k.taken.length).sum := fun hs => by
      induction hs with
      | nil => simp
      | cons k hs ih => simp only [List.map_cons, List.sum_cons]; omega
    have h1 := nn (hkOf (n + k.length + t.length) al)
    have h2 := a.1
    simp only [hkOf, List.map_cons, List.sum_cons] at e
    omega
theorem lcs_self : ∀ (xs : List MV), lcs xs xs = xs.length
  | [] => by simp [lcs_n1]
  | x :: xs => by rw [lcs_eq, lcs_self xs]; rfl
theorem pair_right_ok {n : Nat} {o o' : List Lf} {h : MH} (V : VO n o) (V' : VO n o') : m__law_pair_right [.lst (o.map encL), .lst (o'.map encL)] h = .ok (.bl true) h := by
  have h1 := V.len
  have h2 := V'.len
  have f1 := law_form_ok (h := h) V.g V.ok
  have f2 := law_form_ok (h := h) V'.g V'.ok
  have b1 := between_ok (h := h) V V'
  have n1 := law_narrow_ok (n := 0) (tv := .lst (o.map encL)) (pv := .lst (o'.map encL)) (h := h) rfl rfl (by omega) (by omega) V.gd V'.gd
  have okA0 := okA1 (os := o.map encL) (ns := o'.map encL) (by omega) (by omega) V.gd V'.gd
  have na := narA_all [([], o.map encL, o'.map encL)] [] []
  have hl0 : (nrL 0 (o.map encL) (o'.map encL)).length ≤ 1000 := by unfold nrL; split <;> simp
  have l1 := leads_ok (h := h) (al := (narA [] [([], o.map encL, o'.map encL)] []).1) (tl := (narA [] [([], o.map encL, o'.map encL)] []).2) V V'
    (by rw [na.1]; simp [src]) (by rw [na.2]; simp [dst]) (narA_apt _ _ _ (by simp)) (narA_okA _ _ _ okA0) (Nat.le_trans (narA_len _ _ _) (by simp))
  rw [nar1] at l1
  have oE := okE_hk _ 0 (narA_okA [([], o.map encL, o'.map encL)] [] [] okA0)
  rw [nar1] at oE
  have s1 : m__law_same 200 [.tup ((nrL 0 (o.map encL) (o'.map encL)).map encH), .tup ((nrL 0 (o.map encL) (o'.map encL)).map encH)] h = .ok (.bl true) h := same_ok (gd_mono (by omega) (gd_hs hl0 oE))
  obtain ⟨al, tl, m1, sr, ds, ap, oA, la, sm⟩ := least_ok (h := h) (ft := treeOf o) (gt := treeOf o') h1 h2 V.gd V'.gd V.out V'.out
  have l2 := leads_ok (h := h) V V' sr ds ap oA la
  have k1 := most_kept_ok (h := h) h1 h2 (fun x hx => gd_mono (by omega) (V.gd x hx)) fun x hx => gd_mono (by omega) (V'.gd x hx)
  have t1 := touched_ok (hs := hkOf 0 al) (h := h) (by rw [len_hk]; omega)
  rw [sm] at t1
  have s2 : ∀ i : Int, m__law_same 200 [.int i, .int i] h = .ok (.bl true) h := fun i => same_ok (n := 200) (gd_int (n := 199))
  have hg := hunks_good_ok (h := h) (okH_hk0 ap)
  have e1 := V.g.nle
  have e2 := V'.g.nle
  have s3 : m__law_same 200 [.lst [.lst ((treeOf o).map encT), .lst ((treeOf o').map encT)], .lst [.lst ((treeOf o).map encT), .lst ((treeOf o').map encT)]] h = .ok (.bl true) h := same_ok (gd_mono (n := (2 * n + 32) + 1) (by omega) (gd_lst (by simp) fun x hx => by
    simp only [List.mem_cons, List.not_mem_nil, or_false] at hx
    rcases hx with rfl | rfl
    · exact gd_form V.g
    · exact gd_form V'.g))
  have g1 : gd 64 (.lst (o.map encL)) := gd_lst (by omega) fun x hx => gd_mono (by omega) (V.gd x hx)
  have g2 : gd 64 (.lst (o'.map encL)) := gd_lst (by omega) fun x hx => gd_mono (by omega) (V'.gd x hx)
  have g0 : gd 64 (.tup []) := gd_tup (by simp) (by simp)
  have ne : (("touched" : Str) == "hunks") = false := by decide
  have q1 : fMul (.int 2) (.int ((lcs (o.map encL) (o'.map encL) : Nat) : Int)) h = .ok (.int (2 * ((lcs (o.map encL) (o'.map encL) : Nat) : Int))) h := fMul_e1 ⟨by omega, by omega⟩
  have q2 : ((o.map encL).length : Int) + ((o'.map encL).length : Int) - 2 * ((lcs (o.map encL) (o'.map encL) : Nat) : Int) = ((o.map encL).length : Int) + ((o'.map encL).length : Int) - 2 * ((lcs (o.map encL) (o'.map encL) : Nat) : Int) := rfl
  refine cf_ok0 ?_ Rv.bl
  have fin : ∀ b : Bool, fEq (.lst (o.map encL)) (.lst (o'.map encL)) h = .ok (.bl b) h → (b = true → fNe (.tup ((hkOf 0 al).map encH)) (.tup []) h = .ok (.bl false) h) → soOut (b__law_pair_right [some (.lst (o.map encL)), some (.lst (o'.map encL)), none, none, none, none, none] h) = .ok (.bl true) h := fun b hb hb2 => by
    cases b with
    | false => simp only [b__law_pair_right, EV, f1, f2, b1, n1, s1, l1, m1, k1, q1, insOf_chg, fldF_0, methF_1 ne, t1, s2, l2, hg, hb, s3]
    | true => simp only [b__law_pair_right, EV, f1, f2, b1, n1, s1, l1, m1, k1, q1, insOf_chg, fldF_0, methF_1 ne, t1, s2, l2, hg, hb, hb2 rfl, s3]
  simp only [EV]
  by_cases c : o.map encL = o'.map encL
  · refine fin true (fEq_t g1 g2 (by rw [c])) fun _ => ?_
    have z : al = [] := sum_pos al 0 ap (by rw [sm, c, lcs_self]; omega)
    subst z
    exact fNe_f g0 g0 rfl
  · exact fin false (fEq_f g1 g2 fun q => c (by simpa using q)) fun q => by cases q
end PM
end

section
set_option Elab.async false
set_option linter.all false
set_option maxRecDepth 100000
namespace PM
open PySem L2 Mini
/-! ### draws -/
theorem law_draw_ok (ds : List Int) (hs : MH) (m : Int) (hm' : 0 < m) : ∃ (v : Nat) (ds' : List Int), (v : Int) < m ∧ m__law_draw [.ref 0, .int m] (D ds :: hs) = .ok (.int (v : Int)) (D ds' :: hs) := by
  rcases List.eq_nil_or_concat ds with rfl | ⟨ys, y, rfl⟩
  · refine ⟨0, [], hm', cf_okD0 ?_ Rv.int⟩
    simp only [b__law_draw, EV, D, List.map_nil]
    rfl
  · rw [List.concat_eq_append]
    have h1 : 0 ≤ y % m := Int.emod_nonneg _ (by omega)
    have h2 := Int.emod_lt_of_pos y hm'
    refine ⟨(y % m).toNat, ys, by omega, cf_okD0 ?_ Rv.int⟩
    have c : ¬ ((((ys.map MV.int) ++ [MV.int y]).length : Int) = 0) := by simp; omega
    simp only [b__law_draw, EV, D, List.map_append, List.map_cons, List.map_nil, c, fMod_e hm', Int.toNat_of_nonneg h1]
theorem law_pick_ok (ds : List Int) (hs : MH) (v : MV) (xs : List MV) (hv : ∀ h, seqOf h v = some xs) (hx : xs ≠ []) (hr : ∀ x ∈ xs, Rv x) : ∃ (x : MV) (ds' : List Int), x ∈ xs ∧ m__law_pick [.ref 0, v] (D ds :: hs) = .ok x (D ds' :: hs) := by
  obtain ⟨i, ds', hi, e⟩ := law_draw_ok ds hs (xs.length : Int) (by have := List.length_pos_iff.mpr hx; omega)
  have hi : i < xs.length := by omega
  refine ⟨xs[i], ds', List.getElem_mem hi, cf_okD0 ?_ (hr _ (List.getElem_mem hi))⟩
  have w : fIx v (.int (i : Int)) (D ds' :: hs) = .ok xs[i] (D ds' :: hs) := by
    rw [fIx_v (hv _), atI_n, List.getElem?_eq_getElem hi]; rfl
  simp only [b__law_pick, EV, fLen_v (hv _), e, w]
/-! texts -/
theorem strOk_app {s t : Str} (h1 : PyData.strOk s = true) (h2 : PyData.strOk t = true) : PyData.strOk (s ++ t) = true := by
  show (s.cps ++ t.cps).all _ = true
  rw [Array.all_append]
  exact Bool.and_eq_true_iff.mpr ⟨h1, h2⟩
theorem len_app {s t : Str} : (s ++ t).length = s.length + t.length := by
  show (s.cps ++ t.cps).size = _
  rw [Array.size_append]; rfl
theorem mulM (v : Nat) (hv : v < 4) : MulOk "m" (v : Int) ∧ PyData.strOk (Txt.mul "m" (v : Int)) = true ∧ (Txt.mul "m" (v : Int)).length = v := by
  match v, hv with
  | 0, _ => exact ⟨by refine ⟨by decide, ?_, ?_⟩ <;> decide, by decide +kernel, by decide +kernel⟩
  | 1, _ => exact ⟨by refine ⟨by decide, ?_, ?_⟩ <;> decide, by decide +kernel, by decide +kernel⟩
  | 2, _ => exact ⟨by refine ⟨by decide, ?_, ?_⟩ <;> decide, by decide +kernel, by decide +kernel⟩
  | 3, _ => exact ⟨by refine ⟨by decide, ?_, ?_⟩ <;> decide, by decide +kernel, by decide +kernel⟩
def abc : Str := "abcdefghijklmnopqrstuvwxyz"
theorem abc_len : abc.cps.toList.length = 26 := by decide +kernel
theorem abc_at (i : Nat) (hi : i < 26) : ∃ c, abc.cps.toList[i]? = some c ∧ c = 97 + i := by
  have : ∀ j : Fin 26, abc.cps.toList[j.val]? = some (97 + j.val) := by decide +kernel
  exact ⟨97 + i, this ⟨i, hi⟩, rfl⟩
end PM
end

section
set_option Elab.async false
set_option linter.all false
set_option maxRecDepth 100000
namespace PM
open PySem L2 Mini
/-- the names of a book: one letter each between the same m's -/
def nmOf (a b : Str) (i : Nat) : Str := a ++ (⟨#[97 + i]⟩ : Str) ++ b
theorem nm_ok {a b : Str} {i : Nat} (ha : PyData.strOk a = true) (hb : PyData.strOk b = true) (hi : i < 26) : PyData.strOk (nmOf a b i) = true := by
  refine strOk_app (strOk_app ha ?_) hb
  simp [PyData.strOk]; omega
structure Names (names : List Str) (many : Nat) : Prop where
  len : names.length = many
  ex : ∃ (a b start step : Nat), a < 4 ∧ b < 4 ∧ start < 26 ∧ step ∈ [1, 25, 3, 7] ∧ names = (List.range many).map fun k => nmOf (Txt.mul "m" (a : Int)) (Txt.mul "m" (b : Int)) ((start + k * step) % 26)
theorem Names.ok {names : List Str} {many : Nat} (N : Names names many) : ∀ s ∈ names, PyData.strOk s = true := fun s hs => by
  obtain ⟨a, b, start, step, ha, hb, h1, h2, rfl⟩ := N.ex
  obtain ⟨k, _, rfl⟩ := List.mem_map.mp hs
  exact nm_ok (mulM a ha).2.1 (mulM b hb).2.1 (Nat.mod_lt _ (by omega))
theorem law_names_ok (ds : List Int) (hs : MH) (many : Nat) (hm : many ≤ 1000) : ∃ (names : List Str) (ds' : List Int), Names names many ∧ m__law_names [.ref 0, .int (many : Int)] (D ds :: hs) = .ok (.lst (names.map MV.str)) (D ds' :: hs) := by
  obtain ⟨start, ds1, h1, e1⟩ := law_draw_ok ds hs 26 (by omega)
  obtain ⟨stepV, ds2, h2, e2⟩ := law_pick_ok ds1 hs (.lst [.int 1, .int 25, .int 3, .int 7]) _ (fun _ => rfl) (by simp) (fun x hx => by
    simp only [List.mem_cons, List.not_mem_nil, or_false] at hx
    rcases hx with rfl | rfl | rfl | rfl <;> exact Rv.int)
  obtain ⟨step, hst, rfl⟩ : ∃ step : Nat, step ∈ [1, 25, 3, 7] ∧ stepV = .int (step : Int) := by
    simp only [List.mem_cons, List.not_mem_nil, or_false] at h2
    rcases h2 with rfl | rfl | rfl | rfl
    · exact ⟨1, by simp, rfl⟩
    · exact ⟨25, by simp, rfl⟩
    · exact ⟨3, by simp, rfl⟩
    · exact ⟨7, by simp, rfl⟩
  obtain ⟨a, ds3, h3, e3⟩ := law_draw_ok ds2 hs 4 (by omega)
  obtain ⟨b, ds4, h4, e4⟩ := law_draw_ok ds3 hs 4 (by omega)
  obtain ⟨ma, mb, mc⟩ := mulM a (by omega)
  obtain ⟨na, nb, nc⟩ := mulM b (by omega)
  let names := (List.range many).map fun k => nmOf (Txt.mul "m" (a : Int)) (Txt.mul "m" (b : Int)) ((start + k * step) % 26)
  have N : Names names many := ⟨by simp [names], a, b, start, step, by omega, by omega, by omega, hst, rfl⟩
  have r0 : -(2 ^ 62) ≤ (many : Int) ∧ (many : Int) < 2 ^ 62 := ⟨by omega, by omega⟩
  have p26 : (0 : Int) < 26 := by omega
  refine ⟨names, ds4, N, cf_refD (k := 0) (l := [.lst (names.map MV.str)]) ?_ rfl (F_gd (n := 1) (by omega) fun x hx => by
    obtain ⟨s, hs', rfl⟩ := List.mem_map.mp hx; exact gd_str (N.ok s hs')) (by simp [names]; omega)⟩
  have q1 : fMul (.str "m") (.int (a : Int)) (D ds3 :: hs) = .ok (.str (Txt.mul "m" (a : Int))) (D ds3 :: hs) := by unfold fMul; exact if_pos ma
  have q2 : fMul (.str "m") (.int (b : Int)) (D ds4 :: hs) = .ok (.str (Txt.mul "m" (b : Int))) (D ds4 :: hs) := by unfold fMul; exact if_pos na
  simp only [b__law_names, EV, e1, e2, e3, e4, q1, q2, rng1_e r0, Int.toNat_natCast]
  generalize hL : forLoop _ _ _ _ _ _ = o
  obtain ⟨ρ', h', rfl, rfl, c8, rfl⟩ := for_rng (fun k ρ h' => h' = D ds4 :: (hs ++ [.lst ((names.take k).map MV.str)]) ∧ ∃ c8, ρ = [some (.ref 0), some (.int (many : Int)), some (.str abc), some (.int (start : Int)), some (.int (step : Int)), some (.str (Txt.mul "m" (a : Int))), some (.str (Txt.mul "m" (b : Int))), some (.ref (hs.length + 1)), c8]) hL ⟨rfl, none, rfl⟩ (fun _ _ _ _ => trivial) (by
    rintro k ρ h' hk ⟨rfl, c8, rfl⟩
    have s1 : -(2 ^ 64) < (step : Int) ∧ (step : Int) < 2 ^ 64 := by
      simp only [List.mem_cons, List.not_mem_nil, or_false] at hst; omega
    have k1 : ((start : Int) + (k : Int) * (step : Int)) % 26 = (((start + k * step) % 26 : Nat) : Int) := by
      push_cast; rfl
    obtain ⟨c, hc, ec⟩ := abc_at ((start + k * step) % 26) (Nat.mod_lt _ (by omega))
    have w1 : fIx (.str abc) (.int (((start + k * step) % 26 : Nat) : Int)) (D ds4 :: (hs ++ [.lst ((names.take k).map MV.str)])) = .ok (.str ⟨#[c]⟩) (D ds4 :: (hs ++ [.lst ((names.take k).map MV.str)])) := by
      have hz : abc.length ≤ sizeLine := by rw [sl7]; have := abc_len; simp [Str.length] at this ⊢; omega
      simp only [fIx]
      rw [if_pos hz, atI_n, hc]
    have l1 : (Txt.mul "m" (a : Int)).length + (⟨#[c]⟩ : Str).length ≤ sizeLine := by rw [mc, sl7]; simp [Str.length]; omega
    have l2 : (Txt.mul "m" (a : Int) ++ (⟨#[c]⟩ : Str)).length + (Txt.mul "m" (b : Int)).length ≤ sizeLine := by rw [len_app, mc, nc, sl7]; simp [Str.length]; omega
    have l3 : ((names.take k).map MV.str).length < sizeLine := by rw [sl7]; simp [names]; omega
    simp only [EV, fMul_e s1, fMod_e p26, k1, w1, fAdd_s l1, fAdd_s l2, appK_e l3]
    refine ⟨?_, _, rfl⟩
    have : names.take (k + 1) = names.take k ++ [nmOf (Txt.mul "m" (a : Int)) (Txt.mul "m" (b : Int)) ((start + k * step) % 26)] := by
      rw [List.take_succ_eq_append_getElem (by simp [names]; omega)]
      simp [names]
    rw [this]
    simp [nmOf, ec])
  have : names.take many = names := List.take_of_length_le (by simp [names])
  rw [this]
  simp only [EV]
end PM
end

section
set_option Elab.async false
set_option linter.all false
set_option maxRecDepth 100000
set_option maxHeartbeats 4000000
namespace PM
open PySem L2 Mini
/-! ### the kind book as the law draws it -/
structure KRow where
  nm : Str
  size : Nat
  par : Option Str
  leads : List Nat
def encO (p : Option Str) : MV := match p with
  | none => .non
  | some s => .str s
def encK (r : KRow) : MV := .tup [.str r.nm, .int (r.size : Int), encO r.par, .tup (r.leads.map fun n : Nat => .int (n : Int))]
structure okRow (pre : List KRow) (r : KRow) : Prop where
  str : PyData.strOk r.nm = true
  size : 1 ≤ r.size ∧ r.size ≤ 4
  par : (r.par = none ∧ r.leads = []) ∨ ∃ q ∈ pre, r.par = some q.nm ∧ r.leads.length = r.size ∧ ∀ n ∈ r.leads, n < q.size
def okBook : List KRow → List KRow → Prop
  | _, [] => True
  | pre, r :: rs => okRow pre r ∧ okBook (pre ++ [r]) rs
theorem okBook_app : ∀ {rs pre : List KRow} {r : KRow}, okBook pre rs → okRow (pre ++ rs) r → okBook pre (rs ++ [r])
  | [], pre, r, _, h => by simpa [okBook] using h
  | q :: rs, pre, r, h, h2 => ⟨h.1, okBook_app h.2 (by simpa using h2)⟩
theorem okBook_mem : ∀ {rs pre : List KRow}, okBook pre rs → ∀ r ∈ rs, PyData.strOk r.nm = true ∧ 1 ≤ r.size ∧ r.size ≤ 4 ∧ (∀ s, r.par = some s → (∀ q ∈ pre, PyData.strOk q.nm = true) → PyData.strOk s = true) ∧ r.leads.length ≤ 4
  | [], _, _, r, hr => by simp at hr
  | q :: rs, pre, h, r, hr => by
    rcases List.mem_cons.mp hr with rfl | hr
    · refine ⟨h.1.str, h.1.size.1, h.1.size.2, fun s hs hq => ?_, ?_⟩
      · rcases h.1.par with ⟨p1, _⟩ | ⟨q, hq1, p1, _⟩
        · rw [p1] at hs; cases hs
        · rw [p1] at hs; cases hs; exact hq q hq1
      · have := h.1.size.2
        rcases h.1.par with ⟨_, p1⟩ | ⟨q, hq1, _, p1, _⟩
        · rw [p1]; simp
        · omega
    · obtain ⟨h1, h2, h3, h4, h5⟩ := okBook_mem h.2 r hr
      exact ⟨h1, h2, h3, fun s hs hq => h4 s hs fun q' hq' => by
        rcases List.mem_append.mp hq' with k | k
        · exact hq q' k
        · simp only [List.mem_singleton] at k; subst k; exact h.1.str, h5⟩
theorem gd_encK {r : KRow} (h1 : PyData.strOk r.nm = true) (h2 : ∀ s, r.par = some s → PyData.strOk s = true) (h3 : r.leads.length ≤ 4) : gd 3 (encK r) := by
  refine gd_tup (by simp) fun x hx => ?_
  simp only [List.mem_cons, List.not_mem_nil, or_false] at hx
  rcases hx with rfl | rfl | rfl | rfl
  · exact gd_str h1
  · exact gd_int
  · cases e : r.par with
    | none => exact gd_non
    | some s => exact gd_str (h2 s e)
  · exact gd_tup (by simp; omega) fun x hx => by
      obtain ⟨n, _, rfl⟩ := List.mem_map.mp hx; exact gd_int
theorem gd_book {rs : List KRow} (ok : okBook [] rs) : ∀ x ∈ rs.map encK, gd 3 x := fun x hx => by
  obtain ⟨r, hr, rfl⟩ := List.mem_map.mp hx
  obtain ⟨h1, h2, h3, h4, h5⟩ := okBook_mem ok r hr
  exact gd_encK h1 (fun s hs => h4 s hs (by simp)) h5
/-- draws one behind the other -/
theorem law_drawn (m : Int) (hm : 0 < m) (n : Nat) (hn : n ≤ 1000) (ρ : En) (c : Nat) (ds : List Int) (hs : MH) (elt : ME) (t : Nat)
    (he : ∀ (k : Nat) (ds : List Int), elt (ρ.set t (some (.int (k : Int)))) (D ds :: hs) = m__law_draw [.ref 0, .int m] (D ds :: hs)) :
    ∃ (ls : List Nat) (ds' : List Int), ls.length = n ∧ (∀ x ∈ ls, (x : Int) < m) ∧ compLoop (fun _ => True) (.name t) mYes elt ρ (rangeM 0 n) [] (D ds :: hs) = .ok (ls.map fun x : Nat => .int (x : Int)) (D ds' :: hs) := by
  generalize hL : compLoop _ _ _ _ _ _ _ _ = o
  obtain ⟨acc, h', rfl, ls, ds', rfl, rfl, h1, h2⟩ := comp_rng (fun k acc h' => ∃ (ls : List Nat) (ds' : List Int), acc = ls.map (fun x : Nat => .int (x : Int)) ∧ h' = D ds' :: hs ∧ ls.length = k ∧ ∀ x ∈ ls, (x : Int) < m) hL ⟨[], ds, rfl, rfl, rfl, by simp⟩ (fun _ _ _ _ => trivial) (by
    rintro k acc h' hk ⟨ls, ds', rfl, rfl, h1, h2⟩
    obtain ⟨v, ds2, hv, e⟩ := law_draw_ok ds' hs m hm
    simp only [EV, he, e]
    exact ⟨by rw [sl7]; simp; omega, ls ++ [v], ds2, by simp, rfl, by simp [h1], fun x hx => by
      rcases List.mem_append.mp hx with q | q
      · exact h2 x q
      · simp only [List.mem_singleton] at q; subst q; exact hv⟩)
  exact ⟨ls, ds', h1, h2, rfl⟩
theorem law_book_ok (ds : List Int) (hs : MH) (most : Nat) (hm : 1 ≤ most) (hm2 : most ≤ 100) : ∃ (rs : List KRow) (names : List Str) (ds' : List Int), okBook [] rs ∧ Names names most ∧ 1 ≤ rs.length ∧ rs.length ≤ most ∧ rs.map (·.nm) = names.take rs.length ∧
    m__law_book [.ref 0, .int (most : Int)] (D ds :: hs) = .ok (.lst (rs.map encK)) (D ds' :: hs) := by
  obtain ⟨names, ds1, N, e1⟩ := law_names_ok ds hs most (by omega)
  obtain ⟨d, ds2, h2, e2⟩ := law_draw_ok ds1 (hs ++ [.lst []]) (most : Int) (by omega)
  have hm' : (0 : Int) < (most : Int) := by omega
  have q1 : (1 : Int) + (1 + (d : Int)) % (most : Int) = ((1 + (1 + d) % most : Nat) : Int) := by push_cast; rfl
  have hlt := Nat.mod_lt (1 + d) (show 0 < most by omega)
  generalize hn : 1 + (1 + d) % most = n at *
  have r0 : -(2 ^ 62) ≤ (n : Int) ∧ (n : Int) < 2 ^ 62 := ⟨by omega, by omega⟩
  have main : ∃ rs ds', okBook [] rs ∧ rs.length = n ∧ rs.map (·.nm) = names.take n ∧ mDef 10 2 b__law_book [.ref 0, .int (most : Int)] (D ds :: hs) = .ok (.ref (hs.length + 1)) (D ds' :: (hs ++ [.lst (rs.map encK)])) := by
    simp only [b__law_book, EV, e1, e2, fMod_e hm', q1, rng1_e r0, Int.toNat_natCast]
    generalize hL : forLoop _ _ _ _ _ _ = o
    obtain ⟨ρ', h', rfl, rs, ds', c4, c5, c6, c7, c8, c9, ok, hl, hnm, rfl, rfl⟩ := for_rng (fun k ρ h' => ∃ rs ds' c4 c5 c6 c7 c8 c9, okBook [] rs ∧ rs.length = k ∧ rs.map (·.nm) = names.take k ∧ h' = D ds' :: (hs ++ [.lst (rs.map encK)]) ∧ ρ = [some (.ref 0), some (.int (most : Int)), some (.lst (names.map MV.str)), some (.ref (hs.length + 1)), c4, c5, c6, c7, c8, c9]) hL
      ⟨[], ds2, none, none, none, none, none, none, trivial, rfl, rfl, rfl, rfl⟩ (fun _ _ _ _ => trivial) (by
      rintro k ρ h' hk ⟨rs, ds3, c4, c5, c6, c7, c8, c9, ok, hl, hnm, rfl, rfl⟩
      obtain ⟨szV, ds4, hsz, e4⟩ := law_pick_ok ds3 (hs ++ [.lst (rs.map encK)]) (.lst [.int 2, .int 3, .int 1, .int 4]) _ (fun _ => rfl) (by simp) (fun x hx => by
        simp only [List.mem_cons, List.not_mem_nil, or_false] at hx
        rcases hx with rfl | rfl | rfl | rfl <;> exact Rv.int)
      obtain ⟨sz, hz1, hz2, rfl⟩ : ∃ sz : Nat, 1 ≤ sz ∧ sz ≤ 4 ∧ szV = .int (sz : Int) := by
        simp only [List.mem_cons, List.not_mem_nil, or_false] at hsz
        rcases hsz with rfl | rfl | rfl | rfl
        · exact ⟨2, by omega, by omega, rfl⟩
        · exact ⟨3, by omega, by omega, rfl⟩
        · exact ⟨1, by omega, by omega, rfl⟩
        · exact ⟨4, by omega, by omega, rfl⟩
      obtain ⟨at', ds5, ha, e5⟩ := law_draw_ok ds4 (hs ++ [.lst (rs.map encK)]) ((k : Int) + 1) (by omega)
      have hkl : k < names.length := by rw [N.len]; omega
      have wn : (names.map MV.str)[k]? = some (.str names[k]) := by simp [hkl]
      have tk : names.take (k + 1) = names.take k ++ [names[k]] := List.take_succ_eq_append_getElem hkl
      have okn : PyData.strOk names[k] = true := N.ok _ (List.getElem_mem hkl)
      have ql : (rs.map encK).length < sizeLine := by rw [sl7]; simp; omega
      by_cases c : (at' : Int) = 0
      · simp only [EV, e4, e5, c, wn, appK_e ql]
        exact ⟨rs ++ [⟨names[k], sz, none, []⟩], ds5, _, _, _, _, _, _, okBook_app ok ⟨okn, ⟨hz1, hz2⟩, .inl ⟨rfl, rfl⟩⟩, by simp [hl], by rw [List.map_append, hnm, tk]; rfl, by simp [encK, encO], rfl⟩
      · have hat : at' - 1 < rs.length := by omega
        have q2 : (at' : Int) - 1 = ((at' - 1 : Nat) : Int) := by omega
        obtain ⟨r, hr, wp⟩ : ∃ r, r ∈ rs ∧ (rs.map encK)[at' - 1]? = some (encK r) := ⟨rs[at' - 1], List.getElem_mem hat, by simp [hat]⟩
        have hp := okBook_mem ok r hr
        have r1 : -(2 ^ 62) ≤ (sz : Int) ∧ (sz : Int) < 2 ^ 62 := ⟨by omega, by omega⟩
        obtain ⟨ls, ds6, l1, l2, e6⟩ := law_drawn (r.size : Int) (by omega) sz (by omega) [some (.ref 0), some (.int (most : Int)), some (.lst (names.map MV.str)), some (.ref (hs.length + 1)), some (.int (k : Int)), some (.int (sz : Int)), some (.int (at' : Int)), some (encK r), c8, none] 0 ds5 (hs ++ [.lst (rs.map encK)])
          (mCall 2 m__law_draw (mCons (mVar 0) (mCons (mOp fIx (mVar 7) (mC (.int 1))) mNil))) 9 (fun k ds => by simp only [EV, encK])
        have w0 : ∀ h, fIx (encK r) (.int 0) h = .ok (.str r.nm) h := fun h => by simp only [encK, EV]
        simp only [EV, e4, e5, c, wn, q2, wp, rng1_e r1, Int.toNat_natCast, e6, w0, appK_e ql]
        exact ⟨rs ++ [⟨names[k], sz, some r.nm, ls⟩], ds6, _, _, _, _, _, _, okBook_app ok ⟨okn, ⟨hz1, hz2⟩, .inr ⟨r, by simpa using hr, rfl, l1, fun x hx => by have := l2 x hx; omega⟩⟩, by simp [hl], by rw [List.map_append, hnm, tk]; rfl, by simp [encK, encO], rfl⟩)
    simp only [EV]
    exact ⟨rs, ds', ok, hl, hnm, rfl⟩
  obtain ⟨rs, ds', ok, hl, hnm, m1⟩ := main
  refine ⟨rs, names, ds', ok, N, by omega, by omega, by rw [hl]; exact hnm, cf_refD (k := 0) (l := [.lst (rs.map encK)]) m1 rfl (F_gd (n := 3) (by omega) (gd_book ok)) (by simp; omega)⟩
theorem law_count_ok (ds : List Int) (hs : MH) (most : Nat) (hm : 1 ≤ most) : ∃ (n : Nat) (ds' : List Int), 1 ≤ n ∧ n ≤ most ∧ m__law_count [.ref 0, .int (most : Int)] (D ds :: hs) = .ok (.int (n : Int)) (D ds' :: hs) := by
  obtain ⟨d, ds1, h1, e1⟩ := law_draw_ok ds hs (most : Int) (by omega)
  have hm' : (0 : Int) < (most : Int) := by omega
  have q1 : (1 : Int) + (1 + (d : Int)) % (most : Int) = ((1 + (1 + d) % most : Nat) : Int) := by push_cast; rfl
  have hlt := Nat.mod_lt (1 + d) (show 0 < most by omega)
  refine ⟨1 + (1 + d) % most, ds1, by omega, by omega, cf_okD0 ?_ Rv.int⟩
  simp only [b__law_count, EV, e1, fMod_e hm', q1]
end PM
end

section
set_option Elab.async false
set_option linter.all false
set_option maxRecDepth 100000
set_option maxHeartbeats 4000000
namespace PM
open PySem L2 Mini
/-! ### shapes -/
def encN (l : List Nat) : List MV := l.map fun n : Nat => .int (n : Int)
abbrev Shape := List (List Nat)
def encS (s : Shape) : MV := .tup (s.map fun l => .tup (encN l))
structure okShape (count : Nat) (s : Shape) : Prop where
  ne : ∀ l ∈ s, l ≠ []
  up : ∀ l ∈ s, l.Pairwise (· < ·)
  lt : ∀ l ∈ s, ∀ c ∈ l, c < count
  cover : ∀ c, c < count → ∃ l ∈ s, c ∈ l
  dis : s.Pairwise fun l m => ∀ c, c ∈ l → c ∉ m
  len : s.length ≤ count
/-- the levels while the columns are dealt out -/
structure Deal (count k : Nat) (L : Nat → List Nat) : Prop where
  up : ∀ i, i < count → (L i).Pairwise (· < ·)
  lt : ∀ i, i < count → ∀ c ∈ L i, c < k
  cover : ∀ c, c < k → ∃ i, i < count ∧ c ∈ L i
  dis : ∀ i j c, i < count → j < count → c ∈ L i → c ∈ L j → i = j
def cellsL (L : Nat → List Nat) (count : Nat) : MH := (List.range count).map fun i => .lst (encN (L i))
def refsL (n count : Nat) : List MV := (List.range count).map fun i => .ref (n + i + 1)
theorem cellsL_get {L : Nat → List Nat} {count i : Nat} {hs : MH} (hi : i < count) : (hs ++ cellsL L count)[hs.length + i]? = some (.lst (encN (L i))) := by
  rw [List.getElem?_append_right (by omega), Nat.add_sub_cancel_left]; simp [cellsL, hi]
theorem cellsL_set {L : Nat → List Nat} {count i : Nat} {hs : MH} {l : List Nat} (hi : i < count) : (hs ++ cellsL L count).set (hs.length + i) (.lst (encN l)) = hs ++ cellsL (fun j => if j = i then l else L j) count := by
  rw [List.set_append_right _ _ (by omega), Nat.add_sub_cancel_left]
  congr 1
  apply List.ext_getElem?
  intro j
  by_cases hj : j < count
  · by_cases e : i = j
    · subst e
      rw [List.getElem?_set_self (by simp [cellsL, hi])]
      simp [cellsL, hi]
    · rw [List.getElem?_set_ne e]
      simp [cellsL, hj, Ne.symm e]
  · rw [List.getElem?_eq_none (by simp [cellsL]; omega), List.getElem?_eq_none (by simp [cellsL]; omega)]
theorem Deal.step {count k : Nat} {L : Nat → List Nat} (D : Deal count k L) {i : Nat} (hi : i < count) : Deal count (k + 1) (fun j => if j = i then L i ++ [k] else L j) := by
  refine ⟨fun j hj => ?_, fun j hj c hc => ?_, fun c hc => ?_, fun a b c ha hb h1 h2 => ?_⟩
  · split
    · rw [List.pairwise_append]
      exact ⟨D.up i hi, by simp, fun x hx y hy => by simp at hy; subst hy; exact D.lt i hi x hx⟩
    · exact D.up j hj
  · split at hc
    · rcases List.mem_append.mp hc with q | q
      · have := D.lt i hi c q; omega
      · simp at q; omega
    · have := D.lt j hj c hc; omega
  · rcases Nat.lt_or_ge c k with q | q
    · obtain ⟨j, hj, hc⟩ := D.cover c q
      refine ⟨j, hj, ?_⟩
      split
      · rename_i e; subst e; simp [hc]
      · exact hc
    · exact ⟨i, hi, by simp; right; omega⟩
  · have key : ∀ j, j < count → c ∈ (if j = i then L i ++ [k] else L j) → c ∈ L j ∨ (j = i ∧ c = k) := fun j hj h => by
      split at h
      · rename_i e; subst e
        rcases List.mem_append.mp h with q | q
        · exact .inl q
        · simp at q; exact .inr ⟨rfl, q⟩
      · exact .inl h
    rcases key a ha h1 with q1 | ⟨q1, r1⟩ <;> rcases key b hb h2 with q2 | ⟨q2, r2⟩
    · exact D.dis a b c ha hb q1 q2
    · have := D.lt a ha c q1; omega
    · have := D.lt b hb c q2; omega
    · omega
theorem law_shape_ok (ds : List Int) (hs : MH) (count : Nat) (hc : 1 ≤ count) (hc2 : count ≤ 500) : ∃ (s : Shape) (ds' : List Int), okShape count s ∧ m__law_shape [.ref 0, .int (count : Int)] (D ds :: hs) = .ok (encS s) (D ds' :: hs) := by
  have r0 : -(2 ^ 62) ≤ (count : Int) ∧ (count : Int) < 2 ^ 62 := ⟨by omega, by omega⟩
  have hm' : (0 : Int) < (count : Int) := by omega
  have main : ∃ (L : Nat → List Nat) (ds' : List Int), Deal count count L ∧ mDef 5 2 b__law_shape [.ref 0, .int (count : Int)] (D ds :: hs) = .ok (encS (((List.range count).map L).filter fun l => !l.isEmpty)) (D ds' :: (hs ++ cellsL L count)) := by
    simp only [b__law_shape, EV, rng1_e r0, Int.toNat_natCast]
    generalize hL : compLoop _ _ _ _ _ _ _ _ = o
    obtain ⟨acc, h', rfl, rfl, rfl⟩ := comp_rng (fun k acc h' => acc = refsL hs.length k ∧ h' = D ds :: (hs ++ cellsL (fun _ => []) k)) hL ⟨rfl, by simp [cellsL]⟩ (fun _ _ _ _ => trivial) (by
      intro k acc h' hk h0
      obtain rfl := h0.1
      obtain rfl := h0.2
      have l1 : (hs ++ cellsL (fun _ => []) k).length = hs.length + k := by simp [cellsL]
      simp only [EV, l1]
      refine ⟨by rw [sl7]; simp [refsL]; omega, ?_, ?_⟩
      · simp only [refsL, List.range_succ, List.map_append, List.map_cons, List.map_nil]
      · simp only [cellsL, List.range_succ, List.map_append, List.map_cons, List.map_nil, List.append_assoc]; rfl)
    simp only [EV, rng1_e r0, Int.toNat_natCast]
    generalize hL2 : forLoop _ _ _ _ _ _ = o
    obtain ⟨ρ', h', rfl, L, ds', c3, c4, dl, rfl, rfl⟩ := for_rng (fun k ρ h' => ∃ L ds' c3 c4, Deal count k L ∧ h' = D ds' :: (hs ++ cellsL L count) ∧ ρ = [some (.ref 0), some (.int (count : Int)), some (.lst (refsL hs.length count)), c3, c4]) hL2
      ⟨fun _ => [], ds, none, none, ⟨by simp, by simp, by simp, by simp⟩, rfl, rfl⟩ (fun _ _ _ _ => trivial) (by
      rintro k ρ h' hk ⟨L, ds', c3, c4, dl, rfl, rfl⟩
      obtain ⟨d, ds2, h2, e2⟩ := law_draw_ok ds' (hs ++ cellsL L count) (count : Int) hm'
      have q1 : ((k : Int) + (d : Int)) % (count : Int) = (((k + d) % count : Nat) : Int) := by push_cast; rfl
      have hi := Nat.mod_lt (k + d) (show 0 < count by omega)
      have S := dl.step hi
      generalize (k + d) % count = i at *
      have w1 : (refsL hs.length count)[i]? = some (.ref (hs.length + i + 1)) := by simp [refsL, hi]
      have w2 := cellsL_get (L := L) (hs := hs) hi
      have ll : (encN (L i)).length < sizeLine := by
        rw [sl7]
        have nd := (dl.up i hi).imp (fun {a b} (h : a < b) => Nat.ne_of_lt h)
        have : (L i).length ≤ k := by
          have := List.Nodup.length_le_of_subset (l₁ := L i) (l₂ := List.range k) nd fun c hc => List.mem_range.mpr (dl.lt i hi c hc)
          simpa using this
        simp [encN]; omega
      have w3 := cellsL_set (L := L) (hs := hs) (l := L i ++ [k]) hi
      have w4 : encN (L i) ++ [.int (k : Int)] = encN (L i ++ [k]) := by simp [encN]
      simp only [EV, e2, fMod_e hm', q1, w1, w2, appK_e ll, w4, w3]
      exact ⟨_, ds2, _, _, S, rfl, rfl⟩)
    have cm : ∀ ρ : En, compLoop (fun _ => True) (.name 4) (mTest (mOp fNe (mVar 4) (mLst mNil))) (mCB fTuple (mCons (mVar 4) mNil)) (some (.ref 0) :: some (.int (count : Int)) :: some (.lst (refsL hs.length count)) :: c3 :: none :: []) (refsL hs.length count) [] (D ds' :: (hs ++ cellsL L count)) =
        .ok ((((List.range count).map L).filter fun l => !l.isEmpty).map fun l => .tup (encN l)) (D ds' :: (hs ++ cellsL L count)) := fun _ => by
      rw [refsL, comp_fm (fun i : Nat => MV.ref (hs.length + i + 1)) (fun i => if (!(L i).isEmpty) = true then some (.tup (encN (L i))) else none) trivial]
      · rw [fm_filter (fun i => !(L i).isEmpty) (fun i => .tup (encN (L i))), List.filter_map, List.map_map]; rfl
      · intro i hi
        have hi := List.mem_range.mp hi
        have w2 := cellsL_get (L := L) (hs := hs) hi
        have w5 : (D ds' :: (hs ++ cellsL L count))[hs.length + i + 1]? = some (.lst (encN (L i))) := w2
        have gl : (L i).length ≤ 1000 := by
          have nd := (dl.up i hi).imp (fun {a b} (h : a < b) => Nat.ne_of_lt h)
          have := List.Nodup.length_le_of_subset (l₁ := L i) (l₂ := List.range count) nd fun c hc => List.mem_range.mpr (dl.lt i hi c hc)
          simp at this; omega
        have g1 : gd 64 (.lst (encN (L i))) := gd_lst (by simp [encN]; omega) fun x hx => by
          obtain ⟨n, _, rfl⟩ := List.mem_map.mp hx; exact gd_int
        have g0 : gd 64 (.lst []) := gd_lst (by simp) (by simp)
        cases e : L i with
        | nil =>
          rw [e] at w2 w5 g1
          simp only [EV, fNe_r1 w5, encN, List.map_nil, fNe_f g0 g0 rfl]
          rfl
        | cons c l =>
          rw [e] at w2 w5 g1
          simp only [EV, fNe_r1 w5, fNe_t g1 g0 (by simp [encN]), w2]
          rfl
      · rw [sl7]; simp; omega
    simp only [EV, cm []]
    exact ⟨L, ds', dl, rfl⟩
  obtain ⟨L, ds', dl, m1⟩ := main
  have ok : okShape count (((List.range count).map L).filter fun l => !l.isEmpty) := by
    have mem : ∀ l, l ∈ (((List.range count).map L).filter fun l => !l.isEmpty) ↔ l ≠ [] ∧ ∃ i, i < count ∧ L i = l := fun l => by
      simp [List.mem_filter, and_comm]
    refine ⟨fun l hl => ((mem l).mp hl).1, fun l hl => ?_, fun l hl c hc => ?_, fun c hc => ?_, ?_, ?_⟩
    · obtain ⟨_, i, hi, rfl⟩ := (mem l).mp hl; exact dl.up i hi
    · obtain ⟨_, i, hi, rfl⟩ := (mem l).mp hl; exact dl.lt i hi c hc
    · obtain ⟨i, hi, h⟩ := dl.cover c hc
      exact ⟨L i, (mem _).mpr ⟨fun e => by rw [e] at h; simp at h, i, hi, rfl⟩, h⟩
    · refine List.Pairwise.filter _ (List.pairwise_map.mpr ?_)
      rw [List.pairwise_iff_getElem]
      intro i j hi hj hij c h1 h2
      simp only [List.getElem_range] at h1 h2
      simp only [List.length_range] at hi hj
      have := dl.dis i j c hi hj h1 h2
      omega
    · exact Nat.le_trans (List.length_filter_le _ _) (by simp)
  refine ⟨_, ds', ok, cf_okD m1 (Rv.gdn (n := 3) (by omega) (gd_tup (by have := ok.len; simp at this ⊢; omega) fun x hx => ?_))⟩
  obtain ⟨l, hl, rfl⟩ := List.mem_map.mp hx
  have nd := (ok.up l hl).imp (fun {a b} (h : a < b) => Nat.ne_of_lt h)
  have := List.Nodup.length_le_of_subset (l₁ := l) (l₂ := List.range count) nd fun c hc => List.mem_range.mpr (ok.lt l hl c hc)
  exact gd_tup (by simp [encN] at this ⊢; omega) fun x hx => by
    obtain ⟨n, _, rfl⟩ := List.mem_map.mp hx; exact gd_int
end PM
end

section
set_option Elab.async false
set_option linter.all false
set_option maxRecDepth 100000
set_option maxHeartbeats 4000000
namespace PM
open PySem L2 Mini
/-! ### kinds and their members -/
def isKind (rs : List KRow) (k : Str) : Prop := k = "?" ∨ ∃ r ∈ rs, k = r.nm
def memb (r : KRow) : List MV := (List.range r.size).map fun n : Nat => .tup [.str r.nm, .int (n : Int)]
open Classical in
noncomputable def membs (rs : List KRow) (k : Str) : List MV := rs.flatMap fun r => if k = "?" ∨ k = r.nm then memb r else []
theorem q_ok : PyData.strOk ("?" : Str) = true := by decide +kernel
theorem membs_gd {rs : List KRow} (ok : okBook [] rs) (k : Str) : ∀ x ∈ membs rs k, gd 3 x := fun x hx => by
  obtain ⟨r, hr, hx⟩ := List.mem_flatMap.mp hx
  split at hx
  · obtain ⟨n, _, rfl⟩ := List.mem_map.mp hx
    exact gd_tup (by simp) fun y hy => by
      simp only [List.mem_cons, List.not_mem_nil, or_false] at hy
      rcases hy with rfl | rfl
      · exact gd_str (okBook_mem ok r hr).1
      · exact gd_int
  · simp at hx
theorem membs_ne {rs : List KRow} (ok : okBook [] rs) (hne : rs ≠ []) {k : Str} (hk : isKind rs k) : membs rs k ≠ [] := by
  have pos : ∀ r ∈ rs, (k = "?" ∨ k = r.nm) → membs rs k ≠ [] := fun r hr h e => by
    have h1 := (okBook_mem ok r hr).2.1
    have : (MV.tup [.str r.nm, .int ((0 : Nat) : Int)]) ∈ membs rs k := List.mem_flatMap.mpr ⟨r, hr, by
      rw [if_pos h]; exact List.mem_map.mpr ⟨0, List.mem_range.mpr (by omega), rfl⟩⟩
    rw [e] at this; simp at this
  rcases hk with h | ⟨r, hr, h⟩
  · obtain ⟨r, hr⟩ := List.exists_mem_of_ne_nil rs hne
    exact pos r hr (.inl h)
  · exact pos r hr (.inr h)
theorem membs_len {rs : List KRow} (ok : okBook [] rs) (k : Str) : (membs rs k).length ≤ 4 * rs.length := by
  have : ∀ (l : List KRow), (∀ r ∈ l, r ∈ rs) → (membs l k).length ≤ 4 * l.length := fun l => by
    induction l with
    | nil => intro _; simp [membs]
    | cons r l ih =>
      intro h
      have h1 := (okBook_mem ok r (h r (by simp))).2.2.1
      have h2 := ih fun r hr => h r (by simp [hr])
      unfold membs at h2 ⊢
      rw [List.flatMap_cons, List.length_append]
      have : (if k = "?" ∨ k = r.nm then memb r else []).length ≤ 4 := by split <;> simp [memb]; omega
      simp only [List.length_cons]; omega
  exact this rs fun _ h => h
theorem law_kinds_ok (ds : List Int) (hs : MH) (rs : List KRow) (count : Nat) (ok : okBook [] rs) (hr : rs.length ≤ 100) (hc : count ≤ 500) : ∃ (ks : List Str) (ds' : List Int), ks.length = count ∧ (∀ k ∈ ks, isKind rs k) ∧
    m__law_kinds [.ref 0, .lst (rs.map encK), .int (count : Int)] (D ds :: hs) = .ok (.tup (ks.map MV.str)) (D ds' :: hs) := by
  have r0 : -(2 ^ 62) ≤ (count : Int) ∧ (count : Int) < 2 ^ 62 := ⟨by omega, by omega⟩
  have sok : ∀ k, isKind rs k → PyData.strOk k = true := fun k hk => by
    rcases hk with rfl | ⟨r, hr, rfl⟩
    · exact q_ok
    · exact (okBook_mem ok r hr).1
  have c1 : compLoop (fun _ => True) (.name 4) mYes (mOp fIx (mVar 4) (mC (.int 0))) [some (.ref 0), some (.lst (rs.map encK)), some (.int (count : Int)), none, none, none] (rs.map encK) [] (D ds :: hs) = .ok (rs.map fun r => .str r.nm) (D ds :: hs) := by
    rw [comp_all encK (fun r => .str r.nm) trivial rs]
    · intro r _; simp only [encK, EV]
    · rw [sl7]; omega
  have q1 : (rs.map fun r => MV.str r.nm).length + [MV.str "?"].length ≤ sizeLine := by rw [sl7]; simp; omega
  have main : ∃ (ks : List Str) (ds' : List Int), ks.length = count ∧ (∀ k ∈ ks, isKind rs k) ∧ mDef 6 3 b__law_kinds [.ref 0, .lst (rs.map encK), .int (count : Int)] (D ds :: hs) = .ok (.tup (ks.map MV.str)) (D ds' :: hs) := by
    simp only [b__law_kinds, EV, c1, fAdd_l q1, rng1_e r0, Int.toNat_natCast]
    generalize hL : compLoop _ _ _ _ _ _ _ _ = o
    obtain ⟨acc, h', rfl, ks, ds', rfl, rfl, h1, h2⟩ := comp_rng (fun k acc h' => ∃ (ks : List Str) (ds' : List Int), acc = ks.map MV.str ∧ h' = D ds' :: hs ∧ ks.length = k ∧ ∀ x ∈ ks, isKind rs x) hL ⟨[], ds, rfl, rfl, rfl, by simp⟩ (fun _ _ _ _ => trivial) (by
      rintro k acc h' hk ⟨ks, ds', rfl, rfl, h1, h2⟩
      obtain ⟨x, ds2, hx, e⟩ := law_pick_ok ds' hs (.lst ((rs.map fun r => MV.str r.nm) ++ [MV.str "?"])) _ (fun _ => rfl) (by simp) (fun x hx => by
        rcases List.mem_append.mp hx with q | q
        · obtain ⟨r, hr, rfl⟩ := List.mem_map.mp q; exact Rv.gdn (n := 1) (by omega) (gd_str (okBook_mem ok r hr).1)
        · simp only [List.mem_singleton] at q; subst q; exact Rv.gdn (n := 1) (by omega) (gd_str q_ok))
      obtain ⟨s, hs', rfl⟩ : ∃ s, isKind rs s ∧ x = .str s := by
        rcases List.mem_append.mp hx with q | q
        · obtain ⟨r, hr, rfl⟩ := List.mem_map.mp q; exact ⟨_, .inr ⟨r, hr, rfl⟩, rfl⟩
        · simp only [List.mem_singleton] at q; exact ⟨_, .inl rfl, q⟩
      simp only [EV, e]
      exact ⟨by rw [sl7]; simp; omega, ks ++ [s], ds2, by simp, rfl, by simp [h1], fun y hy => by
        rcases List.mem_append.mp hy with q | q
        · exact h2 y q
        · simp only [List.mem_singleton] at q; subst q; exact hs'⟩)
    simp only [EV]
    exact ⟨ks, ds', h1, h2, rfl⟩
  obtain ⟨ks, ds', h1, h2, m1⟩ := main
  exact ⟨ks, ds', h1, h2, cf_okD0 m1 (Rv.gdn (n := 2) (by omega) (gd_tup (by simp; omega) fun x hx => by
    obtain ⟨s, hs', rfl⟩ := List.mem_map.mp hx; exact gd_str (sok s (h2 s hs'))))⟩
theorem law_members_ok (h : MH) (rs : List KRow) (k : Str) (ok : okBook [] rs) (hr : rs.length ≤ 100) (hk : PyData.strOk k = true) : m__law_members [.lst (rs.map encK), .str k] h = .ok (.lst (membs rs k)) h := by
  have g1 : gd 64 (.str k) := gd_str (n := 63) hk
  have gq : gd 64 (.str "?") := gd_str (n := 63) q_ok
  have ml := membs_len ok k
  have gm := membs_gd ok k
  have main : ∃ v, (v = .ref h.length ∧ membs rs k = [] ∨ v = .lst (membs rs k)) ∧ mDef 5 2 b__law_members [.lst (rs.map encK), .str k] h = .ok v (h ++ [.lst []]) := by
    simp only [b__law_members, EV]
    generalize hL : forLoop _ _ _ _ _ _ = o
    obtain ⟨ρ', h', rfl, pre, v, c3, c4, e1, hv, rfl, rfl⟩ := for_nx encK (fun xs ρ h' => ∃ pre v c3 c4, rs = pre ++ xs ∧ (v = .ref h.length ∧ membs pre k = [] ∨ v = .lst (membs pre k)) ∧ h' = h ++ [.lst []] ∧ ρ = [some (.lst (rs.map encK)), some (.str k), some v, c3, c4]) hL
      ⟨[], _, none, none, rfl, .inl ⟨rfl, rfl⟩, rfl, rfl⟩ (fun _ _ _ _ => trivial) (by
      rintro r xs ρ h' ⟨pre, v, c3, c4, e1, hv, rfl, rfl⟩
      have hrm : r ∈ rs := by rw [e1]; simp
      have hok := okBook_mem ok r hrm
      have g2 : gd 64 (.str r.nm) := gd_str (n := 63) hok.1
      have r1 : -(2 ^ 62) ≤ (r.size : Int) ∧ (r.size : Int) < 2 ^ 62 := ⟨by omega, by omega⟩
      have hpl : (membs pre k).length ≤ 4 * rs.length := by
        have h1 : membs rs k = membs pre k ++ membs (r :: xs) k := by rw [e1, membs, List.flatMap_append]; rfl
        rw [h1] at ml; simp at ml; omega
      have nxt : membs (pre ++ [r]) k = membs pre k ++ (if k = "?" ∨ k = r.nm then memb r else []) := by
        rw [membs, List.flatMap_append]; simp [membs]
      have add : (k = "?" ∨ k = r.nm) → Lp (bodyAt (.name 3) (mIte (mOr (mTest (mOp fEq (mVar 1) (mC (.str "?")))) (mTest (mOp fEq (mVar 1) (mOp fIx (mVar 3) (mC (.int 0))))))
          (mAsg (mOp fAdd (mVar 2) (mLc [4] (mRng1 (mCons (mOp fIx (mVar 3) (mC (.int 1))) mNil)) (.name 4) mYes (mTup (mCons (mOp fIx (mVar 3) (mC (.int 0))) (mCons (mVar 4) mNil))))) (.name 2)) mNext) (encK r) [some (.lst (rs.map encK)), some (.str k), some v, c3, c4] (h ++ [.lst []]))
          (fun ρ h' => ∃ pre v c3 c4, rs = pre ++ xs ∧ (v = .ref h.length ∧ membs pre k = [] ∨ v = .lst (membs pre k)) ∧ h' = h ++ [.lst []] ∧ ρ = [some (.lst (rs.map encK)), some (.str k), some v, c3, c4]) (fun _ _ => False) (fun _ => False) := fun hc => by
        have cm : ∀ h' : MH, compLoop (fun _ => True) (.name 4) mYes (mTup (mCons (mOp fIx (mVar 3) (mC (.int 0))) (mCons (mVar 4) mNil))) [some (.lst (rs.map encK)), some (.str k), some v, some (encK r), none] (rangeM 0 r.size) [] h' = .ok (memb r) h' := fun h' => by
          rw [rangeM_e, comp_all (fun n : Nat => MV.int (n : Int)) (fun n : Nat => .tup [.str r.nm, .int (n : Int)]) trivial]
          · rfl
          · intro n hn; simp only [encK, EV]
          · rw [sl7]; simp; omega
        have q3 : (membs pre k).length + (memb r).length ≤ sizeLine := by rw [sl7]; simp [memb]; omega
        have w0 : ∀ h, fIx (encK r) (.int 0) h = .ok (.str r.nm) h := fun h => by simp only [encK, EV]
        have w1 : ∀ h, fIx (encK r) (.int 1) h = .ok (.int (r.size : Int)) h := fun h => by simp only [encK, EV]
        have fin : ∃ v', v' = .lst (membs pre k ++ memb r) ∧ fAdd v (.lst (memb r)) (h ++ [.lst []]) = .ok v' (h ++ [.lst []]) := by
          rcases hv with ⟨rfl, e⟩ | rfl
          · exact ⟨_, rfl, by rw [e]; exact fAdd_rl (xs := []) get0 (by rw [e] at q3; exact q3)⟩
          · exact ⟨_, rfl, fAdd_l q3⟩
        obtain ⟨v', ev, ea⟩ := fin
        rw [if_pos hc] at nxt
        have done : ∃ pre v c3 c5, rs = pre ++ xs ∧ (v = .ref h.length ∧ membs pre k = [] ∨ v = .lst (membs pre k)) ∧ True ∧ ([some (.lst (rs.map encK)), some (.str k), some v', some (encK r), c4] : En) = [some (.lst (rs.map encK)), some (.str k), some v, c3, c5] :=
          ⟨pre ++ [r], v', some (encK r), c4, by rw [e1]; simp, .inr (by rw [nxt, ev]), trivial, rfl⟩
        rcases Classical.em (k = "?") with c1 | c1
        · simp only [EV, fEq_t g1 gq (by rw [c1]), w0, w1, rng1_e r1, Int.toNat_natCast, cm, ea]
          exact done
        · have c2 : k = r.nm := by rcases hc with h | h; exact absurd h c1; exact h
          simp only [EV, fEq_f g1 gq (by simpa using c1), fEq_t g1 g2 (by rw [c2]), w0, w1, rng1_e r1, Int.toNat_natCast, cm, ea]
          exact done
      rcases Classical.em (k = "?" ∨ k = r.nm) with c | c
      · exact add c
      · rw [not_or] at c
        have w0 : ∀ h, fIx (encK r) (.int 0) h = .ok (.str r.nm) h := fun h => by simp only [encK, EV]
        simp only [EV, fEq_f g1 gq (by simpa using c.1), fEq_f g1 g2 (by simpa using c.2), w0]
        rw [if_neg (by rw [not_or]; exact c), List.append_nil] at nxt
        exact ⟨pre ++ [r], v, _, _, by rw [e1]; simp, by rw [nxt]; exact hv, by trivial, rfl⟩)
    rw [List.append_nil] at e1
    subst e1
    simp only [EV]
    exact ⟨v, hv, rfl⟩
  obtain ⟨v, hv, m1⟩ := main
  rcases hv with ⟨rfl, e⟩ | rfl
  · rw [e]; exact cf_ref (k := 0) m1 rfl (by simp) (by simp)
  · exact cf_ok m1 (Rv.gdn (n := 4) (by omega) (gd_lst (by omega) gm))
theorem law_menus_ok (h : MH) (rs : List KRow) (ks : List Str) (ok : okBook [] rs) (hr : rs.length ≤ 100) (hk : ∀ k ∈ ks, isKind rs k) (hl : ks.length ≤ 500) : m__law_menus [.lst (rs.map encK), .tup (ks.map MV.str)] h = .ok (.lst (ks.map fun k => .lst (membs rs k))) h := by
  have sok : ∀ k, isKind rs k → PyData.strOk k = true := fun k hk => by
    rcases hk with rfl | ⟨r, hr, rfl⟩
    · exact q_ok
    · exact (okBook_mem ok r hr).1
  refine cf_ok0 ?_ (Rv.gdn (n := 5) (by omega) (gd_lst (by simp; omega) fun x hx => by
    obtain ⟨k, _, rfl⟩ := List.mem_map.mp hx
    exact gd_lst (by have := membs_len ok k; omega) (membs_gd ok k)))
  simp only [b__law_menus, EV]
  rw [comp_all MV.str (fun k => .lst (membs rs k)) trivial ks]
  · simp only [EV]
  · intro k hk'
    simp only [EV, law_members_ok h rs k ok hr (sok k (hk k hk'))]
  · rw [sl7]; omega
end PM
end

section
set_option Elab.async false
set_option linter.all false
set_option maxRecDepth 100000
set_option maxHeartbeats 4000000
namespace PM
open PySem L2 Mini
/-! ### drawn leaves -/
structure Mn (count : Nat) (s : Shape) (menus : List (List MV)) : Prop where
  sh : okShape count s
  c1 : 1 ≤ count
  c2 : count ≤ 60
  ml : menus.length = count
  me : ∀ m ∈ menus, m ≠ [] ∧ m.length ≤ 1000 ∧ ∀ x ∈ m, gd 3 x
def rowFits (menus : List (List MV)) (cols : List Nat) (row : Row) : Prop := row.length = cols.length ∧ ∀ (j : Nat) (x : MV) (c : Nat), row[j]? = some x → cols[j]? = some c → ∃ m, menus[c]? = some m ∧ x ∈ m
def pathFits (s : Shape) (menus : List (List MV)) (p : List Row) : Prop := ∀ (i : Nat) (row : Row), p[i]? = some row → ∃ cols, s[i]? = some cols ∧ rowFits menus cols row
theorem Mn.sne {count s menus} (M : Mn count s menus) : s ≠ [] := fun e => by
  obtain ⟨l, hl, _⟩ := M.sh.cover 0 M.c1
  rw [e] at hl; simp at hl
theorem Mn.cols {count s menus} (M : Mn count s menus) {l : List Nat} (hl : l ∈ s) : l.length ≤ 60 := by
  have nd := (M.sh.up l hl).imp (fun {a b} (h : a < b) => Nat.ne_of_lt h)
  have := List.Nodup.length_le_of_subset (l₁ := l) (l₂ := List.range count) nd fun c hc => List.mem_range.mpr (M.sh.lt l hl c hc)
  have := M.c2
  simp at *; omega
theorem Mn.row {count s menus} (M : Mn count s menus) {l : List Nat} (hl : l ∈ s) {row : Row} (h : rowFits menus l row) : gd 4 (.tup row) := by
  have := M.cols hl
  refine gd_tup (by have := h.1; omega) fun x hx => ?_
  obtain ⟨j, hj, rfl⟩ := List.mem_iff_getElem.mp hx
  have hj' : j < l.length := by rw [← h.1]; exact hj
  obtain ⟨m, hm, hx⟩ := h.2 j _ l[j] (List.getElem?_eq_getElem hj) (List.getElem?_eq_getElem hj')
  exact (M.me m (List.mem_of_getElem? hm)).2.2 _ hx
theorem Mn.path {count s menus} (M : Mn count s menus) {p : List Row} (h : pathFits s menus p) : p.length ≤ s.length ∧ ∀ c ∈ p, gd 4 (.tup c) := by
  constructor
  · rcases Nat.lt_or_ge s.length p.length with q | q
    · obtain ⟨cols, hc, _⟩ := h s.length p[s.length] (List.getElem?_eq_getElem q)
      simp at hc
    · exact q
  · intro c hc
    obtain ⟨i, hi, rfl⟩ := List.mem_iff_getElem.mp hc
    obtain ⟨cols, h1, h2⟩ := h i _ (List.getElem?_eq_getElem hi)
    exact M.row (List.mem_of_getElem? h1) h2
theorem pathFits_take {s menus} {p : List Row} (h : pathFits s menus p) (n : Nat) : pathFits s menus (p.take n) := fun i row e => by
  rw [List.getElem?_take] at e
  split at e
  · exact h i row e
  · cases e
theorem pathFits_snoc {s menus} {p : List Row} {row : Row} {cols : List Nat} (h : pathFits s menus p) (hc : s[p.length]? = some cols) (hr : rowFits menus cols row) : pathFits s menus (p ++ [row]) := fun i r e => by
  rcases Nat.lt_or_ge i p.length with q | q
  · rw [List.getElem?_append_left q] at e; exact h i r e
  · rw [List.getElem?_append_right q] at e
    have : i = p.length := by
      rcases Nat.lt_or_ge (i - p.length) 1 with q2 | q2
      · omega
      · rw [List.getElem?_eq_none (by simpa using q2)] at e; cases e
    subst this
    simp at e; subst e
    exact ⟨cols, hc, hr⟩
/-- a row drawn from the menus of its columns -/
theorem law_row {count s menus} (M : Mn count s menus) {cols : List Nat} (hl : cols ∈ s) (ρ : En) (ds : List Int) (hs : MH) (elt : ME) (t : Nat)
    (he : ∀ (c : Nat) (m : List MV) (ds : List Int), menus[c]? = some m → elt (ρ.set t (some (.int (c : Int)))) (D ds :: hs) = m__law_pick [.ref 0, .lst m] (D ds :: hs)) :
    ∃ (row : Row) (ds' : List Int), rowFits menus cols row ∧ compLoop (fun _ => True) (.name t) mYes elt ρ (encN cols) [] (D ds :: hs) = .ok row (D ds' :: hs) := by
  have hcl := M.cols hl
  rw [encN]
  generalize hL : compLoop _ _ _ _ _ _ _ _ = o
  obtain ⟨acc, h', rfl, pre, ds', e1, h1, rfl⟩ := comp_gen (fun n : Nat => MV.int (n : Int)) (fun xs acc h' => ∃ pre ds', cols = pre ++ xs ∧ rowFits menus pre acc ∧ h' = D ds' :: hs) hL ⟨[], ds, rfl, ⟨rfl, by simp⟩, rfl⟩ (fun _ _ _ _ => trivial) (by
    rintro c xs acc h' ⟨pre, ds', e1, h1, rfl⟩
    have hc : c < menus.length := by rw [M.ml]; exact M.sh.lt cols hl c (by rw [e1]; simp)
    have hm := M.me menus[c] (List.getElem_mem hc)
    obtain ⟨x, ds2, hx, e⟩ := law_pick_ok ds' hs (.lst menus[c]) menus[c] (fun _ => rfl) hm.1 fun x hx => Rv.gdn (by omega) (hm.2.2 x hx)
    simp only [EV, he c menus[c] ds' (List.getElem?_eq_getElem hc), e]
    have hpl : pre.length ≤ 60 := by have := congrArg List.length e1; simp at this; omega
    refine ⟨by rw [sl7, h1.1]; omega, pre ++ [c], ds2, by rw [e1]; simp, ⟨by simp [h1.1], fun j y d hj hd => ?_⟩, rfl⟩
    rcases Nat.lt_or_ge j acc.length with q | q
    · rw [List.getElem?_append_left q] at hj
      rw [List.getElem?_append_left (by rw [← h1.1]; exact q)] at hd
      exact h1.2 j y d hj hd
    · have q2 : j = acc.length := by
        rcases Nat.lt_or_ge (j - acc.length) 1 with q2 | q2
        · omega
        · rw [List.getElem?_append_right q, List.getElem?_eq_none (by simpa using q2)] at hj; cases hj
      subst q2
      rw [List.getElem?_append_right (Nat.le_refl _)] at hj
      rw [h1.1, List.getElem?_append_right (Nat.le_refl _)] at hd
      simp at hj hd
      subst hj hd
      exact ⟨_, List.getElem?_eq_getElem hc, hx⟩)
  rw [List.append_nil] at e1
  subst e1
  exact ⟨acc, ds', h1, rfl⟩
theorem law_leaf_ok {count s menus} (M : Mn count s menus) (ds : List Int) (hs : MH) {before : List Row} (hb : pathFits s menus before) :
    ∃ (b : Nat) (p : List Row) (ds' : List Int), b < p.length ∧ (before = [] → b = 0) ∧ (before ≠ [] → b < before.length) ∧ p.take b = before.take b ∧ pathFits s menus p ∧
      m__law_leaf [.ref 0, encS s, .lst (menus.map MV.lst), encP before] (D ds :: hs) = .ok (encL (b, p)) (D ds' :: hs) := by
  have hsl := List.length_pos_iff.mpr M.sne
  have hs60 : s.length ≤ 60 := by have := M.sh.len; have := M.c2; omega
  obtain ⟨hbl, hbg⟩ := M.path hb
  have main : ∃ (b : Nat) (p : List Row) (ds' : List Int), b < p.length ∧ (before = [] → b = 0) ∧ (before ≠ [] → b < before.length) ∧ p.take b = before.take b ∧ pathFits s menus p ∧
      mDef 10 4 b__law_leaf [.ref 0, encS s, .lst (menus.map MV.lst), encP before] (D ds :: hs) = .ok (encL (b, p)) (D ds' :: hs) := by
    obtain ⟨v, ds1, h1, e1⟩ := law_draw_ok ds hs 4 (by omega)
    have k0 : ((s.map fun l => MV.tup (encN l)).length : Int) - 1 = ((s.length - 1 : Nat) : Int) := by simp; omega
    obtain ⟨dep, ds2, hdep, st⟩ : ∃ (dep : Nat) (ds2 : List Int), dep < s.length ∧ iteS (.ok (decide ((v : Int) = 3)) (D ds1 :: hs)) (mAsg (mCall 2 m__law_draw (mCons (mVar 0) (mCons (mCB fLen (mCons (mVar 1) mNil)) mNil))) (.name 4)) mNext
        [some (.ref 0), some (encS s), some (.lst (menus.map MV.lst)), some (encP before), some (.int ((s.length - 1 : Nat) : Int)), none, none, none, none, none] =
        .nx [some (.ref 0), some (encS s), some (.lst (menus.map MV.lst)), some (encP before), some (.int (dep : Int)), none, none, none, none, none] (D ds2 :: hs) := by
      by_cases c : (v : Int) = 3
      · obtain ⟨d, ds2, h2, e2⟩ := law_draw_ok ds1 hs ((s.map fun l => MV.tup (encN l)).length : Int) (by simp; omega)
        refine ⟨d, ds2, by simp at h2; omega, ?_⟩
        simp only [encS, EV, c, e2]
      · refine ⟨s.length - 1, ds1, by omega, ?_⟩
        simp only [EV, c]
    obtain ⟨b, ds3, h3, e3⟩ := law_draw_ok ds2 hs (min (max 0 (((before.map MV.tup).length : Int) - 1)) (dep : Int) + 1) (by omega)
    simp only [List.length_map] at h3
    have w1 : (before.map MV.tup).take b = (before.take b).map MV.tup := List.map_take.symm
    have r1 : -(2 ^ 62) ≤ (b : Int) ∧ (b : Int) < 2 ^ 62 := ⟨by omega, by omega⟩
    have r2 : -(2 ^ 62) ≤ (dep : Int) + 1 ∧ (dep : Int) + 1 < 2 ^ 62 := ⟨by omega, by omega⟩
    have n1 : ((dep : Int) + 1 - (b : Int)).toNat = dep + 1 - b := by omega
    simp only [encS, encP] at st
    simp only [b__law_leaf, encS, encP, EV, k0, e1, st, e3, w1, rng2_e r1 r2, n1]
    generalize hL : forLoop _ _ _ _ _ _ = o
    obtain ⟨ρ', h', rfl, p, ds', c7, c8, hp, ht, hf, rfl, rfl⟩ := for_rng2 (fun k ρ h' => ∃ (p : List Row) (ds' : List Int) (c7 c8 : Option MV), p.length = k ∧ p.take b = before.take b ∧ pathFits s menus p ∧ h' = D ds' :: hs ∧
      ρ = [some (.ref 0), some (.tup (s.map fun l => .tup (encN l))), some (.lst (menus.map MV.lst)), some (.tup (before.map MV.tup)), some (.int (dep : Int)), some (.int (b : Int)), some (.tup (p.map MV.tup)), c7, c8, none]) hL
      ⟨before.take b, ds3, none, none, by rw [List.length_take]; omega, by rw [List.take_take, Nat.min_self], pathFits_take hb b, rfl, rfl⟩ (fun _ _ _ _ => trivial) (by
      rintro k ρ h' ha hk ⟨p, ds', c7, c8, hp, ht, hf, rfl, rfl⟩
      have hks : k < s.length := by omega
      have hcm : s[k] ∈ s := List.getElem_mem hks
      have wS : (s.map fun l => MV.tup (encN l))[k]? = some (.tup (encN s[k])) := by simp [hks]
      have k1 : (k : Int) + 1 = ((k + 1 : Nat) : Int) := by omega
      have k2 : k + 1 - k = 1 := by omega
      have g0 : gd 64 (.tup []) := gd_tup (by simp) (by simp)
      have qp : ∀ (r : MV), (p.map MV.tup).length + [r].length ≤ sizeLine := fun r => by rw [sl7]; simp; omega
      have tk : ∀ row : Row, (p ++ [row]).take b = before.take b := fun row => by rw [List.take_append_of_le_length (by omega)]; exact ht
      -- a new row
      have new : ∀ (ds5 : List Int) (cv : MV), ∃ (row : Row) (ds6 : List Int), rowFits menus s[k] row ∧ compLoop (fun _ => True) (.name 9) mYes (mCall 2 m__law_pick (mCons (mVar 0) (mCons (mOp fIx (mVar 2) (mVar 9)) mNil)))
          [some (.ref 0), some (.tup (s.map fun l => .tup (encN l))), some (.lst (menus.map MV.lst)), some (.tup (before.map MV.tup)), some (.int (dep : Int)), some (.int (b : Int)), some (.tup (p.map MV.tup)), some (.int (k : Int)), some cv, none] (encN s[k]) [] (D ds5 :: hs) = .ok row (D ds6 :: hs) := fun ds5 cv =>
        law_row M hcm _ ds5 hs _ 9 fun c m ds hm => by
          have wm : (menus.map MV.lst)[c]? = some (.lst m) := by simp [hm]
          simp only [EV, wm]
      rcases Nat.lt_or_ge k before.length with q | q
      · have wb : ((before.map MV.tup).drop k).take 1 = [.tup before[k]] := by
          rw [← List.map_drop, List.drop_eq_getElem_cons q]; rfl
        have gb : gd 64 (.tup [.tup before[k]]) := gd_tup (by simp) fun x hx => by
          simp only [List.mem_singleton] at hx; subst hx; exact gd_mono (by omega) (hbg _ (List.getElem_mem q))
        obtain ⟨v2, ds5, hv2, e5⟩ := law_draw_ok ds' hs 2 (by omega)
        by_cases c : (v2 : Int) = 0
        · obtain ⟨row, ds6, hr, e6⟩ := new ds5 (.tup [.tup before[k]])
          simp only [EV, k1, k2, wb, fEq_f gb g0 (by simp), e5, c, wS, e6, fAdd_t (qp (.tup row))]
          exact ⟨p ++ [row], ds6, _, _, by simp [hp], tk row, pathFits_snoc hf (by rw [hp]; exact List.getElem?_eq_getElem hks) hr, rfl, by rw [List.map_append]; rfl⟩
        · simp only [EV, k1, k2, wb, fEq_f gb g0 (by simp), e5, c, fAdd_t (qp (.tup before[k]))]
          obtain ⟨cols, hc1, hc2⟩ := hb k before[k] (List.getElem?_eq_getElem q)
          exact ⟨p ++ [before[k]], ds5, _, _, by simp [hp], tk _, pathFits_snoc hf (by rw [hp]; exact hc1) hc2, rfl, by rw [List.map_append]; rfl⟩
      · have wb : ((before.map MV.tup).drop k).take 1 = [] := by
          rw [List.drop_of_length_le (by simpa using q)]; rfl
        obtain ⟨row, ds6, hr, e6⟩ := new ds' (.tup [])
        simp only [EV, k1, k2, wb, fEq_t g0 g0 rfl, wS, e6, fAdd_t (qp (.tup row))]
        exact ⟨p ++ [row], ds6, _, _, by simp [hp], tk row, pathFits_snoc hf (by rw [hp]; exact List.getElem?_eq_getElem hks) hr, rfl, by rw [List.map_append]; rfl⟩)
    simp only [EV]
    refine ⟨b, p, ds', by omega, fun e => ?_, fun e => ?_, ht, hf, rfl⟩
    · subst e; simp at h3; omega
    · have := List.length_pos_iff.mpr e; omega
  obtain ⟨b, p, ds', h1, h2, h3, h4, h5, m1⟩ := main
  obtain ⟨hpl, hpg⟩ := M.path h5
  exact ⟨b, p, ds', h1, h2, h3, h4, h5, cf_okD0 m1 (Rv.gdn (by omega) (gd_encL (n := 4) (by simp only; omega) hpg))⟩
end PM
end

section
set_option Elab.async false
set_option linter.all false
set_option maxRecDepth 100000
set_option maxHeartbeats 4000000
namespace PM
open PySem L2 Mini
/-! ### outlines, one leaf behind the other -/
def lastQ : Option (List Row) → List Lf → Option (List Row)
  | q, [] => q
  | _, x :: o => lastQ (some x.2) o
theorem okO_app : ∀ (o1 o2 : List Lf) (q : Option (List Row)), okO q (o1 ++ o2) ↔ okO q o1 ∧ okO (lastQ q o1) o2
  | [], o2, q => by simp [okO, lastQ]
  | x :: o1, o2, none => by simp only [List.cons_append, okO, lastQ, okO_app o1 o2, and_assoc]
  | x :: o1, o2, some q => by simp only [List.cons_append, okO, lastQ, okO_app o1 o2, and_assoc]
theorem lastQ_snoc : ∀ (o : List Lf) (x : Lf) (q : Option (List Row)), lastQ q (o ++ [x]) = some x.2
  | [], x, q => rfl
  | y :: o, x, q => lastQ_snoc o x _
/-- the path ahead of the next leaf, () at first -/
def lastP (o : List Lf) : List Row := (lastQ none o).getD []
theorem lastP_nil : lastP [] = [] := rfl
theorem lastP_snoc {o : List Lf} {x : Lf} : lastP (o ++ [x]) = x.2 := by simp [lastP, lastQ_snoc]
theorem okO_snoc {o : List Lf} {x : Lf} (ok : okO none o) (h0 : x.1 < x.2.length) (h1 : lastP o = [] → x.1 = 0) (h2 : lastP o ≠ [] → x.1 < (lastP o).length) (h3 : x.2.take x.1 = (lastP o).take x.1) : okO none (o ++ [x]) := by
  rw [okO_app]
  refine ⟨ok, ?_⟩
  have ne : x.2 ≠ [] := fun e => by rw [e] at h0; simp at h0
  rcases last_cases' o with rfl | ⟨o', y, rfl⟩
  · exact ⟨ne, h1 rfl, trivial⟩
  · rw [lastQ_snoc]
    rw [lastP_snoc] at h1 h2 h3
    have yne : y.2 ≠ [] := by
      have := (okO_app o' [y] none).mp ok
      have := this.2
      cases e : lastQ none o' with
      | none => rw [e] at this; exact this.1
      | some q => rw [e] at this; exact this.1
    exact ⟨ne, h2 yne, h0, h3, trivial⟩
where last_cases' (o : List Lf) : o = [] ∨ ∃ o' y, o = o' ++ [y] := by
        rcases List.eq_nil_or_concat o with h | ⟨ys, y, h⟩
        · exact .inl h
        · exact .inr ⟨ys, y, by simpa using h⟩
theorem fitsLast {s menus} {o : List Lf} (h : ∀ x ∈ o, pathFits s menus x.2) : pathFits s menus (lastP o) := by
  rcases okO_snoc.last_cases' o with rfl | ⟨o', y, rfl⟩
  · intro i row e; simp [lastP_nil] at e
  · rw [lastP_snoc]; exact h y (by simp)
theorem Mn.gdL {count s menus} (M : Mn count s menus) {x : Lf} (h : pathFits s menus x.2) : gd 6 (encL x) := by
  obtain ⟨h1, h2⟩ := M.path h
  have := M.sh.len
  have := M.c2
  exact gd_encL (n := 4) (by omega) h2
theorem law_leafs_ok {count s menus} (M : Mn count s menus) (ds : List Int) (hs : MH) (most : Nat) (hm : most ≤ 100) :
    ∃ (o : List Lf) (ds' : List Int), okO none o ∧ o.length ≤ most ∧ (∀ x ∈ o, pathFits s menus x.2) ∧ m__law_leafs [.ref 0, encS s, .lst (menus.map MV.lst), .int (most : Int)] (D ds :: hs) = .ok (.lst (o.map encL)) (D ds' :: hs) := by
  obtain ⟨d, ds1, h1, e1⟩ := law_draw_ok ds (hs ++ [.lst []]) ((most : Int) + 1) (by omega)
  have hm' : (0 : Int) < (most : Int) + 1 := by omega
  have q1 : (2 + (d : Int)) % ((most : Int) + 1) = (((2 + d) % (most + 1) : Nat) : Int) := by push_cast; rfl
  have hlt := Nat.mod_lt (2 + d) (show 0 < most + 1 by omega)
  have main : ∃ (o : List Lf) (ds' : List Int), okO none o ∧ o.length ≤ most ∧ (∀ x ∈ o, pathFits s menus x.2) ∧ mDef 8 4 b__law_leafs [.ref 0, encS s, .lst (menus.map MV.lst), .int (most : Int)] (D ds :: hs) = .ok (.ref (hs.length + 1)) (D ds' :: (hs ++ [.lst (o.map encL)])) := by
    generalize (2 + d) % (most + 1) = n at *
    have r0 : -(2 ^ 62) ≤ (n : Int) ∧ (n : Int) < 2 ^ 62 := ⟨by omega, by omega⟩
    simp only [b__law_leafs, EV, e1, fMod_e hm', q1, rng1_e r0, Int.toNat_natCast]
    generalize hL : forLoop _ _ _ _ _ _ = o1
    obtain ⟨ρ', h', rfl, o, ds', c6, c7, ok, hl, hf, rfl, rfl⟩ := for_rng (fun k ρ h' => ∃ (o : List Lf) (ds' : List Int) (c6 c7 : Option MV), okO none o ∧ o.length = k ∧ (∀ x ∈ o, pathFits s menus x.2) ∧ h' = D ds' :: (hs ++ [.lst (o.map encL)]) ∧
      ρ = [some (.ref 0), some (encS s), some (.lst (menus.map MV.lst)), some (.int (most : Int)), some (.ref (hs.length + 1)), some (encP (lastP o)), c6, c7]) hL ⟨[], ds1, none, none, trivial, rfl, by simp, rfl, rfl⟩ (fun _ _ _ _ => trivial) (by
      rintro k ρ h' hk ⟨o, ds', c6, c7, ok, hl, hf, rfl, rfl⟩
      obtain ⟨b, p, ds2, h1, h2, h3, h4, h5, e⟩ := law_leaf_ok M ds' (hs ++ [.lst (o.map encL)]) (fitsLast hf)
      have ql : (o.map encL).length < sizeLine := by rw [sl7]; simp; omega
      have w1 : ∀ h, fIx (encL (b, p)) (.int 1) h = .ok (encP p) h := fun h => by simp only [encL, EV]
      simp only [EV, e, appK_e ql, w1]
      refine ⟨o ++ [(b, p)], ds2, _, _, okO_snoc ok h1 h2 h3 h4, by simp [hl], fun x hx => ?_, by simp, by rw [lastP_snoc]⟩
      rcases List.mem_append.mp hx with q | q
      · exact hf x q
      · simp only [List.mem_singleton] at q; subst q; exact h5)
    simp only [EV]
    exact ⟨o, ds', ok, by omega, hf, rfl⟩
  obtain ⟨o, ds', ok, hl, hf, m1⟩ := main
  exact ⟨o, ds', ok, hl, hf, cf_refD (k := 0) (l := [.lst (o.map encL)]) m1 rfl (F_gd (n := 6) (by omega) fun x hx => by
    obtain ⟨y, hy, rfl⟩ := List.mem_map.mp hx; exact M.gdL (hf y hy)) (by simp; omega)⟩
theorem law_mended_ok {count s menus} (M : Mn count s menus) {b : Nat} {p before : List Row} (hp : pathFits s menus p) (hb : pathFits s menus before) (hne : p ≠ []) (h : MH) :
    ∃ b', b' ≤ b ∧ b' < p.length ∧ (before = [] → b' = 0) ∧ (before ≠ [] → b' < before.length) ∧ p.take b' = before.take b' ∧ m__law_mended [encL (b, p), encP before] h = .ok (encL (b', p)) h := by
  obtain ⟨l1, g1⟩ := M.path hp
  obtain ⟨l2, g2⟩ := M.path hb
  have hs60 : s.length ≤ 60 := by have := M.sh.len; have := M.c2; omega
  have hpl := List.length_pos_iff.mpr hne
  have r0 : -(2 ^ 62) ≤ min ((p.map MV.tup).length : Int) ((before.map MV.tup).length : Int) - 1 ∧ min ((p.map MV.tup).length : Int) ((before.map MV.tup).length : Int) - 1 < 2 ^ 62 := by simp only [List.length_map]; exact ⟨by omega, by omega⟩
  have n0 : (min ((p.map MV.tup).length : Int) ((before.map MV.tup).length : Int) - 1).toNat = min p.length before.length - 1 := by simp only [List.length_map]; omega
  have main : ∃ sh, sh ≤ min p.length before.length - 1 ∧ p.take sh = before.take sh ∧ mDef 6 2 b__law_mended [encL (b, p), encP before] h = .ok (encL (min sh b, p)) h := by
    simp only [b__law_mended, encL, encP, EV, rng1_e r0, n0]
    generalize hL : forLoop _ _ _ _ _ _ = o1
    obtain ⟨ρ', h', rfl, sh, c5, h1, h2, h3, rfl, rfl⟩ := for_rng (fun k ρ h' => ∃ (sh : Nat) (c5 : Option MV), sh ≤ k ∧ sh ≤ min p.length before.length - 1 ∧ p.take sh = before.take sh ∧ h' = h ∧
      ρ = [some (.tup [.int (b : Int), .tup (p.map MV.tup)]), some (.tup (before.map MV.tup)), some (.int (b : Int)), some (.tup (p.map MV.tup)), some (.int (sh : Int)), c5]) hL ⟨0, none, by omega, by omega, by simp, rfl, rfl⟩ (fun _ _ _ _ => trivial) (by
      rintro k ρ h' hk ⟨sh, c5, h1, h2, h3, rfl, rfl⟩
      have hk1 : k < p.length := by omega
      have hk2 : k < before.length := by omega
      have w1 : (p.map MV.tup)[k]? = some (.tup p[k]) := by simp [hk1]
      have w2 : (before.map MV.tup)[k]? = some (.tup before[k]) := by simp [hk2]
      have gp : gd 64 (.tup p[k]) := gd_mono (by omega) (g1 _ (List.getElem_mem hk1))
      have gb : gd 64 (.tup before[k]) := gd_mono (by omega) (g2 _ (List.getElem_mem hk2))
      have k1 : (k : Int) + 1 = ((k + 1 : Nat) : Int) := by omega
      by_cases c : (k : Int) = (sh : Int)
      · have c' : k = sh := by omega
        by_cases c2 : before[k] = p[k]
        · simp only [EV, c, w1, w2]
          subst c'
          simp only [EV, w1, w2, fEq_t gb gp (by rw [c2]), k1]
          exact ⟨k + 1, _, by omega, by omega, by rw [List.take_succ_eq_append_getElem hk1, List.take_succ_eq_append_getElem hk2, h3, c2], by trivial, rfl⟩
        · subst c'
          simp only [EV, w1, w2, fEq_f gb gp (by simpa using c2)]
          exact ⟨k, _, by omega, by omega, h3, by trivial, rfl⟩
      · simp only [EV, c]
        exact ⟨sh, _, by omega, by omega, h3, by trivial, rfl⟩)
    simp only [EV]
    refine ⟨sh, h2, h3, ?_⟩
    congr 5
    omega
  obtain ⟨sh, h1, h2, m1⟩ := main
  refine ⟨min sh b, by omega, by omega, fun e => by subst e; simp at h1; omega, fun e => ?_, ?_, cf_ok0 m1 (Rv.gdn (n := 6) (by omega) (M.gdL hp))⟩
  · have := List.length_pos_iff.mpr e; omega
  · have := congrArg (List.take (min sh b)) h2
    simpa [List.take_take] using this
end PM
end

section
set_option Elab.async false
set_option linter.all false
set_option maxRecDepth 100000
set_option maxHeartbeats 4000000
namespace PM
open PySem L2 Mini
/-! ### an edit of an outline -/
noncomputable def edIns : MS :=
    (mIte (mAnd (mTest (mOp fGt (mVar 9) (mC (.int 0)))) (mTest (mOp fEq (mCall 2 m__law_draw (mCons (mVar 0) (mCons (mC (.int 3)) mNil))) (mC (.int 0)))))
    (mSeq (mAsg (mCall 4 m__law_leaf (mCons (mVar 0) (mCons (mVar 1) (mCons (mVar 2) (mCons (mVar 11) mNil))))) (.name 12))
    (mSeq (mAsg (mOp fSub (mVar 9) (mC (.int 1))) (.name 9))
    (mSeq (mDrop (mLM fApp (mVar 8) (mCons (mVar 12) mNil)))
    (mSeq (mDrop (mLM fApp (mVar 6) (mCons (mVar 12) mNil)))
    (mAsg (mOp fIx (mVar 12) (mC (.int 1))) (.name 11))))))
    mNext)
noncomputable def edStay : MS :=
    (mSeq (mIte (mOr (mTest (mOp fNe (mVar 7) (mLst mNil))) (mTest (mOp fNe (mVar 8) (mLst mNil))))
    (mDrop (mLM fApp (mVar 5) (mCons (mTup (mCons (mOp fSub (mVar 10) (mCB fLen (mCons (mVar 7) mNil))) (mCons (mCB fTuple (mCons (mVar 7) mNil)) (mCons (mCB fTuple (mCons (mVar 8) mNil)) mNil)))) mNil)))
    mNext)
    (mSeq (mAsg (mCell mNil) (.name 7))
    (mSeq (mAsg (mCell mNil) (.name 8))
    (mDrop (mLM fApp (mVar 6) (mCons (mVar 12) mNil))))))
noncomputable def edGo : MS :=
    (mSeq (mDrop (mLM fApp (mVar 7) (mCons (mOp fIx (mVar 3) (mVar 10)) mNil)))
    (mIte (mTest (mOp fLt (mVar 13) (mC (.int 3))))
    (mSeq (mDrop (mLM fApp (mVar 8) (mCons (mVar 12) mNil)))
    (mDrop (mLM fApp (mVar 6) (mCons (mVar 12) mNil))))
    mNext))
noncomputable def edMid : MS :=
    (mIte (mTest (mOp fLt (mVar 10) (mCB fLen (mCons (mVar 3) mNil))))
    (mSeq (mAsg (mCall 2 m__law_mended (mCons (mOp fIx (mVar 3) (mVar 10)) (mCons (mVar 11) mNil))) (.name 12))
    (mSeq (mAsg (mCall 2 m__law_draw (mCons (mVar 0) (mCons (mC (.int 4)) mNil))) (.name 13))
    (mIte (mAnd (mTest (mOp fLt (mVar 13) (mC (.int 3)))) (mTest (mOp fEq (mVar 12) (mOp fIx (mVar 3) (mVar 10)))))
    edStay edGo)))
    mNext)
noncomputable def edEnd : MS :=
    (mIte (mOr (mTest (mOp fNe (mVar 7) (mLst mNil))) (mTest (mOp fNe (mVar 8) (mLst mNil))))
    (mDrop (mLM fApp (mVar 5) (mCons (mTup (mCons (mOp fSub (mCB fLen (mCons (mVar 3) mNil)) (mCB fLen (mCons (mVar 7) mNil))) (mCons (mCB fTuple (mCons (mVar 7) mNil)) (mCons (mCB fTuple (mCons (mVar 8) mNil)) mNil)))) mNil)))
    mNext)
noncomputable def edBef : MS := (mAsg (mIf (mTest (mOp fEq (mVar 6) (mLst mNil))) (mTup mNil) (mOp fIx (mOp fIx (mVar 6) (mOp fSub (mCB fLen (mCons (mVar 6) mNil)) (mC (.int 1)))) (mC (.int 1)))) (.name 11))
theorem ed_eq : b__law_edited =
    (mSeq (mAsg (mCell mNil) (.name 5))
    (mSeq (mAsg (mCell mNil) (.name 6))
    (mSeq (mAsg (mCell mNil) (.name 7))
    (mSeq (mAsg (mCell mNil) (.name 8))
    (mSeq (mAsg (mVar 4) (.name 9))
    (mSeq (mFor (mRng1 (mCons (mOp fAdd (mCB fLen (mCons (mVar 3) mNil)) (mC (.int 1))) mNil)) (.name 10)
    (mSeq edBef (mSeq edIns edMid)))
    (mSeq edEnd
    (mRet (mTup (mCons (mCB fTuple (mCons (mVar 5) mNil)) (mCons (mVar 6) mNil))))))))))) := rfl
structure ES (s : Shape) (menus : List (List MV)) (o : List Lf) (most : Nat) (hs X : MH) (k r : Nat) (new : List Lf) (al : Al) (kp t p : List MV) (ti pi : Nat) : Prop where
  pre : ∃ l, X = hs ++ l
  hh : X[hs.length]? = some (.lst ((hkOf 0 al).map encH))
  hn : X[hs.length + 1]? = some (.lst (new.map encL))
  ht : X[ti]? = some (.lst t)
  hp : X[pi]? = some (.lst p)
  lt : hs.length + 1 < ti ∧ ti < pi ∧ pi < X.length
  sr : src (al ++ [(kp, t, p)]) ((o.drop k).map encL) = o.map encL
  dr : dst (al ++ [(kp, t, p)]) [] = new.map encL
  kl : k ≤ o.length
  ap : apt al
  kn : al ≠ [] → 0 < kp.length
  ok : okO none new
  fit : ∀ x ∈ new, pathFits s menus x.2
  cnt : new.length + r ≤ k + most
theorem apt_snoc : ∀ {al : Al} {kp t p : List MV}, apt al → (al ≠ [] → 0 < kp.length) → 0 < t.length + p.length → apt (al ++ [(kp, t, p)])
  | [], kp, t, p, _, _, h => ⟨h, by simp, trivial⟩
  | (k', t', p') :: al, kp, t, p, a, b, h => ⟨a.1, fun x hx => by
      rcases List.mem_append.mp hx with q | q
      · exact a.2.1 x q
      · simp only [List.mem_singleton] at q; subst q; exact b (by simp), apt_snoc a.2.2 (fun _ => b (by simp)) h⟩
section
variable {s : Shape} {menus : List (List MV)} {o : List Lf} {most : Nat} {hs X : MH} {k r : Nat} {new : List Lf} {al : Al} {kp t p : List MV} {ti pi : Nat}
theorem ES.sizes (E : ES s menus o most hs X k r new al kp t p ti pi) : (src al []).length + kp.length + t.length = k ∧ (dst al []).length + kp.length + p.length = new.length := by
  have e1 := congrArg List.length E.sr
  have e2 := congrArg List.length E.dr
  have := E.kl
  rw [src_app, src_tl] at e1
  rw [dst_app, dst_tl] at e2
  simp only [src, dst, List.length_append, List.length_map, List.length_drop, List.length_nil] at e1 e2
  omega
theorem ES.ins (E : ES s menus o most hs X k r new al kp t p ti pi) {x : Lf} (hr : 0 < r) (ok : okO none (new ++ [x])) (hf : pathFits s menus x.2) :
    ES s menus o most hs (List.set (List.set X pi (MO.lst (p ++ [encL x]))) (hs.length + 1) (MO.lst (new.map encL ++ [encL x]))) k (r - 1) (new ++ [x]) al kp t (p ++ [encL x]) ti pi := by
  obtain ⟨l1, l2, l3⟩ := E.lt
  refine ⟨pre_set (pre_set E.pre (by omega)) (by omega), ?_, ?_, ?_, ?_, by simp; omega, ?_, ?_, E.kl, E.ap, E.kn, ok, ?_, ?_⟩
  · rw [List.getElem?_set_ne (by omega), List.getElem?_set_ne (by omega)]; exact E.hh
  · rw [List.getElem?_set_self (by simp; omega)]; simp
  · rw [List.getElem?_set_ne (by omega), List.getElem?_set_ne (by omega)]; exact E.ht
  · rw [List.getElem?_set_ne (by omega), List.getElem?_set_self (by omega)]
  · have := E.sr
    rw [src_app] at this ⊢
    exact this
  · have := E.dr
    rw [dst_app, dst_tl] at this
    rw [dst_app, dst_tl, List.map_append, ← this]
    simp [dst]
  · intro y hy
    rcases List.mem_append.mp hy with q | q
    · exact E.fit y q
    · simp only [List.mem_singleton] at q; subst q; exact hf
  · have := E.cnt; simp; omega
theorem dropmap {k : Nat} (hk : k < o.length) : (o.drop k).map encL = encL o[k] :: (o.drop (k + 1)).map encL := by
  rw [List.drop_eq_getElem_cons hk, List.map_cons]
/-- a leaf is taken out -/
theorem ES.drop (E : ES s menus o most hs X k r new al kp t p ti pi) (hk : k < o.length) :
    ES s menus o most hs (List.set X ti (MO.lst (t ++ [encL o[k]]))) (k + 1) r new al kp (t ++ [encL o[k]]) p ti pi := by
  obtain ⟨l1, l2, l3⟩ := E.lt
  refine ⟨pre_set E.pre (by omega), ?_, ?_, ?_, ?_, by simp; omega, ?_, ?_, by omega, E.ap, E.kn, E.ok, E.fit, by have := E.cnt; omega⟩
  · rw [List.getElem?_set_ne (by omega)]; exact E.hh
  · rw [List.getElem?_set_ne (by omega)]; exact E.hn
  · rw [List.getElem?_set_self (by omega)]
  · rw [List.getElem?_set_ne (by omega)]; exact E.hp
  · have := E.sr
    rw [src_app, dropmap hk] at this
    rw [src_app, ← this]
    congr 1
    simp [src]
  · have := E.dr
    rw [dst_app] at this ⊢
    exact this
/-- a leaf is put in behind a taken one -/
theorem ES.put (E : ES s menus o most hs X k r new al kp t p ti pi) {x : Lf} (ok : okO none (new ++ [x])) (hf : pathFits s menus x.2) (hc : new.length + 1 + r ≤ k + most) :
    ES s menus o most hs (List.set (List.set X pi (MO.lst (p ++ [encL x]))) (hs.length + 1) (MO.lst (new.map encL ++ [encL x]))) k r (new ++ [x]) al kp t (p ++ [encL x]) ti pi := by
  obtain ⟨l1, l2, l3⟩ := E.lt
  refine ⟨pre_set (pre_set E.pre (by omega)) (by omega), ?_, ?_, ?_, ?_, by simp; omega, ?_, ?_, E.kl, E.ap, E.kn, ok, ?_, ?_⟩
  · rw [List.getElem?_set_ne (by omega), List.getElem?_set_ne (by omega)]; exact E.hh
  · rw [List.getElem?_set_self (by simp; omega)]; simp
  · rw [List.getElem?_set_ne (by omega), List.getElem?_set_ne (by omega)]; exact E.ht
  · rw [List.getElem?_set_ne (by omega), List.getElem?_set_self (by omega)]
  · have := E.sr
    rw [src_app] at this ⊢
    exact this
  · have := E.dr
    rw [dst_app, dst_tl] at this
    rw [dst_app, dst_tl, List.map_append, ← this]
    simp [dst]
  · intro y hy
    rcases List.mem_append.mp hy with q | q
    · exact E.fit y q
    · simp only [List.mem_singleton] at q; subst q; exact hf
  · simp; omega
/-- a leaf stays, nothing is open -/
theorem ES.stay1 (E : ES s menus o most hs X k r new al kp [] [] ti pi) (hk : k < o.length) (ok : okO none (new ++ [o[k]])) (hf : pathFits s menus o[k].2) :
    ES s menus o most hs (List.set (X ++ [MO.lst [], MO.lst []]) (hs.length + 1) (MO.lst (new.map encL ++ [encL o[k]]))) (k + 1) r (new ++ [o[k]]) al (kp ++ [encL o[k]]) [] [] X.length (X.length + 1) := by
  obtain ⟨l1, l2, l3⟩ := E.lt
  refine ⟨?_, ?_, ?_, ?_, ?_, by simp; omega, ?_, ?_, by omega, E.ap, fun h => by simp, ok, ?_, ?_⟩
  · obtain ⟨l, rfl⟩ := E.pre
    exact pre_set ⟨l ++ [MO.lst [], MO.lst []], by simp⟩ (by omega)
  · rw [List.getElem?_set_ne (by omega), List.getElem?_append_left (by omega)]; exact E.hh
  · rw [List.getElem?_set_self (by simp; omega)]; simp
  · rw [List.getElem?_set_ne (by omega), List.getElem?_append_right (by omega)]; simp
  · rw [List.getElem?_set_ne (by omega), List.getElem?_append_right (by omega)]; simp
  · have := E.sr
    rw [src_app, dropmap hk] at this
    rw [src_app, ← this]
    congr 1
    simp [src]
  · have := E.dr
    rw [dst_app, dst_tl] at this
    rw [dst_app, dst_tl, List.map_append, ← this]
    simp [dst]
  · intro y hy
    rcases List.mem_append.mp hy with q | q
    · exact E.fit y q
    · simp only [List.mem_singleton] at q; subst q; exact hf
  · have := E.cnt; simp; omega
/-- the open hunk is told -/
theorem ES.close (E : ES s menus o most hs X k r new al kp t p ti pi) (h : 0 < t.length + p.length) :
    List.map encH (hkOf 0 al) ++ [.tup [.int ((k : Int) - (t.length : Int)), .tup t, .tup p]] = (hkOf 0 (al ++ [(kp, t, p)])).map encH ∧ apt (al ++ [(kp, t, p)]) := by
  obtain ⟨z1, z2⟩ := E.sizes
  refine ⟨?_, apt_snoc E.ap E.kn h⟩
  rw [hk_app, List.map_append]
  congr 1
  simp only [hkOf, List.map_cons, List.map_nil, encH, Nat.zero_add]
  congr 4
  omega
/-- a leaf stays behind an open hunk -/
theorem ES.stay2 (E : ES s menus o most hs X k r new al kp t p ti pi) (hk : k < o.length) (h : 0 < t.length + p.length) (ok : okO none (new ++ [o[k]])) (hf : pathFits s menus o[k].2) :
    ES s menus o most hs (List.set (List.set X hs.length (MO.lst (List.map encH (hkOf 0 al) ++ [.tup [.int ((k : Int) - (t.length : Int)), .tup t, .tup p]])) ++ [MO.lst [], MO.lst []]) (hs.length + 1) (MO.lst (new.map encL ++ [encL o[k]]))) (k + 1) r (new ++ [o[k]]) (al ++ [(kp, t, p)]) [encL o[k]] [] [] X.length (X.length + 1) := by
  obtain ⟨l1, l2, l3⟩ := E.lt
  obtain ⟨c1, c2⟩ := E.close h
  refine ⟨?_, ?_, ?_, ?_, ?_, by simp; omega, ?_, ?_, by omega, c2, fun h => by simp, ok, ?_, ?_⟩
  · obtain ⟨l, hl⟩ := pre_set (i := hs.length) (o := MO.lst (List.map encH (hkOf 0 al) ++ [.tup [.int ((k : Int) - (t.length : Int)), .tup t, .tup p]])) E.pre (Nat.le_refl _)
    exact pre_set ⟨l ++ [MO.lst [], MO.lst []], by rw [hl]; simp⟩ (by omega)
  · rw [List.getElem?_set_ne (by omega), List.getElem?_append_left (by simp; omega), List.getElem?_set_self (by omega), c1]
  · rw [List.getElem?_set_self (by simp; omega)]; simp
  · rw [List.getElem?_set_ne (by omega), List.getElem?_append_right (by simp)]; simp
  · rw [List.getElem?_set_ne (by omega), List.getElem?_append_right (by simp)]; simp
  · have := E.sr
    rw [src_app, dropmap hk] at this
    rw [src_app, src_app, ← this]
    rfl
  · have := E.dr
    rw [dst_app] at this
    rw [dst_app, dst_app, List.map_append, ← this, dst_tl al, dst_tl al (dst [(kp, t, p)] [])]
    simp [dst]
  · intro y hy
    rcases List.mem_append.mp hy with q | q
    · exact E.fit y q
    · simp only [List.mem_singleton] at q; subst q; exact hf
  · have := E.cnt; simp; omega
end
end PM
end

section
set_option Elab.async false
set_option linter.all false
set_option maxRecDepth 100000
set_option maxHeartbeats 4000000
namespace PM
open PySem L2 Mini
def edEnv (s : Shape) (menus : List (List MV)) (o : List Lf) (most : Nat) (n ti pi r : Nat) (c10 c11 c12 c13 : Option MV) : En :=
  [some (.ref 0), some (encS s), some (.lst (menus.map MV.lst)), some (.lst (o.map encL)), some (.int (most : Int)), some (.ref (n + 1)), some (.ref (n + 1 + 1)), some (.ref (ti + 1)), some (.ref (pi + 1)), some (.int (r : Int)), c10, c11, c12, c13]
section
variable {count : Nat} {s : Shape} {menus : List (List MV)} {o : List Lf} {most : Nat} {hs X : MH} {k r : Nat} {new : List Lf} {al : Al} {kp t p : List MV} {ti pi : Nat}
theorem g64L (M : Mn count s menus) {l : List Lf} (hf : ∀ x ∈ l, pathFits s menus x.2) (hl : l.length ≤ 900) : gd 64 (.lst (l.map encL)) := gd_lst (by simp; omega) fun x hx => by
  obtain ⟨y, hy, rfl⟩ := List.mem_map.mp hx; exact gd_mono (by omega) (M.gdL (hf y hy))
theorem g640 : gd 64 (.lst []) := gd_lst (by simp) (by simp)
theorem ed_bef (M : Mn count s menus) (E : ES s menus o most hs X k r new al kp t p ti pi) (ds : List Int) (hl : new.length ≤ 900) (c10 c11 c12 c13) :
    edBef (edEnv s menus o most hs.length ti pi r c10 c11 c12 c13) (D ds :: X) = .nx (edEnv s menus o most hs.length ti pi r c10 (some (encP (lastP new))) c12 c13) (D ds :: X) := by
  have hn := E.hn
  have w : (D ds :: X)[hs.length + 1 + 1]? = some (.lst (new.map encL)) := hn
  have g := g64L M E.fit hl
  rcases okO_snoc.last_cases' new with rfl | ⟨n', x, rfl⟩
  · simp only [edBef, edEnv, EV, fEq_r1 w, List.map_nil, fEq_t g640 g640 rfl]
    rfl
  · have w1 : ((((n' ++ [x]).map encL).length : Nat) : Int) - 1 = ((n'.length : Nat) : Int) := by simp
    have w2 : ((n' ++ [x]).map encL)[n'.length]? = some (encL x) := by simp
    have w3 : ∀ h, fIx (encL x) (.int 1) h = .ok (encP x.2) h := fun h => by simp only [encL, EV]
    simp only [edBef, edEnv, EV, fEq_r1 w, fEq_f g g640 (by simp), hn, w1, w2, w3, lastP_snoc]
theorem ed_ins (M : Mn count s menus) (E : ES s menus o most hs X k r new al kp t p ti pi) (ds : List Int) (hl : new.length ≤ 800) (c10 c12 c13) (hlp : p.length ≤ 1000) :
    ∃ ds' X' r' new' p' c12', ES s menus o most hs X' k r' new' al kp t p' ti pi ∧ new'.length ≤ new.length + 1 ∧ p'.length ≤ p.length + 1 ∧ edIns (edEnv s menus o most hs.length ti pi r c10 (some (encP (lastP new))) c12 c13) (D ds :: X) = .nx (edEnv s menus o most hs.length ti pi r' c10 (some (encP (lastP new'))) c12' c13) (D ds' :: X') := by
  by_cases hr : 0 < r
  · have hr' : (0 : Int) < (r : Int) := by omega
    obtain ⟨v, ds1, h1, e1⟩ := law_draw_ok ds X 3 (by omega)
    by_cases c : (v : Int) = 0
    · obtain ⟨b, pp, ds2, b1, b2, b3, b4, b5, e2⟩ := law_leaf_ok M ds1 X (fitsLast E.fit)
      have hp := E.hp
      have hn := E.hn
      obtain ⟨l1, l2, l3⟩ := E.lt
      have hn2 : (List.set X pi (MO.lst (p ++ [encL (b, pp)])))[hs.length + 1]? = some (.lst (new.map encL)) := by rw [List.getElem?_set_ne (by omega)]; exact hn
      have q1 : p.length < sizeLine := by rw [sl7]; omega
      have q2 : (new.map encL).length < sizeLine := by rw [sl7]; simp; omega
      have k1 : (r : Int) - 1 = ((r - 1 : Nat) : Int) := by omega
      have w1 : ∀ h, fIx (encL (b, pp)) (.int 1) h = .ok (encP pp) h := fun h => by simp only [encL, EV]
      refine ⟨ds2, _, r - 1, new ++ [(b, pp)], _, some (encL (b, pp)), E.ins (x := (b, pp)) hr (okO_snoc E.ok b1 b2 b3 b4) b5, by simp, by simp, ?_⟩
      simp only [edIns, edEnv, EV, hr', e1, c, e2, k1, hp, hn2, appK_e q1, appK_e q2, w1, lastP_snoc]
    · refine ⟨ds1, X, r, new, p, c12, E, by omega, by omega, ?_⟩
      simp only [edIns, edEnv, EV, hr', e1, c]
  · have hr' : ¬ (0 : Int) < (r : Int) := by omega
    refine ⟨ds, X, r, new, p, c12, E, by omega, by omega, ?_⟩
    simp only [edIns, edEnv, EV, hr']
theorem ed_end (E : ES s menus o most hs X o.length r new al kp t p ti pi) (ds : List Int) (gt : gd 64 (.lst t)) (gp : gd 64 (.lst p)) (hal : al.length ≤ 1000) (c10 c11 c12 c13) :
    ∃ X' al' tl, (∃ l, X' = hs ++ l) ∧ X'[hs.length]? = some (.lst ((hkOf 0 al').map encH)) ∧ X'[hs.length + 1]? = some (.lst (new.map encL)) ∧ src al' tl = o.map encL ∧ dst al' tl = new.map encL ∧ apt al' ∧ al'.length ≤ al.length + 1 ∧
      edEnd (edEnv s menus o most hs.length ti pi r c10 c11 c12 c13) (D ds :: X) = .nx (edEnv s menus o most hs.length ti pi r c10 c11 c12 c13) (D ds :: X') := by
  have hh := E.hh
  have ht := E.ht
  have hp := E.hp
  have sr := E.sr
  have dr := E.dr
  rw [List.drop_length, List.map_nil] at sr
  have wt : (D ds :: X)[ti + 1]? = some (.lst t) := ht
  have wp : (D ds :: X)[pi + 1]? = some (.lst p) := hp
  have q1 : (List.map encH (hkOf 0 al)).length < sizeLine := by rw [sl7, List.length_map, len_hk]; omega
  have k1 : ((o.map encL).length : Int) = ((o.length : Nat) : Int) := by simp
  by_cases c1 : t = []
  · by_cases c2 : p = []
    · subst c1 c2
      refine ⟨X, al, kp, E.pre, hh, E.hn, ?_, ?_, E.ap, by omega, ?_⟩
      · rw [src_app] at sr; simpa [src] using sr
      · rw [dst_app] at dr; simpa [dst] using dr
      · simp only [edEnd, edEnv, EV, fNe_r1 wt, fNe_r1 wp, fNe_f g640 g640 rfl]
    · subst c1
      have pos : 0 < ([] : List MV).length + p.length := by have := List.length_pos_iff.mpr c2; simp; omega
      obtain ⟨z1, z2⟩ := E.close pos
      refine ⟨_, al ++ [(kp, [], p)], [], pre_set (i := hs.length) (o := MO.lst ((hkOf 0 (al ++ [(kp, [], p)])).map encH)) E.pre (Nat.le_refl _), ?_, ?_, sr, dr, z2, by simp, ?_⟩
      · rw [List.getElem?_set_self (List.getElem?_eq_some_iff.mp hh).1]
      · rw [List.getElem?_set_ne (by omega)]; exact E.hn
      · rw [← z1]
        simp only [edEnd, edEnv, EV, fNe_r1 wt, fNe_r1 wp, fNe_f g640 g640 rfl, fNe_t gp g640 (by simpa using c2), k1, ht, hp, hh, appK_e q1]
  · have pos : 0 < t.length + p.length := by have := List.length_pos_iff.mpr c1; omega
    obtain ⟨z1, z2⟩ := E.close pos
    refine ⟨_, al ++ [(kp, t, p)], [], pre_set (i := hs.length) (o := MO.lst ((hkOf 0 (al ++ [(kp, t, p)])).map encH)) E.pre (Nat.le_refl _), ?_, ?_, sr, dr, z2, by simp, ?_⟩
    · rw [List.getElem?_set_self (List.getElem?_eq_some_iff.mp hh).1]
    · rw [List.getElem?_set_ne (by omega)]; exact E.hn
    · rw [← z1]
      simp only [edEnd, edEnv, EV, fNe_r1 wt, fNe_t gt g640 (by simpa using c1), k1, ht, hp, hh, appK_e q1]
end
end PM
end

section
set_option Elab.async false
set_option linter.all false
set_option maxRecDepth 100000
set_option maxHeartbeats 4000000
namespace PM
open PySem L2 Mini
theorem apt_len : ∀ (al : Al), apt al → al.length ≤ (src al []).length + (dst al []).length
  | [], _ => by simp
  | (k, t, p) :: al, a => by
    have := apt_len al a.2.2
    have := a.1
    simp only [src, dst, List.length_cons, List.length_append]; omega
section
variable {count : Nat} {s : Shape} {menus : List (List MV)} {o : List Lf} {most : Nat} {hs X : MH} {k r : Nat} {new : List Lf} {al : Al} {kp t p : List MV} {ti pi : Nat}
theorem ES.mem (E : ES s menus o most hs X k r new al kp t p ti pi) : (∀ x ∈ t, x ∈ o.map encL) ∧ ∀ x ∈ p, x ∈ new.map encL := by
  have sr := E.sr
  have dr := E.dr
  rw [src_app, src_tl] at sr
  rw [dst_app, dst_tl] at dr
  exact ⟨fun x hx => by rw [← sr]; simp [src, hx], fun x hx => by rw [← dr]; simp [dst, hx]⟩
theorem ES.bnd (E : ES s menus o most hs X k r new al kp t p ti pi) : t.length ≤ k ∧ p.length ≤ new.length ∧ al.length ≤ k + new.length ∧ new.length ≤ k + most := by
  obtain ⟨z1, z2⟩ := E.sizes
  have := apt_len al E.ap
  have := E.cnt
  omega
theorem ES.gds (M : Mn count s menus) (E : ES s menus o most hs X k r new al kp t p ti pi) (fo : ∀ x ∈ o, pathFits s menus x.2) (ho : o.length ≤ 400) (hm : most ≤ 400) : gd 64 (.lst t) ∧ gd 64 (.lst p) := by
  obtain ⟨b1, b2, b3, b4⟩ := E.bnd
  obtain ⟨m1, m2⟩ := E.mem
  have := E.kl
  constructor
  · exact gd_lst (by omega) fun x hx => by
      obtain ⟨y, hy, e⟩ := List.mem_map.mp (m1 x hx)
      rw [← e]; exact gd_mono (by omega) (M.gdL (fo y hy))
  · exact gd_lst (by omega) fun x hx => by
      obtain ⟨y, hy, e⟩ := List.mem_map.mp (m2 x hx)
      rw [← e]; exact gd_mono (by omega) (M.gdL (E.fit y hy))
theorem ed_mid (M : Mn count s menus) (E : ES s menus o most hs X k r new al kp t p ti pi) (fo : ∀ x ∈ o, pathFits s menus x.2) (ne : ∀ x ∈ o, x.2 ≠ []) (ho : o.length ≤ 300) (hm : most ≤ 300) (ds : List Int) (c12 c13) :
    ∃ ds' X' r' new' al' kp' t' p' ti' pi' c12' c13', ES s menus o most hs X' (min (k + 1) o.length) r' new' al' kp' t' p' ti' pi' ∧
      edMid (edEnv s menus o most hs.length ti pi r (some (.int (k : Int))) (some (encP (lastP new))) c12 c13) (D ds :: X) = .nx (edEnv s menus o most hs.length ti' pi' r' (some (.int (k : Int))) (some (encP (lastP new))) c12' c13') (D ds' :: X') := by
  obtain ⟨b1, b2, b3, b4⟩ := E.bnd
  have kl := E.kl
  by_cases hk : k < o.length
  · have hk' : ((k : Int)) < (((o.map encL).length : Nat) : Int) := by simp; omega
    rw [Nat.min_eq_left (by omega)]
    have wo : (o.map encL)[k]? = some (encL o[k]) := by simp [hk]
    have fk := fo _ (List.getElem_mem hk)
    obtain ⟨b', d1, d2, d3, d4, d5, e1⟩ := law_mended_ok M (b := o[k].1) (p := o[k].2) (before := lastP new) fk (fitsLast E.fit) (ne _ (List.getElem_mem hk)) (D ds :: X)
    have e1' : m__law_mended [encL o[k], encP (lastP new)] (D ds :: X) = .ok (encL (b', o[k].2)) (D ds :: X) := e1
    obtain ⟨w, ds1, h1, e2⟩ := law_draw_ok ds X 4 (by omega)
    have ok' : okO none (new ++ [(b', o[k].2)]) := okO_snoc E.ok d2 d3 d4 d5
    have ge : gd 64 (encL (b', o[k].2)) := gd_mono (by omega) (M.gdL (x := (b', o[k].2)) fk)
    have go : gd 64 (encL o[k]) := gd_mono (by omega) (M.gdL fk)
    obtain ⟨l1, l2, l3⟩ := E.lt
    have ht := E.ht
    have hp := E.hp
    have hh := E.hh
    have hn := E.hn
    have q1 : t.length < sizeLine := by rw [sl7]; omega
    have q2 : p.length < sizeLine := by rw [sl7]; omega
    have q3 : (new.map encL).length < sizeLine := by rw [sl7]; simp; omega
    have q4 : (List.map encH (hkOf 0 al)).length < sizeLine := by rw [sl7, List.length_map, len_hk]; omega
    obtain ⟨gt, gp⟩ := E.gds M fo (by omega) (by omega)
    have goCase : ∀ (hne : (w : Int) < 3 → encL (b', o[k].2) ≠ encL o[k]), ∃ ds' X' r' new' al' kp' t' p' ti' pi' c12' c13', ES s menus o most hs X' (k + 1) r' new' al' kp' t' p' ti' pi' ∧
        edMid (edEnv s menus o most hs.length ti pi r (some (.int (k : Int))) (some (encP (lastP new))) c12 c13) (D ds :: X) = .nx (edEnv s menus o most hs.length ti' pi' r' (some (.int (k : Int))) (some (encP (lastP new))) c12' c13') (D ds' :: X') := fun hne => by
      have E2 := E.drop hk
      by_cases c : (w : Int) < 3
      · have hp2 : (List.set X ti (MO.lst (t ++ [encL o[k]])))[pi]? = some (.lst p) := E2.hp
        have hn2 : (List.set (List.set X ti (MO.lst (t ++ [encL o[k]]))) pi (MO.lst (p ++ [encL (b', o[k].2)])))[hs.length + 1]? = some (.lst (new.map encL)) := by
          rw [List.getElem?_set_ne (by omega)]; exact E2.hn
        have E3 := E2.put (x := (b', o[k].2)) ok' fk (by have := E.cnt; omega)
        refine ⟨ds1, _, r, _, al, kp, _, _, ti, pi, some (encL (b', o[k].2)), some (.int (w : Int)), E3, ?_⟩
        simp only [edMid, edGo, edEnv, EV, hk', wo, e1', e2, c, fEq_f ge go (hne c), ht, appK_e q1, hp2, appK_e q2, hn2, appK_e q3]
      · refine ⟨ds1, _, r, new, al, kp, _, p, ti, pi, some (encL (b', o[k].2)), some (.int (w : Int)), E2, ?_⟩
        simp only [edMid, edGo, edEnv, EV, hk', wo, e1', e2, c, ht, appK_e q1]
    by_cases c : (w : Int) < 3
    · by_cases c2 : encL (b', o[k].2) = encL o[k]
      · have c3 : (b', o[k].2) = o[k] := encL_inj c2
        rw [c3] at ok'
        have wt : (D ds1 :: X)[ti + 1]? = some (.lst t) := ht
        have wp : (D ds1 :: X)[pi + 1]? = some (.lst p) := hp
        have ll : ∀ Y : MH, (Y ++ [MO.lst []]).length = Y.length + 1 := fun Y => by simp
        by_cases c4 : 0 < t.length + p.length
        · have E2 := E.stay2 hk c4 ok' fk
          have hn2 : (List.set X hs.length (MO.lst (List.map encH (hkOf 0 al) ++ [.tup [.int ((k : Int) - (t.length : Int)), .tup t, .tup p]])) ++ [MO.lst [], MO.lst []])[hs.length + 1]? = some (.lst (new.map encL)) := by
            rw [List.getElem?_append_left (by simp; omega), List.getElem?_set_ne (by omega)]; exact hn
          refine ⟨ds1, _, r, _, _, _, [], [], X.length, X.length + 1, some (encL o[k]), some (.int (w : Int)), E2, ?_⟩
          by_cases c5 : t = []
          · have c6 : p ≠ [] := fun e => by rw [c5, e] at c4; simp at c4
            simp only [edMid, edStay, edEnv, EV, hk', wo, e1', e2, c, c2, fEq_t go go rfl, fNe_r1 wt, fNe_f gt g640 (by rw [c5]), fNe_r1 wp, fNe_t gp g640 (by simpa using c6), ht, hp, hh, appK_e q4, List.length_set, hn2, appK_e q3]
          · simp only [edMid, edStay, edEnv, EV, hk', wo, e1', e2, c, c2, fEq_t go go rfl, fNe_r1 wt, fNe_t gt g640 (by simpa using c5), ht, hp, hh, appK_e q4, List.length_set, hn2, appK_e q3]
        · have c5 : t = [] := by rw [← List.length_eq_zero_iff]; omega
          have c6 : p = [] := by rw [← List.length_eq_zero_iff]; omega
          subst c5 c6
          have E2 := E.stay1 hk ok' fk
          have hn2 : (X ++ [MO.lst [], MO.lst []])[hs.length + 1]? = some (.lst (new.map encL)) := by
            rw [List.getElem?_append_left (by omega)]; exact hn
          refine ⟨ds1, _, r, _, al, _, [], [], X.length, X.length + 1, some (encL o[k]), some (.int (w : Int)), E2, ?_⟩
          simp only [edMid, edStay, edEnv, EV, hk', wo, e1', e2, c, c2, fEq_t go go rfl, fNe_r1 wt, fNe_f g640 g640 rfl, fNe_r1 wp, hn2, appK_e q3]
      · exact goCase fun _ => c2
    · exact goCase fun q => absurd q c
  · have hk' : ¬ ((k : Int)) < (((o.map encL).length : Nat) : Int) := by simp; omega
    rw [Nat.min_eq_right (by omega)]
    obtain rfl : k = o.length := by omega
    refine ⟨ds, X, r, new, al, kp, t, p, ti, pi, c12, c13, E, ?_⟩
    simp only [edMid, edEnv, EV, hk']
end
theorem frz_t {n : Nat} {h : MH} {xs : List MV} : freeze (n + 1) h (.tup xs) = (freezeL n h xs).map fun p => (.tup p.1, p.2) := by simp only [freeze]
theorem frzL_c {n : Nat} {h : MH} {x : MV} {xs : List MV} : freezeL (n + 1) h (x :: xs) = (freeze n h x).bind fun p => (freezeL n p.2 xs).map fun q => (p.1 :: q.1, q.2) := by simp only [freezeL]
/-- a pair whose second part is a list of the def's own -/
theorem frz_pair {h1 : MH} {i : Nat} {v : MV} {xs : List MV} (hv : Fz 800000 v) (e : h1[i]? = some (.lst xs)) (hx : ∀ x ∈ xs, Fz 800000 x) (hl : xs.length ≤ 9000) : freeze 1000000 h1 (.tup [v, .ref i]) = some (.tup [v, .lst xs], h1.set i .gone) := by
  have c1 : freeze 999998 h1 v = some (v, h1) := hv _ (by omega) _
  have c2 : freeze 999997 h1 (.ref i) = some (.lst xs, h1.set i .gone) := by
    show freeze (999996 + 1) h1 (.ref i) = _
    simp only [freeze, e]
    rw [fzL hx (by omega)]; rfl
  have c3 : freezeL 999997 (h1.set i .gone) [] = some ([], h1.set i .gone) := by
    show freezeL (999996 + 1) _ _ = _
    simp only [freezeL]
  have t1 : freezeL 999998 h1 [.ref i] = some ([.lst xs], h1.set i .gone) := (frzL_c (n := 999997)).trans (by rw [c2, Option.bind_some, c3]; rfl)
  have t2 : freezeL 999999 h1 [v, .ref i] = some ([v, .lst xs], h1.set i .gone) := (frzL_c (n := 999998)).trans (by rw [c1, Option.bind_some, t1]; rfl)
  exact (frz_t (n := 999999)).trans (by rw [t2]; rfl)
theorem cf_pairD {n ar k : Nat} {body : MS} {ms : List MV} {hs l : MH} {ds ds' : List Int} {v : MV} {xs : List MV} (hb : mDef n ar body ms (D ds :: hs) = .ok (.tup [v, .ref (hs.length + 1 + k)]) (D ds' :: (hs ++ l))) (R : Rv v) (hv : Fz 800000 v) (e : l[k]? = some (.lst xs)) (F : ∀ x ∈ xs, Fz 800000 x ∧ ∀ n, x.lt n) (hl : xs.length ≤ 9000) :
    cutF (frzF (mDef n ar body)) ms (D ds :: hs) = .ok (.tup [v, .lst xs]) (D ds' :: hs) := by
  have g : (D ds' :: (hs ++ l))[hs.length + 1 + k]? = some (.lst xs) := by
    rw [show hs.length + 1 + k = (hs.length + k) + 1 by omega, gs, List.getElem?_append_right (by omega)]; simpa using e
  rw [cf hb (frz_pair hv g (fun x hx => (F x hx).1) hl)]
  · rw [show hs.length + 1 + k = (hs.length + k) + 1 by omega, ss, List.set_append_right _ _ (by omega)]; simp
  · simp only [MV.lt, MV.lts]
    exact ⟨R.lt _, lts_of fun x hx => (F x hx).2 _, trivial⟩
  · rw [show hs.length + 1 + k = (hs.length + k) + 1 by omega, ss, List.set_append_right _ _ (by omega)]; exact tidyD
end PM
end

section
set_option Elab.async false
set_option linter.all false
set_option maxRecDepth 100000
set_option maxHeartbeats 4000000
namespace PM
open PySem L2 Mini
theorem law_edited_ok {count s menus} (M : Mn count s menus) (ds : List Int) (hs : MH) (o : List Lf) (most : Nat) (ok : okO none o) (fo : ∀ x ∈ o, pathFits s menus x.2) (ho : o.length ≤ 300) (hm : most ≤ 300) :
    ∃ (al : Al) (tl : List MV) (new : List Lf) (ds' : List Int), okO none new ∧ (∀ x ∈ new, pathFits s menus x.2) ∧ new.length ≤ o.length + most ∧ src al tl = o.map encL ∧ dst al tl = new.map encL ∧ apt al ∧ al.length ≤ 1000 ∧
      m__law_edited [.ref 0, encS s, .lst (menus.map MV.lst), .lst (o.map encL), .int (most : Int)] (D ds :: hs) = .ok (.tup [.tup ((hkOf 0 al).map encH), .lst (new.map encL)]) (D ds' :: hs) := by
  have ne : ∀ x ∈ o, x.2 ≠ [] := by
    have : ∀ (o : List Lf) (q : Option (List Row)), okO q o → ∀ x ∈ o, x.2 ≠ [] := fun o => by
      induction o with
      | nil => intro _ _ x hx; simp at hx
      | cons y o ih =>
        intro q h x hx
        have h1 : y.2 ≠ [] ∧ okO (some y.2) o := by
          cases q with
          | none => exact ⟨h.1, h.2.2⟩
          | some q => exact ⟨h.1, h.2.2.2.2⟩
        rcases List.mem_cons.mp hx with rfl | hx
        · exact h1.1
        · exact ih _ h1.2 x hx
    exact this o none ok
  have r0 : -(2 ^ 62) ≤ ((o.map encL).length : Int) + 1 ∧ ((o.map encL).length : Int) + 1 < 2 ^ 62 := by simp only [List.length_map]; exact ⟨by omega, by omega⟩
  have n0 : (((o.map encL).length : Int) + 1).toNat = o.length + 1 := by simp only [List.length_map]; omega
  have main : ∃ (al : Al) (tl : List MV) (new : List Lf) (ds' : List Int) (l : MH), okO none new ∧ (∀ x ∈ new, pathFits s menus x.2) ∧ new.length ≤ o.length + most ∧ src al tl = o.map encL ∧ dst al tl = new.map encL ∧ apt al ∧ al.length ≤ 1000 ∧ l[1]? = some (.lst (new.map encL)) ∧
      mDef 14 5 b__law_edited [.ref 0, encS s, .lst (menus.map MV.lst), .lst (o.map encL), .int (most : Int)] (D ds :: hs) = .ok (.tup [.tup ((hkOf 0 al).map encH), .ref (hs.length + 1 + 1)]) (D ds' :: (hs ++ l)) := by
    rw [ed_eq]
    simp only [EV, rng1_e r0, n0]
    generalize hL : forLoop _ _ _ _ _ _ = o1
    obtain ⟨ρ', h', rfl, ds', X, r, new, al, kp, t, p, ti, pi, c10, c11, c12, c13, E, rfl, rfl⟩ := for_rng (fun k ρ h' => ∃ ds' X r new al kp t p ti pi c10 c11 c12 c13, ES s menus o most hs X (min k o.length) r new al kp t p ti pi ∧ h' = D ds' :: X ∧ ρ = edEnv s menus o most hs.length ti pi r c10 c11 c12 c13) hL
      ⟨ds, _, most, [], [], [], [], [], hs.length + 1 + 1, hs.length + 1 + 1 + 1, none, none, none, none, by
        rw [Nat.zero_min]
        exact ⟨⟨_, rfl⟩, get0, get1, get2, get3, ⟨by omega, by omega, by simp⟩, rfl, rfl, by omega, trivial, fun h => absurd rfl h, trivial, by simp, by simp⟩, rfl, rfl⟩ (fun _ _ _ _ => trivial) (by
      rintro k ρ h' hk ⟨ds', X, r, new, al, kp, t, p, ti, pi, c10, c11, c12, c13, E, rfl, rfl⟩
      rw [Nat.min_eq_left (by omega)] at E
      obtain ⟨b1, b2, b3, b4⟩ := E.bnd
      have e1 := ed_bef M E ds' (by omega) (some (.int (k : Int))) c11 c12 c13
      obtain ⟨ds2, X2, r2, new2, p2, c12', E2, i1, i2, e2⟩ := ed_ins M E ds' (by omega) (some (.int (k : Int))) c12 c13 (by omega)
      obtain ⟨ds3, X3, r3, new3, al3, kp3, t3, p3, ti3, pi3, d12, d13, E3, e3⟩ := ed_mid M E2 fo ne ho hm ds2 c12' c13
      have st : bodyAt (.name 10) (mSeq edBef (mSeq edIns edMid)) (.int (k : Int)) (edEnv s menus o most hs.length ti pi r c10 c11 c12 c13) (D ds' :: X) = .nx (edEnv s menus o most hs.length ti3 pi3 r3 (some (.int (k : Int))) (some (encP (lastP new2))) d12 d13) (D ds3 :: X3) := by
        have e0 : (Tg.name 10).set (.int (k : Int)) (edEnv s menus o most hs.length ti pi r c10 c11 c12 c13) = some (edEnv s menus o most hs.length ti pi r (some (.int (k : Int))) c11 c12 c13) := by simp only [edEnv, EV]
        simp only [EV, e0, e1, e2, e3]
      rw [st, Lp_nx]
      exact ⟨ds3, X3, r3, new3, al3, kp3, t3, p3, ti3, pi3, _, _, _, _, E3, rfl, rfl⟩)
    rw [Nat.min_eq_right (by omega)] at E
    obtain ⟨b1, b2, b3, b4⟩ := E.bnd
    obtain ⟨gt, gp⟩ := E.gds M fo (by omega) (by omega)
    obtain ⟨X2, al2, tl, ⟨l, rfl⟩, f1, f2, f3, f4, f5, f6, e4⟩ := ed_end E ds' gt gp (by omega) c10 c11 c12 c13
    have w1 : (D ds' :: (hs ++ l))[hs.length + 1]? = some (.lst ((hkOf 0 al2).map encH)) := f1
    simp only [EV, e4]
    simp only [edEnv, EV, f1]
    refine ⟨al2, tl, new, ds', l, E.ok, E.fit, by omega, f3, f4, f5, by omega, ?_, rfl⟩
    rw [List.getElem?_append_right (by omega)] at f2
    simpa using f2
  obtain ⟨al, tl, new, ds', l, h1, h2, h3, h4, h5, h6, h7, h8, m1⟩ := main
  have gd5 : ∀ x ∈ new.map encL, gd 6 x := fun x hx => by
    obtain ⟨y, hy, rfl⟩ := List.mem_map.mp hx; exact M.gdL (h2 y hy)
  have gd6 : ∀ x ∈ o.map encL, gd 6 x := fun x hx => by
    obtain ⟨y, hy, rfl⟩ := List.mem_map.mp hx; exact M.gdL (fo y hy)
  have oA : okA al := okA_of al tl (by rw [h4]; simp; omega) (by rw [h5]; simp; omega) (by rw [h4]; exact fun x hx => gd_mono (by omega) (gd6 x hx)) (by rw [h5]; exact fun x hx => gd_mono (by omega) (gd5 x hx))
  have gh := gd_hs (by rw [len_hk]; omega) (okE_hk al 0 oA)
  exact ⟨al, tl, new, ds', h1, h2, h3, h4, h5, h6, h7, cf_pairD (k := 1) m1 (Rv.gdn (by omega) gh) (fun m hm => fz_gd gh m (by omega)) h8 (F_gd (n := 6) (by omega) gd5) (by simp; omega)⟩
/-! ### hunks widened -/
theorem law_widened_ok (ds : List Int) (hs : MH) (al : Al) (tl : List MV) (a : apt al) (oA : okA al) (hl : al.length ≤ 1000) (hs1 : (src al tl).length ≤ 900) (hd1 : (dst al tl).length ≤ 900) (g1 : ∀ x ∈ src al tl, gd 30 x) (g2 : ∀ x ∈ dst al tl, gd 30 x) :
    ∃ (al' : Al) (ds' : List Int), src al' tl = src al tl ∧ dst al' tl = dst al tl ∧ apt al' ∧ al'.length = al.length ∧ m__law_widened [.ref 0, .lst (src al tl), .tup ((hkOf 0 al).map encH)] (D ds :: hs) = .ok (.tup ((hkOf 0 al').map encH)) (D ds' :: hs) := by
  have main : ∃ (al' : Al) (ds' : List Int) (l : MH), src al' tl = src al tl ∧ dst al' tl = dst al tl ∧ apt al' ∧ al'.length = al.length ∧ mDef 9 3 b__law_widened [.ref 0, .lst (src al tl), .tup ((hkOf 0 al).map encH)] (D ds :: hs) = .ok (.tup ((hkOf 0 al').map encH)) (D ds' :: (hs ++ l)) := by
    simp only [b__law_widened, EV]
    generalize hL : forLoop _ _ _ _ _ _ = o1
    obtain ⟨ρ', h', rfl, ds', n, al1, al2, c5, c6, c7, c8, e1, e2, e3, e4, e5, e6, e7, e8, rfl, rfl⟩ := for_nx encH (fun xs ρ h' => ∃ (ds' : List Int) (n : Nat) (al1 al2 : Al) (c5 c6 c7 c8 : Option MV), xs = hkOf n al2 ∧ n = (src al1 []).length ∧ src (al1 ++ al2) tl = src al tl ∧ dst (al1 ++ al2) tl = dst al tl ∧ apt (al1 ++ al2) ∧ (al1 ++ al2).length = al.length ∧ (al1 = [] ∨ al1 ≠ []) ∧ True ∧ h' = D ds' :: (hs ++ [.lst ((hkOf 0 al1).map encH)]) ∧
      ρ = [some (.ref 0), some (.lst (src al tl)), some (.tup ((hkOf 0 al).map encH)), some (.ref (hs.length + 1)), some (.int (n : Int)), c5, c6, c7, c8]) hL ⟨ds, 0, [], al, none, none, none, none, rfl, rfl, rfl, rfl, a, rfl, .inl rfl, trivial, rfl, rfl⟩ (fun _ _ _ _ => trivial) (by
      rintro x xs ρ h' ⟨ds', n, al1, al2, c5, c6, c7, c8, e1, e2, e3, e4, e5, e6, e7, e8, rfl, rfl⟩
      cases al2 with
      | nil => simp [hkOf] at e1
      | cons y al2 =>
        obtain ⟨k, t, p⟩ := y
        simp only [hkOf, List.cons.injEq] at e1
        obtain ⟨rfl, rfl⟩ := e1
        obtain ⟨v, ds2, h1, ev⟩ := law_draw_ok ds' (hs ++ [.lst ((hkOf 0 al1).map encH)]) 2 (by omega)
        have ll : al1.length < 1000 := by simp at e6; omega
        have q1 : ((hkOf 0 al1).map encH).length < sizeLine := by rw [sl7, List.length_map, len_hk]; omega
        have hk1 : ∀ k' t' p', hkOf 0 (al1 ++ [(k', t', p')]) = hkOf 0 al1 ++ [⟨((n + k'.length : Nat) : Int), t', p'⟩] := fun k' t' p' => by rw [hk_app, e2]; simp [hkOf]
        have s3 := congrArg List.length e3
        have s4 := congrArg List.length e4
        rw [src_app] at s3
        rw [dst_app] at s4
        rw [src_tl] at s3
        rw [dst_tl] at s4
        simp only [src, dst, List.length_append] at s3 s4
        have nxt : ∀ (vv : Option MV) (k' t' p' : List MV), k'.length + t'.length = k.length + t.length → src (al1 ++ ((k', t', p') :: al2)) tl = src al tl → dst (al1 ++ ((k', t', p') :: al2)) tl = dst al tl → apt (al1 ++ ((k', t', p') :: al2)) →
            (∃ (ds' : List Int) (n' : Nat) (a1 a2 : Al) (c5 c6 c7 c8 : Option MV), hkOf (n + k.length + t.length) al2 = hkOf n' a2 ∧ n' = (src a1 []).length ∧ src (a1 ++ a2) tl = src al tl ∧ dst (a1 ++ a2) tl = dst al tl ∧ apt (a1 ++ a2) ∧ (a1 ++ a2).length = al.length ∧ (a1 = [] ∨ a1 ≠ []) ∧ True ∧
              (D ds2 :: (hs ++ [MO.lst ((hkOf 0 al1).map encH ++ [.tup [.int ((n + k'.length : Nat) : Int), .tup t', .tup p']])])) = D ds' :: (hs ++ [.lst ((hkOf 0 a1).map encH)]) ∧
              ([some (.ref 0), some (.lst (src al tl)), some (.tup ((hkOf 0 al).map encH)), some (.ref (hs.length + 1)), some (.int ((n + k'.length + t'.length : Nat) : Int)), some (.int ((n + k'.length : Nat) : Int)), some (.tup t'), some (.tup p'), vv] : En) = [some (.ref 0), some (.lst (src al tl)), some (.tup ((hkOf 0 al).map encH)), some (.ref (hs.length + 1)), some (.int (n' : Int)), c5, c6, c7, c8]) := fun vv k' t' p' hlen f1 f2 f3 => by
          refine ⟨ds2, n + k'.length + t'.length, al1 ++ [(k', t', p')], al2, _, _, _, _, by rw [show n + k'.length + t'.length = n + k.length + t.length by omega], by rw [src_app, src_tl, e2]; simp [src]; omega, by simpa using f1, by simpa using f2, by simpa using f3, by simp at e6 ⊢; omega, .inr (by simp), trivial, ?_, rfl⟩
          rw [hk1]; simp [encH]
        by_cases c : (1 : Int) < ((n + k.length : Nat) : Int) - (n : Int)
        · by_cases c2 : (v : Int) = 1
          · have hk2 : 2 ≤ k.length := by omega
            rcases last_cases k with rfl | ⟨k', x, rfl⟩
            · simp at hk2
            · simp only [List.length_append, List.length_singleton] at hk2
              have z1 : ((n + (k' ++ [x]).length : Nat) : Int) - 1 = ((n + k'.length : Nat) : Int) := by simp; omega
              have wx : (src al tl)[n + k'.length]? = some x := by
                rw [← e3, src_app, src_tl, List.getElem?_append_right (by omega), ← e2, Nat.add_sub_cancel_left]
                simp [src]
              have q2 : [x].length + t.length ≤ sizeLine := by rw [sl7]; simp; omega
              have q3 : [x].length + p.length ≤ sizeLine := by rw [sl7]; simp; omega
              have z2 : ((n + k'.length : Nat) : Int) + (((x :: t).length : Nat) : Int) = ((n + k'.length + (x :: t).length : Nat) : Int) := by omega
              simp only [encH, EV, ev, c, c2, z1, wx, fAdd_t q2, fAdd_t q3, appK_e q1, z2]
              refine nxt _ k' (x :: t) (x :: p) (by simp; omega) ?_ ?_ ?_
              · rw [← e3, src_app, src_app]; simp [src]
              · rw [← e4, dst_app, dst_app]; simp [dst]
              · exact apt_swap e5 (by omega)
          · have z2 : ((n + k.length : Nat) : Int) + ((t.length : Nat) : Int) = ((n + k.length + t.length : Nat) : Int) := by omega
            simp only [encH, EV, ev, c, c2, appK_e q1, z2]
            exact nxt _ k t p rfl e3 e4 e5
        · have z2 : ((n + k.length : Nat) : Int) + ((t.length : Nat) : Int) = ((n + k.length + t.length : Nat) : Int) := by omega
          simp only [encH, EV, ev, c, appK_e q1, z2]
          exact nxt _ k t p rfl e3 e4 e5)
    have z : al2 = [] := by
      cases al2 with
      | nil => rfl
      | cons y al2 => obtain ⟨k, t, p⟩ := y; simp [hkOf] at e1
    subst z
    rw [List.append_nil] at e3 e4 e5 e6
    simp only [EV]
    exact ⟨al1, ds', _, e3, e4, e5, e6, rfl⟩
  obtain ⟨al', ds', l, f1, f2, f3, f4, m1⟩ := main
  have oA' : okA al' := okA_of al' tl (by rw [f1]; omega) (by rw [f2]; omega) (by rw [f1]; exact g1) (by rw [f2]; exact g2)
  exact ⟨al', ds', f1, f2, f3, f4, cf_okD m1 (Rv.gdn (by omega) (gd_hs (by rw [len_hk]; omega) (okE_hk al' 0 oA')))⟩
where
  apt_swap {al1 al2 : Al} {k' t p : List MV} {x : MV} (h : apt (al1 ++ ((k' ++ [x], t, p) :: al2))) (hk : 0 < k'.length) : apt (al1 ++ ((k', x :: t, x :: p) :: al2)) := by
    induction al1 with
    | nil => exact ⟨by simp; omega, h.2.1, h.2.2⟩
    | cons y al1 ih =>
      obtain ⟨k2, t2, p2⟩ := y
      refine ⟨h.1, fun z hz => ?_, ih h.2.2⟩
      have hz' : z ∈ al1 ++ ((k', x :: t, x :: p) :: al2) := hz
      rcases List.mem_append.mp hz' with q | q
      · exact h.2.1 z (List.mem_append.mpr (.inl q))
      rcases List.mem_cons.mp q with rfl | q
      · exact hk
      · exact h.2.1 z (List.mem_append.mpr (.inr (List.mem_cons_of_mem _ q)))
end PM
end

section
set_option Elab.async false
set_option linter.all false
set_option maxRecDepth 100000
set_option maxHeartbeats 4000000
namespace PM
open PySem L2 Mini
theorem pow18 (h : MH) : fPow (.int 10) (.int 18) h = .ok (.int 1000000000000000000) h := by
  have : fPow (.int 10) (.int 18) h = .ok (.int (10 ^ (18 : Int).toNat)) h := fIC_e (⟨by omega, by omega, by decide⟩ : CPow 10 18)
  rw [this]; rfl
theorem law_draws_ok (ns : List Int) (hn : ns.length ≤ 63) : ∃ ds, m__law_draws [scriptM ns] [] = .ok (.ref 0) [D ds] := by
  have m1 : -(2 ^ 64) < (48271 : Int) ∧ (48271 : Int) < 2 ^ 64 := ⟨by omega, by omega⟩
  have m2 : -(2 ^ 64) < (69621 : Int) ∧ (69621 : Int) < 2 ^ 64 := ⟨by omega, by omega⟩
  have p1 : (0 : Int) < 1000 := by omega
  have p1' : (1000 : Int) < 1073741824 := by omega
  have p2 : (0 : Int) < 2147483647 := by omega
  have p3 : (0 : Int) < 2147483629 := by omega
  have p4 : (0 : Int) < 7 := by omega
  have p4' : (7 : Int) < 1073741824 := by omega
  have r60 : -(2 ^ 62) ≤ (60 : Int) ∧ (60 : Int) < 2 ^ 62 := ⟨by omega, by omega⟩
  have r4 : -(2 ^ 62) ≤ (4 : Int) ∧ (4 : Int) < 2 ^ 62 := ⟨by omega, by omega⟩
  have n60 : (60 : Int).toNat = 60 := rfl
  have n4 : (4 : Int).toNat = 4 := rfl
  have snoc : ∀ (ds : List Int) (x : Int), MO.lst (ds.map MV.int ++ [MV.int x]) = D (ds ++ [x]) := fun ds x => by simp [D]
  show ∃ ds, mDef 5 1 b__law_draws [scriptM ns] [] = .ok (.ref 0) [D ds]
  simp only [b__law_draws, scriptM, EV]
  generalize hL : forLoop _ _ _ _ _ _ = o1
  obtain ⟨ρ', h', rfl, ds, c2, c3, c4, hl, rfl, rfl⟩ := for_nx MV.int (fun xs ρ h' => ∃ ds c2 c3 c4, ds.length + 60 * xs.length ≤ 4000 ∧ h' = [D ds] ∧ ρ = [some (.fro (ns.map MV.int)), some (.ref 0), c2, c3, c4]) hL ⟨[], none, none, none, by simp; omega, rfl, rfl⟩ (fun _ _ _ _ => trivial) (by
    rintro c xs ρ h' ⟨ds, c2, c3, c4, hl, rfl, rfl⟩
    simp only [List.length_cons] at hl
    have q1 : (ds.map MV.int).length < sizeLine := by rw [sl7]; simp; omega
    have big : ¬ (0 ≤ c ∧ c < 1000) → ∀ (ρ : En) (h : MH), ρ[3]? = some (some (.int c)) → mTest (mChain fLe fLt (mC (.int 0)) (mVar 3) (mC (.int 1000))) ρ h = .ok false h := fun hc ρ h e => by
      by_cases c1 : 0 ≤ c
      · have c2 : ¬ c < 1000 := fun q => hc ⟨c1, q⟩
        simp only [EV, e, c1, c2]
      · simp only [EV, e, c1]
    by_cases ca : 0 ≤ c ∧ c < 1000
    · simp only [EV, ca.1, ca.2, D, appK_e q1]
      exact ⟨ds ++ [c], _, _, _, by simp; omega, by simp [D], rfl⟩
    · have bg := big ca
      by_cases cb : (1000000000000000000 : Int) ≤ c
      · have c1 : 0 ≤ c := by omega
        have c2' : ¬ c < 1000 := by omega
        simp only [EV, c1, c2', pow18, cb, rng1_e r60, n60]
        generalize hL2 : forLoop _ _ _ _ _ _ = o2
        obtain ⟨ρ', h', rfl, ds2, r, d4, hl2, rfl, rfl⟩ := for_rng (fun k ρ h' => ∃ (ds2 : List Int) (r : Int) (d4 : Option MV), ds2.length ≤ ds.length + k ∧ h' = [D ds2] ∧ ρ = [some (.fro (ns.map MV.int)), some (.ref 0), some (.int c), some (.int r), d4]) hL2 ⟨ds, c, c4, by omega, rfl, rfl⟩ (fun _ _ _ _ => trivial) (by
          rintro k ρ h' hk ⟨ds2, r, d4, hl2, rfl, rfl⟩
          have q2 : (ds2.map MV.int).length < sizeLine := by rw [sl7]; simp; omega
          by_cases cr : (0 : Int) < r
          · simp only [EV, cr, D, fMod_e p1, fDiv_e p1 p1', appK_e q2]
            exact ⟨ds2 ++ [r % 1000], r / 1000, _, by simp; omega, by simp [D], rfl⟩
          · simp only [EV, cr]
            exact ⟨ds2, r, _, by omega, rfl, rfl⟩)
        simp only [EV]
        exact ⟨ds2, _, _, _, by omega, rfl, rfl⟩
      · have fin : ∀ o3, o3 = forLoop (fun _ => True) (.name 4) (mSeq (mAsg (mOp fMod (mCB fInt (mCons (mOp fMul (mVar 3) (mC (.int 69621))) mNil)) (mC (.int 2147483629))) (.name 3))
              (mDrop (mLM fApp (mVar 1) (mCons (mOp fMod (mCB fInt (mCons (mOp fDiv (mVar 3) (mC (.int 7))) mNil)) (mC (.int 1000))) mNil)))) (rangeM 0 4) [some (.fro (ns.map MV.int)), some (.ref 0), some (.int c), some (.int (c * 48271 % 2147483647)), c4] [D ds] →
            Lp o3 (fun ρ h' => ∃ ds c2 c3 c4, ds.length + 60 * xs.length ≤ 4000 ∧ h' = [D ds] ∧ ρ = [some (.fro (ns.map MV.int)), some (.ref 0), c2, c3, c4]) (fun _ _ => False) (fun _ => False) := fun o3 hL2 => by
          obtain ⟨ρ', h', rfl, ds2, r, d4, hl2, rfl, rfl⟩ := for_rng (fun k ρ h' => ∃ (ds2 : List Int) (r : Int) (d4 : Option MV), ds2.length ≤ ds.length + k ∧ h' = [D ds2] ∧ ρ = [some (.fro (ns.map MV.int)), some (.ref 0), some (.int c), some (.int r), d4]) hL2.symm ⟨ds, _, c4, by omega, rfl, rfl⟩ (fun _ _ _ _ => trivial) (by
            rintro k ρ h' hk ⟨ds2, r, d4, hl2, rfl, rfl⟩
            have q2 : (ds2.map MV.int).length < sizeLine := by rw [sl7]; simp; omega
            simp only [EV, D, fMul_e m2, fMod_e p3, fDiv_e p4 p4', fMod_e p1, appK_e q2]
            exact ⟨ds2 ++ [r * 69621 % 2147483629 / 7 % 1000], _, _, by simp; omega, by simp [D], rfl⟩)
          simp only [EV]
          exact ⟨ds2, _, _, _, by omega, rfl, rfl⟩
        by_cases c1 : 0 ≤ c
        · have c2' : ¬ c < 1000 := fun q => ca ⟨c1, q⟩
          simp only [EV, c1, c2', pow18, cb, rng1_e r4, n4, fMul_e m1, fMod_e p2]
          exact fin _ rfl
        · simp only [EV, c1, pow18, cb, rng1_e r4, n4, fMul_e m1, fMod_e p2]
          exact fin _ rfl)
  refine ⟨ds.reverse, ?_⟩
  simp only [EV, D, List.map_reverse]
end PM
end

section
set_option Elab.async false
set_option linter.all false
set_option maxRecDepth 100000
set_option maxHeartbeats 4000000
namespace PM
open PySem L2 Mini
theorem vo_of {count s menus} (M : Mn count s menus) (hc : count ≤ 4) {o : List Lf} (ok : okO none o) (fit : ∀ x ∈ o, pathFits s menus x.2) (hl : o.length ≤ 20) : VO 4 o := by
  have hs4 : s.length ≤ 4 := Nat.le_trans M.sh.len hc
  refine ⟨⟨by omega, by omega, ?_, fun x hx => ⟨by have := (M.path (fit x hx)).1; omega, fun c hc' => gd_mono (by omega) ((M.path (fit x hx)).2 c hc')⟩⟩, ok⟩
  have : ∀ l : List Lf, (∀ x ∈ l, x.2.length ≤ 4) → nR l ≤ 4 * l.length := fun l => by
    induction l with
    | nil => intro _; simp [nR]
    | cons y l ih =>
      intro h
      have h1 := ih fun x hx => h x (by simp [hx])
      have h2 := h y (by simp)
      have : nR (y :: l) = y.2.length + nR l := by simp [nR]
      simp only [List.length_cons]; omega
  have := this o fun x hx => Nat.le_trans (M.path (fit x hx)).1 hs4
  omega
theorem narL_snoc {hs : List Hk} {x : Hk} : narL (hs ++ [x]) = narL hs ++ nrL x.pl x.taken x.put := by simp [narL]
theorem law_k65 (ns : List Int) (hn : ns.length ≤ 63) : ∃ h', m_law [scriptM ns] [] = .ok (.bl true) h' := by
  obtain ⟨ds0, e0⟩ := law_draws_ok ns hn
  obtain ⟨rs, names, ds1, okb, N, rl1, rl2, rnm, e1⟩ := law_book_ok ds0 [] 3 (by omega) (by omega)
  obtain ⟨count, ds2, c1, c2, e2⟩ := law_count_ok ds1 [] 4 (by omega)
  obtain ⟨s, ds3, sh, e3⟩ := law_shape_ok ds2 [] count c1 (by omega)
  obtain ⟨ks, ds4, kl, kk, e4⟩ := law_kinds_ok ds3 [] rs count okb (by omega) (by omega)
  have e5 := law_menus_ok (D ds4 :: []) rs ks okb (by omega) kk (by omega)
  have rne : rs ≠ [] := fun e => by rw [e] at rl1; simp at rl1
  let menus : List (List MV) := ks.map (membs rs)
  have em : (ks.map fun k => MV.lst (membs rs k)) = menus.map MV.lst := by simp [menus]
  rw [em] at e5
  have M : Mn count s menus := ⟨sh, c1, by omega, by simp [menus, kl], fun m hm => by
    obtain ⟨k, hk, rfl⟩ := List.mem_map.mp hm
    exact ⟨membs_ne okb rne (kk k hk), by have := membs_len okb k; omega, membs_gd okb k⟩⟩
  obtain ⟨o, ds5, ook, ol, ofit, e6⟩ := law_leafs_ok M ds4 [] 8 (by omega)
  obtain ⟨al, tl, new, ds6, nok, nfit, nl, sr, dr, ap, all, e7⟩ := law_edited_ok M ds5 [] o 3 ook ofit (by omega) (by omega)
  obtain ⟨o2, ds7, o2ok, o2l, o2fit, e8⟩ := law_leafs_ok M ds6 [] 8 (by omega)
  have V := vo_of M c2 ook ofit (by omega)
  have Vn := vo_of M c2 nok nfit (by omega)
  have V2 := vo_of M c2 o2ok o2fit (by omega)
  have V0 : VO 4 [] := vo_of M c2 (o := []) trivial (by simp) (by simp)
  have p1 := pair_right_ok (h := [D ds7]) V Vn
  have p2 := pair_right_ok (h := [D ds7]) V V2
  have p3 := pair_right_ok (h := [D ds7]) V V
  have p4 := pair_right_ok (h := [D ds7]) V V0
  have p5 := pair_right_ok (h := [D ds7]) V0 V2
  have hl1 := V.len
  have hl2 := Vn.len
  have oA : okA al := okA_of al tl (by rw [sr]; omega) (by rw [dr]; omega) (by rw [sr]; exact V.gd) (by rw [dr]; exact Vn.gd)
  obtain ⟨al2, ds8, sr2, dr2, ap2, al2l, e9⟩ := law_widened_ok ds7 [] al tl ap oA all (by rw [sr]; exact hl1) (by rw [dr]; exact hl2) (by rw [sr]; exact V.gd) (by rw [dr]; exact Vn.gd)
  rw [sr] at sr2
  rw [dr] at dr2
  rw [sr] at e9
  have oA2 : okA al2 := okA_of al2 tl (by rw [sr2]; omega) (by rw [dr2]; omega) (by rw [sr2]; exact V.gd) (by rw [dr2]; exact Vn.gd)
  have hkl : (hkOf 0 al2).length ≤ 1000 := by rw [len_hk]; omega
  have hkE := okE_hk al2 0 oA2
  have e10 := change_make0 (hs := hkOf 0 al2) (h := [D ds8]) (.tup ((hkOf 0 al2).map encH)) rfl (okH_hk0 ap2) hkE hkl
  -- narrowed
  have na := narA_all al2 [] tl
  have nh := narA_hk al2 [] tl 0
  simp only [List.length_nil, Nat.add_zero] at nh
  have nap : apt (narA [] al2 tl).1 := narA_apt al2 [] tl (apt_keep ap2)
  have nok' := okH_hk0 nap
  rw [nh] at nok'
  have nE := narL_okE hkE
  have nl' : (narL (hkOf 0 al2)).length ≤ 1000 := Nat.le_trans narL_len hkl
  have t1 := narrowed_ok (h := [D ds8]) hkE hkl nok'
  have t2 := narrowed_ok (h := [D ds8]) nE nl' (by rw [narL_idem]; exact nok')
  rw [narL_idem] at t2
  have s1 : m__law_same 200 [.tup ((narL (hkOf 0 al2)).map encH), .tup ((narL (hkOf 0 al2)).map encH)] [D ds8] = .ok (.bl true) [D ds8] := same_ok (gd_mono (by omega) (gd_hs nl' nE))
  have s2 : m__law_same 200 [.tup ((hkOf 0 al2).map encH), .tup ((hkOf 0 al2).map encH)] [D ds8] = .ok (.bl true) [D ds8] := same_ok (gd_mono (by omega) (gd_hs hkl hkE))
  have l2 := leads_ok (h := [D ds8]) V Vn sr2 dr2 ap2 oA2 (by omega)
  have l1 := leads_ok (h := [D ds8]) (al := (narA [] al2 tl).1) (tl := (narA [] al2 tl).2) V Vn (by rw [na.1, sr2]; rfl) (by rw [na.2, dr2]; rfl) nap (narA_okA _ _ _ oA2) (Nat.le_trans (narA_len _ _ _) (by omega))
  rw [nh] at l1
  refine ⟨[], ?_⟩
  have main : ∃ l, mDef 17 1 b_law [scriptM ns] [] = .ok (.bl true) (D ds8 :: l) := by
    have e1' : m__law_book [.ref 0, .int 3] [D ds0] = .ok (.lst (rs.map encK)) [D ds1] := e1
    have e2' : m__law_count [.ref 0, .int 4] [D ds1] = .ok (.int (count : Int)) [D ds2] := e2
    have e6' : m__law_leafs [.ref 0, encS s, .lst (menus.map MV.lst), .int 8] [D ds4] = .ok (.lst (o.map encL)) [D ds5] := e6
    have e7' : m__law_edited [.ref 0, encS s, .lst (menus.map MV.lst), .lst (o.map encL), .int 3] [D ds5] = .ok (.tup [.tup ((hkOf 0 al).map encH), .lst (new.map encL)]) [D ds6] := e7
    have e8' : m__law_leafs [.ref 0, encS s, .lst (menus.map MV.lst), .int 8] [D ds6] = .ok (.lst (o2.map encL)) [D ds7] := e8
    have p4' : m__law_pair_right [.lst (o.map encL), .lst []] [D ds7] = .ok (.bl true) [D ds7] := p4
    have p5' : m__law_pair_right [.lst [], .lst (o2.map encL)] [D ds7] = .ok (.bl true) [D ds7] := p5
    simp only [b_law, EV, e0, e1', e2', e3, e4, e5, e6', e7', e8', p1, p2, p3, p4', p5', e9, e10]
    generalize hL : forLoop _ _ _ _ _ _ = o1
    obtain ⟨ρ', h', rfl, rfl, done, c13, c14, c15, f1, rfl⟩ := for_nx encH (fun xs ρ h' => h' = [D ds8] ∧ ∃ (done : List Hk) (c13 c14 c15 : Option MV), hkOf 0 al2 = done ++ xs ∧
      ρ = [some (scriptM ns), some (.ref 0), some (.lst (rs.map encK)), some (.int (count : Int)), some (encS s), some (.lst (menus.map MV.lst)), some (.lst (o.map encL)), some (.tup ((hkOf 0 al).map encH)), some (.lst (new.map encL)), some (.lst (o2.map encL)), some (.tup ((hkOf 0 al2).map encH)), some (chg (hkOf 0 al2)), some (.tup ((narL done).map encH)), c13, c14, c15, none]) hL
      ⟨rfl, [], none, none, none, rfl, rfl⟩ (fun _ _ _ _ => trivial) (by
      rintro x xs ρ h' ⟨rfl, done, c13, c14, c15, f1, rfl⟩
      have hx := hkE x (by rw [f1]; simp)
      have n1 := law_narrow_ok (n := x.pl) (tv := .tup x.taken) (pv := .tup x.put) (h := [D ds8]) rfl rfl hx.1 hx.2.1 hx.2.2.1 hx.2.2.2
      have dl : done.length ≤ 1000 := by have := congrArg List.length f1; simp at this; omega
      have q1 : ((narL done).map encH).length + ((nrL x.pl x.taken x.put).map encH).length ≤ sizeLine := by
        have := narL_len (hs := done)
        have : (nrL x.pl x.taken x.put).length ≤ 1 := by unfold nrL; split <;> simp
        rw [sl7]; simp; omega
      simp only [encH, EV] at n1 ⊢
      simp only [EV, n1, fAdd_t q1]
      exact ⟨by trivial, done ++ [x], _, _, _, by rw [f1]; simp, by rw [narL_snoc, List.map_append]⟩)
    rw [List.append_nil] at f1
    subst f1
    simp only [EV, t1, t2, insOf_chg, fldF_0, s1, s2, l1, l2]
    exact ⟨[], rfl⟩
  obtain ⟨l, m1⟩ := main
  have r := cf m1 (Rv.bl.fz _ (by omega) _) (Rv.bl.lt _) (fun i hi => by simp at hi)
  exact r
end PM
end

section
set_option Elab.async false
set_option linter.all false
set_option maxRecDepth 100000
set_option maxHeartbeats 4000000
namespace PM
open PySem L2 Mini
/-! ### outlines that may be none -/
abbrev LfI := Int × List Row
def encI (x : LfI) : MV := .tup [.int x.1, encP x.2]
open Classical in
noncomputable def goodL : Option (List Row) → List LfI → Bool
  | _, [] => true
  | none, x :: o => if x.2 = [] ∨ x.1 < 0 then false else if 0 < x.1 then false else goodL (some x.2) o
  | some q, x :: o => if x.2 = [] ∨ x.1 < 0 then false else if min (x.2.length : Int) (q.length : Int) - 1 < x.1 then false else if x.2.take x.1.toNat = q.take x.1.toNat then goodL (some x.2) o else false
def toI (x : Lf) : LfI := ((x.1 : Int), x.2)
theorem encL_I (x : Lf) : encL x = encI (toI x) := rfl
theorem encLs_I (o : List Lf) : o.map encL = (o.map toI).map encI := by rw [List.map_map]; rfl
theorem good_ok : ∀ (o : List LfI) (q : Option (List Row)), goodL q o = true → ∃ o' : List Lf, o = o'.map toI ∧ okO q o'
  | [], _, _ => ⟨[], rfl, by simp [okO]⟩
  | x :: o, none, h => by
    simp only [goodL] at h
    split at h
    · cases h
    · rename_i c1
      split at h
      · cases h
      · rename_i c2
        obtain ⟨o', e, k⟩ := good_ok o _ h
        have e1 : (x.1.toNat : Int) = x.1 := by have := not_or.mp c1; omega
        exact ⟨(x.1.toNat, x.2) :: o', by simp only [List.map_cons, toI, e1, e], (not_or.mp c1).1, by simp only; omega, k⟩
  | x :: o, some q, h => by
    simp only [goodL] at h
    split at h
    · cases h
    · rename_i c1
      split at h
      · cases h
      · rename_i c2
        split at h
        · rename_i c3
          obtain ⟨o', e, k⟩ := good_ok o _ h
          have n1 := not_or.mp c1
          have e1 : (x.1.toNat : Int) = x.1 := by omega
          exact ⟨(x.1.toNat, x.2) :: o', by simp only [List.map_cons, toI, e1, e], n1.1, by simp only; omega, by simp only; omega, c3, k⟩
        · cases h
theorem ok_good : ∀ (o : List Lf) (q : Option (List Row)), okO q o → goodL q (o.map toI) = true
  | [], _, _ => by simp [goodL]
  | x :: o, none, h => by
    obtain ⟨h1, h2, h3⟩ := h
    have n1 : ¬ (x.2 = [] ∨ ((x.1 : Int)) < 0) := by rintro (q | q); exact h1 q; omega
    have n2 : ¬ (0 : Int) < (x.1 : Int) := by omega
    simp only [List.map_cons, goodL, toI, if_neg n1, if_neg n2]
    exact ok_good o _ h3
  | x :: o, some q, h => by
    obtain ⟨h1, h2, h3, h4, h5⟩ := h
    have n1 : ¬ (x.2 = [] ∨ ((x.1 : Int)) < 0) := by rintro (q | q); exact h1 q; omega
    have n2 : ¬ min (x.2.length : Int) (q.length : Int) - 1 < (x.1 : Int) := by omega
    simp only [List.map_cons, goodL, toI, if_neg n1, if_neg n2, Int.toNat_natCast, if_pos h4]
    exact ok_good o _ h5
/-- bounds -/
structure gI (n : Nat) (o : List LfI) : Prop where
  nle : n ≤ 65
  row : ∀ x ∈ o, x.2.length ≤ n ∧ ∀ c ∈ x.2, gd 28 (.tup c)
theorem gI.enc {n : Nat} {o : List LfI} (g : gI n o) : ∀ x ∈ o.map encI, gd 30 x := fun x hx => by
  obtain ⟨y, hy, rfl⟩ := List.mem_map.mp hx
  obtain ⟨g1, g2⟩ := g.row y hy
  have := g.nle
  refine gd_tup (by simp) fun z hz => ?_
  simp only [List.mem_cons, List.not_mem_nil, or_false] at hz
  rcases hz with rfl | rfl
  · exact gd_int
  · exact gd_encP (n := 28) (by omega) g2
theorem encP_take {p : List Row} {b : Int} (hb : 0 ≤ b) : cutM (p.map MV.tup) none (some b) = (p.take b.toNat).map MV.tup := by
  obtain ⟨n, rfl⟩ := Int.eq_ofNat_of_zero_le hb
  rw [cut_hi, List.map_take]; rfl
theorem gd_pre {n : Nat} {p : List Row} (hn : n ≤ 65) (h1 : p.length ≤ n) (h2 : ∀ c ∈ p, gd 28 (.tup c)) (k : Nat) : gd 64 (.tup ((p.take k).map MV.tup)) :=
  gd_mono (n := 29) (by omega) (gd_encP (p := p.take k) (by rw [List.length_take]; omega) fun c hc => h2 c (List.mem_of_mem_take hc))
theorem pre_inj {p q : List Row} : (MV.tup (p.map MV.tup) = MV.tup (q.map MV.tup)) ↔ p = q := ⟨fun h => encP_inj h, fun h => by rw [h]⟩
def qV (q : Option (List Row)) : MV := match q with
  | none => .non
  | some p => encP p
theorem check_outline_gen {o : List LfI} {n : Nat} {h : MH} (g : gI n o) : m_check_outline [.lst (o.map encI)] h = if goodL none o = true then .ok .non h else .er 1 h := by
  have hn := g.nle
  have main : (∃ ρ, b_check_outline [some (.lst (o.map encI)), none, none, none] h = .nx ρ h ∧ goodL none o = true) ∨ (∃ ρ, b_check_outline [some (.lst (o.map encI)), none, none, none] h = .er 1 ρ h ∧ goodL none o = false) := by
    simp only [b_check_outline, EV]
    generalize hL : forLoop _ _ _ _ _ _ = o1
    rcases for_rt encI (fun xs ρ h' => h' = h ∧ ∃ q c2 c3, goodL none o = goodL q xs ∧ (∀ p, q = some p → p ≠ [] ∧ p.length ≤ n ∧ ∀ c ∈ p, gd 28 (.tup c)) ∧ (∀ x ∈ xs, x.2.length ≤ n ∧ ∀ c ∈ x.2, gd 28 (.tup c)) ∧ ρ = [some (.lst (o.map encI)), some (qV q), c2, c3])
      (fun o1 => ∃ ρ, o1 = .er 1 ρ h ∧ goodL none o = false) hL ⟨rfl, none, none, none, rfl, by simp, g.row, rfl⟩ (fun _ _ _ _ => trivial) (by
      rintro ⟨b, p⟩ xs ρ h' ⟨rfl, q, c2, c3, e1, e2, e3, rfl⟩
      obtain ⟨g1, g2⟩ := e3 (b, p) (by simp)
      simp only at g1 g2
      have nx : ∀ x ∈ xs, x.2.length ≤ n ∧ ∀ c ∈ x.2, gd 28 (.tup c) := fun x hx => e3 x (by simp [hx])
      by_cases cp : p = []
      · subst cp
        have e4 : goodL none o = false := by rw [e1]; cases q <;> simp [goodL]
        have hl : ((([] : List Row).map MV.tup).length : Int) = 0 := rfl
        simp only [encI, encP, EV, hl]
        exact ⟨_, rfl, e4⟩
      have hl : ¬ ((p.length : Int) = 0) := by
        intro z; exact cp (List.length_eq_zero_iff.mp (by omega))
      by_cases cb : b < 0
      · have e4 : goodL none o = false := by rw [e1]; cases q <;> simp [goodL, cb]
        simp only [encI, encP, EV, List.length_map, hl, cb]
        exact ⟨_, rfl, e4⟩
      have c1 : ¬ (p = [] ∨ b < 0) := by rintro (z | z); exact cp z; exact cb z
      cases q with
      | none =>
        simp only [goodL, if_neg c1] at e1
        by_cases cb2 : 0 < b
        · simp only [if_pos cb2] at e1
          simp only [encI, encP, qV, EV, List.length_map, hl, cb, cb2]
          exact ⟨_, rfl, e1⟩
        · simp only [if_neg cb2] at e1
          simp only [encI, encP, qV, EV, List.length_map, hl, cb, cb2]
          exact ⟨by trivial, some p, _, _, e1, fun p' hp' => by cases hp'; exact ⟨cp, g1, g2⟩, nx, rfl⟩
      | some q =>
        simp only [goodL, if_neg c1] at e1
        obtain ⟨k1, k2, k3⟩ := e2 q rfl
        by_cases cb2 : min (p.length : Int) (q.length : Int) - 1 < b
        · simp only [if_pos cb2] at e1
          simp only [encI, encP, qV, EV, List.length_map, hl, cb, cb2]
          exact ⟨_, rfl, e1⟩
        · simp only [if_neg cb2] at e1
          have b0 : 0 ≤ b := by omega
          have t1 := gd_pre hn g1 g2 b.toNat
          have t2 := gd_pre hn k2 k3 b.toNat
          by_cases ct : p.take b.toNat = q.take b.toNat
          · simp only [if_pos ct] at e1
            simp only [encI, encP, qV, EV, List.length_map, hl, cb, cb2, encP_take b0, fNe_f t1 t2 (pre_inj.mpr ct)]
            exact ⟨by trivial, some p, _, _, e1, fun p' hp' => by cases hp'; exact ⟨cp, g1, g2⟩, nx, rfl⟩
          · simp only [if_neg ct] at e1
            simp only [encI, encP, qV, EV, List.length_map, hl, cb, cb2, encP_take b0, fNe_t t1 t2 (fun z => ct (pre_inj.mp z))]
            exact ⟨_, rfl, e1⟩) with ⟨ρ', h', rfl, rfl, q, c2, c3, e1, _, _, rfl⟩ | ⟨ρ', rfl, e⟩
    · exact .inl ⟨_, rfl, by rw [e1]; cases q <;> rfl⟩
    · skip
      exact .inr ⟨_, rfl, e⟩
  rcases main with ⟨ρ, m1, m2⟩ | ⟨ρ, m1, m2⟩
  · rw [if_pos m2]
    refine cf_ok0 ?_ Rv.non
    rw [mDef_1]; exact (congrArg soOut m1).trans rfl
  · rw [if_neg (by simp [m2])]
    refine cf_er0 ?_
    rw [mDef_1]; exact (congrArg soOut m1).trans rfl
theorem law_outline_good_ok {o : List LfI} {n : Nat} {h : MH} (g : gI n o) : m__law_outline_good [.lst (o.map encI)] h = .ok (.bl (goodL none o)) h := by
  have hn := g.nle
  refine cf_ok0 ?_ Rv.bl
  simp only [b__law_outline_good, EV]
  generalize hL : forLoop _ _ _ _ _ _ = o1
  rcases for_rt encI (fun xs ρ h' => h' = h ∧ ∃ q c2 c3, goodL none o = goodL q xs ∧ (∀ p, q = some p → p ≠ [] ∧ p.length ≤ n ∧ ∀ c ∈ p, gd 28 (.tup c)) ∧ (∀ x ∈ xs, x.2.length ≤ n ∧ ∀ c ∈ x.2, gd 28 (.tup c)) ∧ ρ = [some (.lst (o.map encI)), some (qV q), c2, c3])
    (fun o1 => o1 = .rt (.bl false) h ∧ goodL none o = false) hL ⟨rfl, none, none, none, rfl, by simp, g.row, rfl⟩ (fun _ _ _ _ => trivial) (by
    rintro ⟨b, p⟩ xs ρ h' ⟨rfl, q, c2, c3, e1, e2, e3, rfl⟩
    obtain ⟨g1, g2⟩ := e3 (b, p) (by simp)
    simp only at g1 g2
    have nx : ∀ x ∈ xs, x.2.length ≤ n ∧ ∀ c ∈ x.2, gd 28 (.tup c) := fun x hx => e3 x (by simp [hx])
    by_cases cp : p = []
    · subst cp
      have e4 : goodL none o = false := by rw [e1]; cases q <;> simp [goodL]
      have hl : ((([] : List Row).map MV.tup).length : Int) = 0 := rfl
      simp only [encI, encP, EV, hl]
      exact ⟨by trivial, e4⟩
    have hl : ¬ ((p.length : Int) = 0) := by
      intro z; exact cp (List.length_eq_zero_iff.mp (by omega))
    by_cases cb : b < 0
    · have e4 : goodL none o = false := by rw [e1]; cases q <;> simp [goodL, cb]
      simp only [encI, encP, EV, List.length_map, hl, cb]
      exact ⟨by trivial, e4⟩
    have c1 : ¬ (p = [] ∨ b < 0) := by rintro (z | z); exact cp z; exact cb z
    cases q with
    | none =>
      simp only [goodL, if_neg c1] at e1
      by_cases cb2 : 0 < b
      · simp only [if_pos cb2] at e1
        simp only [encI, encP, qV, EV, List.length_map, hl, cb, cb2]
        exact ⟨by trivial, e1⟩
      · simp only [if_neg cb2] at e1
        simp only [encI, encP, qV, EV, List.length_map, hl, cb, cb2]
        exact ⟨by trivial, some p, _, _, e1, fun p' hp' => by cases hp'; exact ⟨cp, g1, g2⟩, nx, rfl⟩
    | some q =>
      simp only [goodL, if_neg c1] at e1
      obtain ⟨k1, k2, k3⟩ := e2 q rfl
      by_cases cb2 : min (p.length : Int) (q.length : Int) - 1 < b
      · simp only [if_pos cb2] at e1
        have cb3 : min (q.length : Int) (p.length : Int) - 1 < b := by omega
        simp only [encI, encP, qV, EV, List.length_map, hl, cb, cb2, cb3]
        exact ⟨by trivial, e1⟩
      · simp only [if_neg cb2] at e1
        have b0 : 0 ≤ b := by omega
        have cb3 : ¬ min (q.length : Int) (p.length : Int) - 1 < b := by omega
        have t1 := gd_pre hn g1 g2 b.toNat
        have t2 := gd_pre hn k2 k3 b.toNat
        by_cases ct : p.take b.toNat = q.take b.toNat
        · simp only [if_pos ct] at e1
          simp only [encI, encP, qV, EV, List.length_map, hl, cb, cb2, cb3, encP_take b0, fNe_f t1 t2 (pre_inj.mpr ct)]
          exact ⟨by trivial, some p, _, _, e1, fun p' hp' => by cases hp'; exact ⟨cp, g1, g2⟩, nx, rfl⟩
        · simp only [if_neg ct] at e1
          simp only [encI, encP, qV, EV, List.length_map, hl, cb, cb2, cb3, encP_take b0, fNe_t t1 t2 (fun z => ct (pre_inj.mp z))]
          exact ⟨by trivial, e1⟩) with ⟨ρ', h', rfl, rfl, q, c2, c3, e1, _, _, rfl⟩ | ⟨rfl, e⟩
  · have e5 : goodL none o = true := by rw [e1]; cases q <;> rfl
    simp only [EV, e5]
  · simp only [EV, e]
end PM
end

section
set_option Elab.async false
set_option linter.all false
set_option maxRecDepth 100000
set_option maxHeartbeats 4000000
namespace PM
open PySem L2 Mini
/-! ### hunks laid onto entries -/
open Classical in
noncomputable def cutA : List MV → Nat → List Hk → Option (Al × List MV)
  | rest, _, [] => some ([], rest)
  | rest, n, k :: ks => if (k.pl - n).toNat ≤ rest.length ∧ (rest.drop (k.pl - n).toNat).take k.taken.length = k.taken then
      (cutA (rest.drop ((k.pl - n).toNat + k.taken.length)) (n + (k.pl - n).toNat + k.taken.length) ks).map fun r => ((rest.take (k.pl - n).toNat, k.taken, k.put) :: r.1, r.2)
    else none
theorem cutA_yes {rest : List MV} {n j : Nat} {k : Hk} {ks : List Hk} (hj : (k.pl - n).toNat = j) (c1 : j ≤ rest.length) (c2 : (rest.drop j).take k.taken.length = k.taken) :
    cutA rest n (k :: ks) = (cutA (rest.drop (j + k.taken.length)) (n + j + k.taken.length) ks).map fun r => ((rest.take j, k.taken, k.put) :: r.1, r.2) := by
  subst hj
  rw [cutA, if_pos ⟨c1, c2⟩]
theorem cutA_no {rest : List MV} {n j : Nat} {k : Hk} {ks : List Hk} (hj : (k.pl - n).toNat = j) (c : j ≤ rest.length → (rest.drop j).take k.taken.length ≠ k.taken) : cutA rest n (k :: ks) = none := by
  subst hj
  rw [cutA, if_neg fun q => c q.1 q.2]
theorem okH_mono : ∀ {hs : List Hk} {e e' : Int}, okH e hs → e' ≤ e → okH e' hs
  | [], _, _, _, _ => trivial
  | k :: ks, e, e', h, q => ⟨by have := h.1; omega, h.2.1, h.2.2.1, h.2.2.2⟩
theorem cutA_ok : ∀ (hs : List Hk) (rest : List MV) (n : Nat) (e : Int) (al : Al) (tl : List MV), okH e hs → (n : Int) - 1 ≤ e → cutA rest n hs = some (al, tl) → hkOf n al = hs ∧ src al tl = rest ∧ apt al ∧ (e = (n : Int) → ∀ x ∈ al.head?, 0 < x.1.length)
  | [], rest, n, e, al, tl, _, _, h => by
    simp only [cutA, Option.some.injEq, Prod.mk.injEq] at h
    obtain ⟨rfl, rfl⟩ := h
    exact ⟨rfl, rfl, trivial, by simp⟩
  | k :: ks, rest, n, e, al, tl, ⟨o1, o2, o3, o4⟩, he, h => by
    simp only [cutA] at h
    split at h
    · rename_i c
      obtain ⟨c1, c2⟩ := c
      rw [Option.map_eq_some_iff] at h
      obtain ⟨r, hr, e1⟩ := h
      obtain ⟨r1, r2⟩ := r
      simp only [Prod.mk.injEq] at e1
      obtain ⟨rfl, rfl⟩ := e1
      have hpl : k.pl = ((n + (k.pl - n).toNat : Nat) : Int) := by omega
      have hn : ((n + (k.pl - n).toNat + k.taken.length : Nat) : Int) = k.pl + k.taken.length := by omega
      obtain ⟨i1, i2, i3, i4⟩ := cutA_ok ks _ _ (k.pl + k.taken.length) r1 r2 o4 (by omega) hr
      have tl1 : (rest.take (k.pl - n).toNat).length = (k.pl - n).toNat := by rw [List.length_take]; omega
      refine ⟨?_, ?_, ?_, ?_⟩
      · simp only [hkOf, tl1]
        rw [i1]
        rw [← hpl]
      · simp only [src, i2]
        have : k.taken ++ rest.drop ((k.pl - n).toNat + k.taken.length) = rest.drop (k.pl - n).toNat := by
          rw [← List.drop_drop]
          conv => rhs; rw [← List.take_append_drop k.taken.length (rest.drop (k.pl - n).toNat), c2]
        rw [this, List.take_append_drop]
      · refine ⟨o3, fun x hx => ?_, i3⟩
        -- what stays ahead of a later hunk
        have hd := i4 (by omega)
        cases r1 with
        | nil => simp at hx
        | cons y ys =>
          rcases List.mem_cons.mp hx with rfl | hx
          · exact hd _ (by simp)
          · exact i3.2.1 x hx
      · intro hen x hx
        simp only [List.head?_cons, Option.mem_def, Option.some.injEq] at hx
        subst hx
        rw [tl1]; omega
    · cases h
def putN (hs : List Hk) : Nat := (hs.map fun k => k.put.length).sum
theorem putN_c {k : Hk} {ks : List Hk} : putN (k :: ks) = k.put.length + putN ks := by simp [putN]
theorem cutA_dst : ∀ (hs : List Hk) (rest : List MV) (n : Nat) (al : Al) (tl : List MV), cutA rest n hs = some (al, tl) → (dst al tl).length ≤ rest.length + putN hs ∧ ∀ x ∈ dst al tl, x ∈ rest ∨ ∃ k ∈ hs, x ∈ k.put
  | [], rest, n, al, tl, h => by
    simp only [cutA, Option.some.injEq, Prod.mk.injEq] at h
    obtain ⟨rfl, rfl⟩ := h
    exact ⟨by simp [dst, putN], fun x hx => .inl hx⟩
  | k :: ks, rest, n, al, tl, h => by
    simp only [cutA] at h
    split at h
    · rename_i c
      obtain ⟨c1, c2⟩ := c
      rw [Option.map_eq_some_iff] at h
      obtain ⟨⟨r1, r2⟩, hr, e1⟩ := h
      simp only [Prod.mk.injEq] at e1
      obtain ⟨rfl, rfl⟩ := e1
      obtain ⟨i1, i2⟩ := cutA_dst ks _ _ _ _ hr
      rw [List.length_drop] at i1
      refine ⟨?_, fun x hx => ?_⟩
      · simp only [dst, List.length_append, List.length_take, putN_c]; omega
      · simp only [dst, List.mem_append] at hx
        rcases hx with hx | hx | hx
        · exact .inl (List.mem_of_mem_take hx)
        · exact .inr ⟨k, by simp, hx⟩
        · rcases i2 x hx with q | ⟨k', q1, q2⟩
          · exact .inl (List.mem_of_mem_drop q)
          · exact .inr ⟨k', by simp [q1], q2⟩
    · cases h
/-- what the law's own splicing and the program's own tell -/
structure SpOk (es : List MV) (hs : List Hk) : Prop where
  ok : okH (-1) hs
  oE : ∀ k ∈ hs, okE k
  hl : hs.length ≤ 1000
  g : ∀ x ∈ es, gd 30 x
  sum : es.length + putN hs ≤ 900
theorem SpOk.dst {es : List MV} {hs : List Hk} (S : SpOk es hs) {al : Al} {tl : List MV} (e : cutA es 0 hs = some (al, tl)) : (PM.dst al tl).length ≤ 900 ∧ ∀ x ∈ PM.dst al tl, gd 30 x := by
  obtain ⟨h1, h2⟩ := cutA_dst _ _ _ _ _ e
  refine ⟨by have := S.sum; omega, fun x hx => ?_⟩
  rcases h2 x hx with q | ⟨k, q1, q2⟩
  · exact S.g x q
  · exact (S.oE k q1).2.2.2 x q2
theorem cut_nn {xs : List MV} {a b : Int} (ha : 0 ≤ a) (hb : 0 ≤ b) : cutM xs (some a) (some b) = (xs.drop a.toNat).take (b.toNat - a.toNat) := by
  obtain ⟨n, rfl⟩ := Int.eq_ofNat_of_zero_le ha
  obtain ⟨m, rfl⟩ := Int.eq_ofNat_of_zero_le hb
  exact cut_lh
theorem fAdd_v {h : MH} {v : MV} {xs ys : List MV} (e : Mini.listOf h v = some xs) (nf : ∀ zs, v ≠ .fro zs) (hl : xs.length + ys.length ≤ sizeLine) : fAdd v (.lst ys) h = .ok (.lst (xs ++ ys)) h := by
  cases v with
  | lst zs => simp only [Mini.listOf, Option.some.injEq] at e; subst e; exact fAdd_l hl
  | ref i =>
    simp only [Mini.listOf] at e
    simp only [fAdd, Mini.listOf, e]; exact if_pos hl
  | fro zs => exact absurd rfl (nf zs)
  | _ => simp [Mini.listOf] at e
def spV (o : Option (Al × List MV)) : MV := match o with
  | some r => .lst (dst r.1 r.2)
  | none => .non
theorem spV_s {r : Al × List MV} : spV (some r) = .lst (dst r.1 r.2) := rfl
theorem spV_n : spV none = .non := rfl
theorem law_spliced_ok {es : List MV} {hs : List Hk} {hv : MV} {h : MH} (S : SpOk es hs) (e : seqOf h hv = some (hs.map encH)) :
    m__law_spliced [.lst es, hv] h = .ok (spV (cutA es 0 hs)) h := by
  have zl : sizeLine = 16777216 := rfl
  have sm := S.sum
  obtain ⟨chk, e1, e2⟩ := itm_seq e
  have main : ∃ l, mDef 7 2 b__law_spliced [.lst es, hv] h = .ok (spV (cutA es 0 hs)) (h ++ l) := by
    have e1' : itmOf (h ++ [.lst []]) hv = itmOf h hv := by
      cases hv with
      | ref j =>
        simp only [seqOf_r] at e
        cases q2 : h[j]? with
        | none => rw [q2] at e; cases e
        | some o => simp only [itmOf_r]; rw [List.getElem?_append_left (List.getElem?_eq_some_iff.mp q2).1]
      | _ => rfl
    simp only [b__law_spliced, EV, e1', e1]
    generalize hL : forLoop _ _ _ _ _ _ = o1
    rcases for_rt encH (fun xs ρ h' => h' = h ++ [.lst []] ∧ ∃ (n : Nat) (done : Al) (fv : MV) (c4 c5 c6 : Option MV), n ≤ es.length ∧ okH ((n : Int) - 1) xs ∧ (∀ k ∈ xs, k ∈ hs) ∧ cutA es 0 hs = (cutA (es.drop n) n xs).map (fun r => (done ++ r.1, r.2)) ∧
        Mini.listOf (h ++ [.lst []]) fv = some (dst done []) ∧ (∀ zs, fv ≠ .fro zs) ∧ (dst done []).length + putN xs ≤ n + putN hs ∧ ρ = [some (.lst es), some hv, some fv, some (.int (n : Int)), c4, c5, c6])
        (fun o1 => o1 = .rt .non (h ++ [.lst []]) ∧ cutA es 0 hs = none) hL
        ⟨rfl, 0, [], .ref h.length, none, none, none, Nat.zero_le _, okH_mono S.ok (by omega), fun _ q => q, by simp, by simp [Mini.listOf, dst], fun zs q => (nomatch q), by simp [dst], rfl⟩ (fun xs ρ h' i => by
          rw [i.1]; exact e2 _ fun i hi => by rw [List.getElem?_append_left hi]) (by
      rintro k ks ρ h' ⟨rfl, n, done, fv, c4, c5, c6, hn, ⟨o1, o2, o3, o4⟩, hm, ec, ef, nf, hb, rfl⟩
      have kE := S.oE k (hm k (by simp))
      have hpl : k.pl = ((n + (k.pl - n).toNat : Nat) : Int) := by omega
      generalize hj : (k.pl - n).toNat = j at hpl
      have q1 : ¬ k.pl < (n : Int) := by omega
      have hE : k.pl + (k.taken.length : Int) = ((n + j + k.taken.length : Nat) : Int) := by omega
      by_cases c1 : (es.length : Int) < k.pl
      · have c2 : j ≤ (es.drop n).length → ((es.drop n).drop j).take k.taken.length ≠ k.taken := fun q => by
          rw [List.length_drop] at q; omega
        rw [cutA_no hj c2] at ec
        simp only [encH, EV, q1, c1]
        exact ⟨by trivial, ec⟩
      have j1 : j ≤ es.length - n := by omega
      have w1 : cutM es (some k.pl) (some ((n + j + k.taken.length : Nat) : Int)) = (es.drop (n + j)).take k.taken.length := by
        rw [cut_nn (by omega) (by omega)]
        congr 2 <;> omega
      have t1 : gd 64 (.lst ((es.drop (n + j)).take k.taken.length)) := gd_lst (by rw [List.length_take]; have := kE.1; omega) fun x hx => gd_mono (by omega) (S.g x (List.mem_of_mem_drop (List.mem_of_mem_take hx)))
      have t2 : gd 64 (.lst k.taken) := gd_lst kE.1 fun x hx => gd_mono (by omega) (kE.2.2.1 x hx)
      by_cases c3 : (es.drop (n + j)).take k.taken.length = k.taken
      · rw [cutA_yes hj (by rw [List.length_drop]; exact j1) (by rw [List.drop_drop]; exact c3), List.drop_drop, Option.map_map] at ec
        have tln : n + j + k.taken.length ≤ es.length := by
          have := congrArg List.length c3
          rw [List.length_take, List.length_drop] at this; omega
        have w2 : cutM es (some (n : Int)) (some k.pl) = (es.drop n).take j := by
          rw [cut_nn (by omega) (by omega)]
          congr 2; omega
        have pb := hb
        rw [putN_c] at pb
        have a1 : (dst done []).length + ((es.drop n).take j).length ≤ sizeLine := by
          rw [List.length_take, zl]; omega
        have a2 : (dst done [] ++ (es.drop n).take j).length + k.put.length ≤ sizeLine := by
          rw [List.length_append, List.length_take, zl]; omega
        simp only [encH, EV, q1, c1, hE, w1, fNe_f t1 t2 (congrArg MV.lst c3), w2, fAdd_v ef nf a1, fAdd_l a2]
        refine ⟨by trivial, n + j + k.taken.length, done ++ [((es.drop n).take j, k.taken, k.put)], .lst (dst done [] ++ (es.drop n).take j ++ k.put), _, _, _, tln, okH_mono o4 (by omega), fun k' q => hm k' (by simp [q]), ?_, ?_, (fun zs q => nomatch q), ?_, rfl⟩
        · rw [ec, show n + (j + k.taken.length) = n + j + k.taken.length by omega]
          refine congrArg (fun f => Option.map f _) (funext fun r => ?_)
          simp
        · simp only [EV, dst_app, Option.some.injEq]
          rw [dst_tl done (dst _ [])]
          simp [dst]
        · rw [dst_app, dst_tl done (dst _ [])]
          simp only [dst, List.length_append, List.append_nil, List.length_take]
          omega
      · rw [cutA_no hj (fun _ => by rw [List.drop_drop]; exact c3)] at ec
        simp only [encH, EV, q1, c1, hE, w1, fNe_t t1 t2 (fun q => c3 (by simpa using q))]
        exact ⟨by trivial, ec⟩) with ⟨ρ', h', rfl, rfl, n, done, fv, c4, c5, c6, hn, _, _, ec, ef, nf, hb, rfl⟩ | ⟨rfl, e3⟩
    · simp only [cutA, Option.map_some, List.append_nil] at ec
      have w2 : cutM es (some (n : Int)) none = es.drop n := cut_lo
      simp only [putN, List.map_nil, List.sum_nil, Nat.add_zero] at hb
      have a1 : (dst done []).length + (es.drop n).length ≤ sizeLine := by
        have := S.sum; simp only [putN] at this; rw [List.length_drop, zl]; omega
      have w3 := dst_tl done (es.drop n)
      rw [ec]
      simp only [EV, w2, fAdd_v ef nf a1, spV_s, w3]
      exact ⟨_, by trivial⟩
    · rw [e3]
      simp only [EV, spV_n]
      exact ⟨_, by trivial⟩
  obtain ⟨l, m1⟩ := main
  refine cf_ok m1 ?_
  cases ec : cutA es 0 hs with
  | none => rw [spV_n]; exact Rv.non
  | some r =>
    obtain ⟨d1, d2⟩ := S.dst (al := r.1) (tl := r.2) ec
    rw [spV_s]
    exact Rv.gdn (n := 31) (by omega) (gd_lst (Nat.le_trans d1 (by omega)) d2)
theorem spliced_er {es : List MV} {hs : List Hk} {v : MV} {h : MH} (S : SpOk es hs) (hv : seqOf h v = some es) (ec0 : cutA es 0 hs = none) : m_spliced [v, chg hs] h = .er 39 h := by
  have sm := S.sum
  refine cf_er0 ?_
  simp only [b_spliced, chg, EV, fList_v hv, fldF_0]
  generalize hL : forLoop _ _ _ _ _ _ = o1
  rcases for_rt encH (fun xs ρ h' => h' = h ∧ ∃ (n : Nat) (c4 c5 c6 : Option MV), n ≤ es.length ∧ okH ((n : Int) - 1) xs ∧ (∀ k ∈ xs, k ∈ hs) ∧ cutA (es.drop n) n xs = none ∧ ρ = [some (.lst es), some (chg hs), c4, c5, c6])
      (fun o1 => ∃ ρ, o1 = .er 39 ρ h) hL ⟨rfl, 0, none, none, none, Nat.zero_le _, okH_mono S.ok (by omega), fun _ q => q, ec0, rfl⟩ (fun _ _ _ _ => trivial) (by
    rintro k ks ρ h' ⟨rfl, n, c4, c5, c6, hn, ⟨o1, o2, o3, o4⟩, hm, ec, rfl⟩
    have kE := S.oE k (hm k (by simp))
    have hpl : k.pl = ((n + (k.pl - n).toNat : Nat) : Int) := by omega
    generalize hj : (k.pl - n).toNat = j at hpl
    have hE : k.pl + (k.taken.length : Int) = ((n + j + k.taken.length : Nat) : Int) := by omega
    by_cases c1 : (es.length : Int) < k.pl
    · simp only [encH, EV, c1]
      exact ⟨_, by trivial⟩
    have j1 : j ≤ es.length - n := by omega
    have w1 : cutM es (some k.pl) (some (k.pl + (k.taken.length : Int))) = (es.drop (n + j)).take k.taken.length := by
      rw [cut_nn (by omega) (by omega)]
      congr 2 <;> omega
    have t1 : gd 64 (.lst ((es.drop (n + j)).take k.taken.length)) := gd_lst (by rw [List.length_take]; have := kE.1; omega) fun x hx => gd_mono (by omega) (S.g x (List.mem_of_mem_drop (List.mem_of_mem_take hx)))
    have t2 : gd 64 (.lst k.taken) := gd_lst kE.1 fun x hx => gd_mono (by omega) (kE.2.2.1 x hx)
    by_cases c3 : (es.drop (n + j)).take k.taken.length = k.taken
    · rw [cutA_yes hj (by rw [List.length_drop]; exact j1) (by rw [List.drop_drop]; exact c3), List.drop_drop] at ec
      have tln : n + j + k.taken.length ≤ es.length := by
        have := congrArg List.length c3
        rw [List.length_take, List.length_drop] at this; omega
      simp only [encH, EV, c1, w1, fNe_f t1 t2 (congrArg MV.lst c3)]
      rw [Option.map_eq_none_iff] at ec
      exact ⟨by trivial, n + j + k.taken.length, _, _, _, tln, okH_mono o4 (by omega), fun k' q => hm k' (by simp [q]), by rw [show n + j + k.taken.length = n + (j + k.taken.length) by omega]; exact (by rw [show n + (j + k.taken.length) = n + j + k.taken.length by omega] at ec ⊢; exact ec), rfl⟩
    · simp only [encH, EV, c1, w1, fNe_t t1 t2 (fun q => c3 (by simpa using q))]
      exact ⟨_, by trivial⟩) with ⟨ρ', h', rfl, rfl, n, c4, c5, c6, hn, _, _, ec, rfl⟩ | ⟨ρ', rfl⟩
  · simp [cutA] at ec
  · simp only [EV]
end PM
end

section
set_option Elab.async false
set_option linter.all false
set_option maxRecDepth 100000
set_option maxHeartbeats 4000000
namespace PM
open PySem L2 Mini
/-! ### rules for try -/
section
variable {s : Sub} {c k : Nat} {i : Option Nat} {j : Nat} {su : Nat → MS} {r hs : List MCl} {ρ : En} {h : MH} {v : MV} {b : Bool} {m : MS}
theorem tryN_e : mTryN s m hs ρ h = catchM s hs (m ρ h) := rfl
theorem catch_nx : catchM s hs (.nx ρ h) = .nx ρ h := rfl
theorem catch_rt : catchM s hs (.rt v h) = .rt v h := rfl
theorem catch_er : catchM s hs (.er c ρ h) = clzM s c ρ h hs := rfl
theorem clz_n : clzM s c ρ h [] = .er c ρ h := rfl
theorem clz_t (e : s c k = some true) : clzM s c ρ h ((k, i, su) :: r) = suiteN i (su c) ρ h := by simp only [clzM, e]
theorem clz_f (e : s c k = some false) : clzM s c ρ h ((k, i, su) :: r) = clzM s c ρ h r := by simp only [clzM, e]
theorem suite_n : suiteN none m ρ h = (m ρ h).hard := rfl
theorem suite_s (hl : j < ρ.length) : suiteN (some j) m ρ h = (m (ρ.set j none) h).unset j := by simp only [suiteN, if_pos hl]
theorem unset_rt : (SO.rt v h).unset j = .rt v h := rfl
theorem unset_nx : (SO.nx ρ h).unset j = .nx (ρ.set j none) h := rfl
theorem hard_rt : (SO.rt v h).hard = .rt v h := rfl
theorem hard_nx : (SO.nx ρ h).hard = .nx ρ h := rfl
theorem mOB_e : mOB (some b) ρ h = .ok (.bl b) h := rfl
end
theorem str_ok1 : PyData.strOk ("unfit" : Str) = true := by decide +kernel
theorem str_ok2 : PyData.strOk ("done" : Str) = true := by decide +kernel
theorem str_ok3 : PyData.strOk ("form" : Str) = true := by decide +kernel
theorem Rv.tups {xs : List MV} (h : ∀ x ∈ xs, ∃ n, n ≤ 700 ∧ PM.gd n x ∨ x = .bl true) (hl : xs.length ≤ 1000) : Rv (.tup xs) := by
  refine Rv.tup (fun x hx => ?_) (fun n x hx => ?_) (by omega)
  · obtain ⟨n, ⟨h1, h2⟩ | rfl⟩ := h x hx
    · exact fun m hm => fz_gd h2 m (by omega)
    · exact fun m hm => fz_bl m (by omega)
  · obtain ⟨n', ⟨h1, h2⟩ | rfl⟩ := h x hx
    · exact lt_gd h2
    · exact trivial
theorem fEq_bb {b c : Bool} {h : MH} : fEq (.bl b) (.bl c) h = .ok (.bl (b == c)) h := by cases b <;> cases c <;> simp [fEq, dat, PyData.eqv]
theorem same_bl {m : Nat} {h : MH} : m__law_same (m + 1) [.bl true, .bl true] h = .ok (.bl true) h := by
  refine cf_ok0 ?_ Rv.bl
  have e1 : fEq (.bl true) (.bl true) h = .ok (.bl true) h := fEq_bb
  simp only [b__law_same, EV, ty_b, Ty.is, e1]
/-! ### sums and the contrary -/
theorem growth_ok {hs : List Hk} {h : MH} (hl : hs.length ≤ 1000) : m_Change_growth [chg hs] h = .ok (.int (hs.map fun k => (k.put.length : Int) - k.taken.length).sum) h := by
  refine cf_ok0 ?_ Rv.int
  simp only [b_Change_growth, chg, EV, fldF_0]
  rw [comp_all encH (fun k => MV.int ((k.put.length : Int) - k.taken.length)) trivial hs]
  · have e3 : (hs.map fun k => MV.int ((k.put.length : Int) - k.taken.length)) = (hs.map fun k => (k.put.length : Int) - k.taken.length).map MV.int := by simp
    rw [e3]
    simp only [EV, fSum_l]
  · intro b hbm
    simp only [encH, EV]
  · have : sizeLine = 16777216 := rfl
    omega
/-- hunks with whatever stays between them -/
def fillA : Nat → List Hk → Al
  | _, [] => []
  | n, k :: ks => (List.replicate (k.pl - n).toNat .non, k.taken, k.put) :: fillA (n + (k.pl - n).toNat + k.taken.length) ks
theorem fillA_ok : ∀ (hs : List Hk) (n : Nat) (e : Int), okH e hs → (n : Int) - 1 ≤ e → hkOf n (fillA n hs) = hs ∧ apt (fillA n hs) ∧ (fillA n hs).length = hs.length ∧ (e = (n : Int) → ∀ x ∈ (fillA n hs).head?, 0 < x.1.length)
  | [], n, e, _, _ => ⟨rfl, trivial, rfl, by simp [fillA]⟩
  | k :: ks, n, e, ⟨o1, o2, o3, o4⟩, he => by
    have hn : ((n + (k.pl - n).toNat + k.taken.length : Nat) : Int) = k.pl + k.taken.length := by omega
    obtain ⟨i1, i2, i3, i4⟩ := fillA_ok ks (n + (k.pl - n).toNat + k.taken.length) _ o4 (by omega)
    refine ⟨?_, ⟨o3, fun x hx => ?_, i2⟩, by simp only [fillA, List.length_cons, i3], ?_⟩
    · simp only [fillA, hkOf, List.length_replicate]
      rw [i1, show ((n + (k.pl - n).toNat : Nat) : Int) = k.pl by omega]
    · have hd := i4 (by omega)
      cases hr : fillA (n + (k.pl - n).toNat + k.taken.length) ks with
      | nil => rw [hr] at hx; simp at hx
      | cons y ys =>
        rw [hr] at hx hd i2
        rcases List.mem_cons.mp hx with rfl | hx
        · exact hd _ (by simp)
        · exact i2.2.1 x hx
    · intro hen x hx
      simp only [fillA, List.head?_cons, Option.mem_def, Option.some.injEq] at hx
      subst hx
      simp only [List.length_replicate]; omega
theorem fillA_okA : ∀ (hs : List Hk) (n : Nat), (∀ k ∈ hs, okE k) → okA (fillA n hs)
  | [], _, _ => fun x hx => by simp [fillA] at hx
  | k :: ks, n, h => fun x hx => by
    simp only [fillA, List.mem_cons] at hx
    rcases hx with rfl | hx
    · exact h k (by simp)
    · exact fillA_okA ks _ (fun y hy => h y (by simp [hy])) x hx
theorem law_contrary_ok (al : Al) (h : MH) (hv : MV) (e : seqOf h hv = some ((hkOf 0 al).map encH)) (o : okA al) (hl : al.length ≤ 1000) : m__law_contrary [hv] h = .ok (.tup ((hkOf 0 (swp al)).map encH)) h := by
  have hl' : (hkOf 0 (swp al)).length ≤ 1000 := by rw [len_hk]; simpa [swp] using hl
  have oE := okE_hk (swp al) 0 (okA_swp o)
  obtain ⟨chk, e1, e2⟩ := itm_seq e
  refine cf_ok (l := [.lst ((hkOf 0 (swp al)).map encH)]) ?_ (Rv.gdn (by omega) (gd_hs hl' oE))
  have e1' : itmOf (h ++ [.lst []]) hv = itmOf h hv := by
    cases hv with
    | ref j =>
      simp only [seqOf_r] at e
      cases q2 : h[j]? with
      | none => rw [q2] at e; cases e
      | some o => simp only [itmOf_r]; rw [List.getElem?_append_left (List.getElem?_eq_some_iff.mp q2).1]
    | _ => rfl
  simp only [b__law_contrary, EV, e1', e1]
  generalize hL : forLoop _ _ _ _ _ _ = o
  obtain ⟨ρ', h', rfl, n, m, acc, a', b, c, al', e1, e2, e3, rfl, rfl⟩ := for_nx encH (fun xs ρ h' => ∃ (n m : Nat) (acc : List Hk) (a b c : Option MV) (al' : Al), xs = hkOf n al' ∧ hkOf 0 (swp al) = acc ++ hkOf m (swp al') ∧ acc.length + al'.length = al.length ∧ h' = h ++ [.lst (acc.map encH)] ∧
      ρ = [some hv, some (.ref h.length), some (.int ((m : Int) - (n : Int))), a, b, c]) hL ⟨0, 0, [], none, none, none, al, rfl, rfl, by simp, rfl, rfl⟩ (fun xs ρ h' ⟨_, _, _, _, _, _, _, _, _, _, q, _⟩ => by
        rw [q]; exact e2 _ fun i hi => by rw [List.getElem?_append_left hi]) (by
    rintro x xs ρ h' ⟨n, m, acc, a', b, c, al', e1, e2, e3, rfl, rfl⟩
    cases al' with
    | nil => simp [hkOf] at e1
    | cons y al' =>
      obtain ⟨k, t, p⟩ := y
      simp only [hkOf, List.cons.injEq] at e1
      obtain ⟨rfl, rfl⟩ := e1
      have q1 : (acc.map encH).length < sizeLine := by simp only [List.length_map, List.length_cons, sl] at *; omega
      have q2 : ((n + k.length : Nat) : Int) + ((m : Int) - (n : Int)) = ((m + k.length : Nat) : Int) := by omega
      have q3 : ((m : Int) - (n : Int)) + (p.length : Int) - (t.length : Int) = ((m + k.length + p.length : Nat) : Int) - ((n + k.length + t.length : Nat) : Int) := by omega
      simp only [encH, EV, appK_e q1, q2, q3]
      exact ⟨n + k.length + t.length, m + k.length + p.length, acc ++ [⟨((m + k.length : Nat) : Int), p, t⟩], _, _, _, al', rfl, by rw [e2]; simp [swp, hkOf], by simp at *; omega, by simp [encH], rfl⟩)
  have e5 : al' = [] := by
    cases al' with
    | nil => rfl
    | cons y al' => obtain ⟨k, t, p⟩ := y; simp [hkOf] at e1
  subst e5
  simp only [swp, List.map_nil, hkOf, List.append_nil] at e2
  have e2' : acc = hkOf 0 (swp al) := e2.symm
  subst e2'
  simp only [EV]
theorem counted_ok {hs : List Hk} {hv : MV} {h : MH} (ok : okH (-1) hs) (oE : ∀ k ∈ hs, okE k) (hl : hs.length ≤ 1000) (e : seqOf h hv = some (hs.map encH)) : m__law_counted [hv, chg hs] h = .ok (.bl true) h := by
  obtain ⟨f1, f2, f3, _⟩ := fillA_ok hs 0 (-1) ok (by omega)
  have f4 := fillA_okA hs 0 oE
  have c1 := contrary_ok (fillA 0 hs) h f2 f4 (by omega)
  have c2 := law_contrary_ok (fillA 0 hs) h hv (by rw [f1]; exact e) f4 (by omega)
  have hl' : (hkOf 0 (swp (fillA 0 hs))).length ≤ 1000 := by rw [len_hk]; simp [swp]; omega
  have oE' := okE_hk (swp (fillA 0 hs)) 0 (okA_swp f4)
  rw [f1] at c1
  obtain ⟨chk, e1, e2⟩ := itm_seq e
  refine cf_ok0 ?_ Rv.bl
  simp only [b__law_counted, EV, e1]
  generalize hL : forLoop _ _ _ _ _ _ = o
  obtain ⟨ρ', h', rfl, rfl, done, c4, c5, c6, ed, rfl⟩ := for_nx encH (fun xs ρ h' => h' = h ∧ ∃ (done : List Hk) (c4 c5 c6 : Option MV), hs = done ++ xs ∧
      ρ = [some hv, some (chg hs), some (.int (done.map fun k => (k.put.length : Int) - k.taken.length).sum), some (.int (done.map fun k => (k.put.length : Int) + k.taken.length).sum), c4, c5, c6]) hL ⟨rfl, [], none, none, none, rfl, rfl⟩ (fun xs ρ h' q => by rw [q.1]; exact e2 _ fun _ _ => rfl) (by
    rintro x xs ρ h' ⟨rfl, done, c4, c5, c6, ed, rfl⟩
    simp only [encH, EV]
    have g1 : (done.map fun k : Hk => (k.put.length : Int) - k.taken.length).sum + (x.put.length : Int) - (x.taken.length : Int) = ((done ++ [x]).map fun k : Hk => (k.put.length : Int) - k.taken.length).sum := by
      simp only [List.map_append, List.sum_append, List.map_cons, List.map_nil, List.sum_cons, List.sum_nil]; omega
    have g2 : (done.map fun k : Hk => (k.put.length : Int) + k.taken.length).sum + (x.put.length : Int) + (x.taken.length : Int) = ((done ++ [x]).map fun k : Hk => (k.put.length : Int) + k.taken.length).sum := by
      simp only [List.map_append, List.sum_append, List.map_cons, List.map_nil, List.sum_cons, List.sum_nil]; omega
    rw [g1, g2]
    exact ⟨by trivial, done ++ [x], _, _, _, by rw [ed]; simp, rfl⟩)
  rw [List.append_nil] at ed
  subst ed
  have s1 : ∀ a b : Int, m__law_same 200 [.lst [.int a, .int b], .lst [.int a, .int b]] h' = .ok (.bl true) h' := fun a b => same_ok (n := 200) (gd_lst (by simp) fun x hx => by
    simp only [List.mem_cons, List.not_mem_nil, or_false] at hx
    rcases hx with rfl | rfl <;> exact gd_int)
  have s2 : m__law_same 200 [.tup ((hkOf 0 (swp (fillA 0 hs))).map encH), .tup ((hkOf 0 (swp (fillA 0 hs))).map encH)] h' = .ok (.bl true) h' := same_ok (gd_mono (by omega) (gd_hs hl' oE'))
  have n1 : (("growth" : Str) == ("hunks" : Str)) = false := by decide +kernel
  have n2 : (("touched" : Str) == ("hunks" : Str)) = false := by decide +kernel
  have n3 : (("contrary" : Str) == ("hunks" : Str)) = false := by decide +kernel
  simp only [EV, methF_1 n1, methF_1 n2, methF_1 n3, growth_ok hl, touched_ok hl, s1, c1, c2, insOf_chg, fldF_0, s2]
/-! ### the law's words around splicing -/
theorem sub39 : subG 39 39 = some true := by decide
theorem sub1_39 : subG 1 39 = some false := by decide
theorem sub1 : subG 1 1 = some true := by decide
theorem sub38 : subG 38 38 = some true := by decide
theorem i39_0 : isaG 39 0 39 = some true := by decide
theorem i39_1 : isaG 39 1 39 = some false := by decide
theorem i1_39 : isaG 1 39 1 = some false := by decide
theorem b1_1 : isbG 1 1 = some true := by decide
theorem b38_38 : isbG 38 38 = some true := by decide
theorem i38_0 : isaG 38 0 38 = some true := by decide
theorem i38_39 : isaG 38 39 38 = some false := by decide
def saidV (s : Str) (v : MV) : MV := .tup [.str s, v]
theorem law_splice_done {al : Al} {tl : List MV} {h : MH} (hs : (src al tl).length ≤ 1000) (hd : (dst al tl).length ≤ 1000) (gs : ∀ x ∈ src al tl, gd 30 x) (g : ∀ x ∈ dst al tl, gd 30 x) :
    m__law_splice [.lst (src al tl), chg (hkOf 0 al)] h = .ok (saidV "done" (.lst (dst al tl))) h := by
  have r := spliced_ok al tl h hs hd gs g (.lst (src al tl)) rfl
  have g1 : gd 31 (.lst (dst al tl)) := gd_lst hd g
  refine cf_ok0 ?_ (Rv.gdn (n := 32) (by omega) (gd_tup (by simp) fun x hx => ?_))
  · simp only [b__law_splice, EV, r, tryN_e, catch_rt, saidV]
  · simp only [List.mem_cons, List.not_mem_nil, or_false] at hx
    rcases hx with rfl | rfl
    · exact gd_str str_ok2
    · exact g1
theorem law_splice_unfit {es : List MV} {hs : List Hk} {h : MH} (S : SpOk es hs) (ec : cutA es 0 hs = none) : m__law_splice [.lst es, chg hs] h = .ok (saidV "unfit" (.bl true)) h := by
  have r := spliced_er (h := h) (v := .lst es) S rfl ec
  refine cf_ok0 ?_ (Rv.tups (fun x hx => ?_) (by simp))
  · have hl : 2 < ([some (MV.lst es), some (chg hs), none] : En).length := by simp
    simp only [b__law_splice, EV, r, tryN_e, catch_er, clz_t sub39, suite_s hl, mOB_e, i39_0, i39_1, unset_rt, saidV]
  · simp only [List.mem_cons, List.not_mem_nil, or_false] at hx
    rcases hx with rfl | rfl
    · exact ⟨1, .inl ⟨by omega, gd_str str_ok1⟩⟩
    · exact ⟨0, .inr rfl⟩
theorem same_said {s : Str} {v : MV} {m : Nat} {h : MH} (hs : PyData.strOk s = true) (hv : m__law_same (m + 1) [v, v] h = .ok (.bl true) h) : m__law_same (m + 1 + 1) [saidV s v, saidV s v] h = .ok (.bl true) h :=
  same_seq (xs := [.str s, v]) (fun x hx => by
    simp only [List.mem_cons, List.not_mem_nil, or_false] at hx
    rcases hx with rfl | rfl
    · exact same_ok (n := m + 1) (gd_str hs)
    · exact hv) (by simp) _ (.inl rfl)
end PM
end

section
set_option Elab.async false
set_option linter.all false
set_option maxRecDepth 100000
set_option maxHeartbeats 4000000
namespace PM
open PySem L2 Mini
/-! ### hunks that are none -/
theorem cf_puter {n ar i c : Nat} {body : MS} {ms : List MV} {h : MH} {o : MO} (hb : mDef n ar body ms h = .er c (h.set i o)) (lt : o.lt h.length) : cutF (frzF (mDef n ar body)) ms h = .er c (h.set i o) := by
  have td : Tidy h (h.set i o) := fun j hj => by
    rw [List.getElem?_set]
    by_cases q : i = j
    · subst q; right; exact ⟨o, by simp [hj], lt⟩
    · left; rw [if_neg q]
  unfold cutF frzF
  rw [hb]
  simp only [Out.frz, Out.bind, Out.cut]
  rw [if_pos td, ← List.length_set (as := h) (i := i) (a := o), List.take_length]
theorem mkF_er {c n k : Nat} {fn : MFun} {xs : List MV} {h : MH} {l : MH} (hn : xs.length + 1 = n) (e : fn (.ref h.length :: xs) (h ++ [.ins c [] []]) = .er k (h ++ l)) : mkF c n fn xs h = .er k h := by
  unfold mkF mMk
  rw [if_pos hn, e]
  simp only [Out.bind, Out.cut]
  rw [if_pos tidy_app]; simp
theorem check_hunks_er (hs : List Hk) (h : MH) (no : ¬ okH (-1) hs) : m_check_hunks [.tup (hs.map encH)] h = .er 38 h := by
  refine cf_er0 ?_
  simp only [b_check_hunks, EV]
  generalize hL : forLoop _ _ _ _ _ _ = o
  rcases for_rt encH (fun xs ρ h' => h' = h ∧ ∃ e a b c, ¬ okH e xs ∧ ρ = [some (.tup (hs.map encH)), some (.int e), a, b, c]) (fun o => ∃ ρ, o = .er 38 ρ h) hL ⟨rfl, -1, none, none, none, no, rfl⟩ (fun _ _ _ _ => trivial) (by
    rintro x xs ρ h' ⟨rfl, e, a, b, c, o1, rfl⟩
    by_cases c1 : x.pl < 0
    · simp only [encH, EV, c1]
      exact ⟨_, by trivial⟩
    by_cases c2 : (x.taken.length : Int) + (x.put.length : Int) = 0
    · simp only [encH, EV, c1, c2]
      exact ⟨_, by trivial⟩
    by_cases c3 : x.pl ≤ e
    · simp only [encH, EV, c1, c2, c3]
      exact ⟨_, by trivial⟩
    simp only [encH, EV, c1, c2, c3]
    exact ⟨by trivial, _, _, _, _, fun q => o1 ⟨by omega, by omega, by omega, q⟩, rfl⟩) with ⟨ρ', h', rfl, rfl, e, _, _, _, q, _⟩ | ⟨ρ', rfl⟩
  · exact absurd trivial q
  · simp only [EV]
theorem hunks_bad_ok {hs : List Hk} {h : MH} (v : MV) (hv : v = .lst (hs.map encH)) (no : ¬ okH (-1) hs) : m__law_hunks_good [v] h = .ok (.bl false) h := by
  subst hv
  refine cf_ok0 ?_ Rv.bl
  simp only [b__law_hunks_good, EV]
  generalize hL : forLoop _ _ _ _ _ _ = o
  rcases for_rt encH (fun xs ρ h' => h' = h ∧ ∃ e a b c, ¬ okH e xs ∧ -1 ≤ e ∧ ρ = [some (.lst (hs.map encH)), some (.int e), a, b, c]) (fun o => o = .rt (.bl false) h) hL ⟨rfl, -1, none, none, none, no, by omega, rfl⟩ (fun _ _ _ _ => trivial) (by
    rintro x xs ρ h' ⟨rfl, e, a, b, c, o1, o2, rfl⟩
    by_cases c1 : x.pl ≤ e
    · simp only [encH, EV, c1]
    by_cases c2 : (x.taken.length : Int) + (x.put.length : Int) = 0
    · simp only [encH, EV, c1, c2]
    simp only [encH, EV, c1, c2]
    exact ⟨by trivial, _, _, _, _, fun q => o1 ⟨by omega, by omega, by omega, q⟩, by omega, rfl⟩) with ⟨ρ', h', rfl, rfl, e, _, _, _, q, _⟩ | rfl
  · exact absurd trivial q
  · simp only [EV]
theorem hunks_good_l {hs : List Hk} {h : MH} (ok : okH (-1) hs) : m__law_hunks_good [.lst (hs.map encH)] h = .ok (.bl true) h := by
  refine cf_ok0 ?_ Rv.bl
  simp only [b__law_hunks_good, EV]
  generalize hL : forLoop _ _ _ _ _ _ = o
  obtain ⟨ρ', h', rfl, rfl, _, _, _, _, _, rfl⟩ := for_nx encH (fun xs ρ h' => h' = h ∧ ∃ e a b c, okH e xs ∧ ρ = [some (.lst (hs.map encH)), some (.int e), a, b, c]) hL ⟨rfl, -1, none, none, none, ok, rfl⟩ (fun _ _ _ _ => trivial) (by
    rintro x xs ρ h' ⟨rfl, e, a, b, c, ⟨o1, o2, o3, o4⟩, rfl⟩
    have c1 : ¬ x.pl ≤ e := by omega
    have c2 : ¬ ((x.taken.length : Int) + (x.put.length : Int) = 0) := by omega
    simp only [encH, EV, c1, c2]
    exact ⟨by trivial, _, _, _, _, o4, rfl⟩)
  simp only [EV]
theorem change_init_er {i : Nat} {hv : MV} {hs : List Hk} {h : MH} (e : seqOf h hv = some (hs.map encH)) (hi : h[i]? = some (.ins 40 [] [])) (no : ¬ okH (-1) hs) (hE : ∀ b ∈ hs, okE b) (hl : hs.length ≤ 1000) :
    m_Change__init_ [.ref i, hv] h = .er 38 (h.set i (.ins 40 ["hunks"] [.tup (hs.map encH)])) := by
  have hlt : (MO.ins 40 ["hunks"] [.tup (hs.map encH)]).lt h.length := by
    simp only [MO.lt]
    refine lts_of fun x hx => ?_
    simp only [List.mem_cons, List.not_mem_nil, or_false] at hx
    subst hx; exact lt_gd (gd_hs hl hE)
  refine cf_puter ?_ hlt
  obtain ⟨chk, e1, e2⟩ := itm_seq e
  simp only [b_Change__init_, EV, e1]
  rw [comp_all encH encH (e2 _ fun _ _ => rfl) hs]
  · have hs' : h.length > i := (List.getElem?_eq_some_iff.mp hi).1
    have e4 : ((h.set i (.ins 40 ["hunks"] [.tup (hs.map encH)]))[i]?) = some (.ins 40 ["hunks"] [.tup (hs.map encH)]) := by simp [hs']
    simp only [EV, setF_e hi (by decide : ([] : List Str).length < 1000), putN_n, putX_n, e4, fldF_0, check_hunks_er _ _ no]
  · intro b hbm
    simp only [encH, EV]
  · have : sizeLine = 16777216 := rfl
    omega
theorem change_bad {hv : MV} {hs : List Hk} {h : MH} (e : seqOf h hv = some (hs.map encH)) (no : ¬ okH (-1) hs) (hE : ∀ b ∈ hs, okE b) (hl : hs.length ≤ 1000) : mkF 40 2 m_Change__init_ [hv] h = .er 38 h := by
  have up : ∀ {v : MV} {xs : List MV} {c : MO}, seqOf h v = some xs → seqOf (h ++ [c]) v = some xs := fun {v xs c} q => by
    cases v with
    | ref j =>
      simp only [seqOf_r] at q ⊢
      cases q2 : h[j]? with
      | none => rw [q2] at q; cases q
      | some o => rw [List.getElem?_append_left (List.getElem?_eq_some_iff.mp q2).1]; exact q
    | _ => exact q
  refine mkF_er (l := [.ins 40 ["hunks"] [.tup (hs.map encH)]]) rfl ?_
  rw [change_init_er (i := h.length) (up e) (by simp) no hE hl]
  simp
theorem refused_ok {hv : MV} {hs : List Hk} {h : MH} (e : seqOf h hv = some (hs.map encH)) (no : ¬ okH (-1) hs) (hE : ∀ b ∈ hs, okE b) (hl : hs.length ≤ 1000) : m__law_refused [hv] h = .ok (.bl true) h := by
  have r := change_bad e no hE hl
  refine cf_ok0 ?_ Rv.bl
  have hln : 1 < ([some hv, none] : En).length := by simp
  simp only [b__law_refused, EV, r, tryN_e, catch_er, clz_t sub38, suite_s hln, mOB_e, i38_0, i38_39, b38_38, unset_rt]
/-! ### what stands behind a change -/
theorem map_of {P : LfI → Prop} : ∀ {xs : List MV}, (∀ x ∈ xs, ∃ y, x = encI y ∧ P y) → ∃ ys : List LfI, xs = ys.map encI ∧ ∀ y ∈ ys, P y
  | [], _ => ⟨[], rfl, by simp⟩
  | x :: xs, h => by
    obtain ⟨y, e1, p1⟩ := h x (by simp)
    obtain ⟨ys, e2, p2⟩ := map_of (xs := xs) fun z hz => h z (by simp [hz])
    exact ⟨y :: ys, by rw [e1, e2]; rfl, fun z hz => by
      rcases List.mem_cons.mp hz with rfl | hz
      · exact p1
      · exact p2 z hz⟩
def PutI (hs : List Hk) : Prop := ∀ k ∈ hs, ∃ p : List LfI, k.put = p.map encI ∧ gI 4 p
/-- what is asked of the hunks that the law puts in -/
structure RI (o : List Lf) (hs : List Hk) : Prop where
  V : VO 4 o
  ok : okH (-1) hs
  oE : ∀ k ∈ hs, okE k
  hl : hs.length ≤ 100
  sum : o.length + putN hs ≤ 200
  pI : PutI hs
theorem RI.sp {o : List Lf} {hs : List Hk} (R : RI o hs) : SpOk (o.map encL) hs := ⟨R.ok, R.oE, by have := R.hl; omega, R.V.gd, by have := R.sum; simp; omega⟩
theorem RI.res {o : List Lf} {hs : List Hk} (R : RI o hs) {al : Al} {tl : List MV} (e : cutA (o.map encL) 0 hs = some (al, tl)) : ∃ r : List LfI, dst al tl = r.map encI ∧ gI 4 r ∧ r.length ≤ 200 := by
  obtain ⟨h1, h2⟩ := cutA_dst _ _ _ _ _ e
  obtain ⟨r, r1, r2⟩ := map_of (P := fun y => y.2.length ≤ 4 ∧ ∀ c ∈ y.2, gd 28 (.tup c)) (xs := dst al tl) fun x hx => by
    rcases h2 x hx with q | ⟨k, q1, q2⟩
    · obtain ⟨y, hy, rfl⟩ := List.mem_map.mp q
      exact ⟨toI y, rfl, R.V.g.row y hy⟩
    · obtain ⟨p, p1, p2⟩ := R.pI k q1
      rw [p1] at q2
      obtain ⟨y, hy, rfl⟩ := List.mem_map.mp q2
      exact ⟨y, rfl, p2.row y hy⟩
  refine ⟨r, r1, ⟨by omega, r2⟩, ?_⟩
  have := congrArg List.length r1
  have := R.sum
  simp at *; omega
theorem nR_le : ∀ (l : List Lf), (∀ x ∈ l, x.2.length ≤ 4) → nR l ≤ 4 * l.length
  | [], _ => by simp [nR]
  | y :: l, h => by
    have h1 := nR_le l fun x hx => h x (by simp [hx])
    have h2 := h y (by simp)
    have : nR (y :: l) = y.2.length + nR l := by simp [nR]
    simp only [List.length_cons]; omega
theorem vo_good {r : List LfI} (g : gI 4 r) (hl : r.length ≤ 200) (e : goodL none r = true) : ∃ o' : List Lf, r = o'.map toI ∧ VO 4 o' := by
  obtain ⟨o', e1, e2⟩ := good_ok r none e
  subst e1
  have rw' : ∀ x ∈ o', x.2.length ≤ 4 ∧ ∀ c ∈ x.2, gd 28 (.tup c) := fun x hx => g.row (toI x) (List.mem_map.mpr ⟨x, hx, rfl⟩)
  simp only [List.length_map] at hl
  exact ⟨o', rfl, ⟨⟨by omega, by omega, by have := nR_le o' fun x hx => (rw' x hx).1; omega, rw'⟩, e2⟩⟩
theorem form_of_er {r : List LfI} {h : MH} (g : gI 4 r) (e : goodL none r = false) : m_form_of [.lst (r.map encI)] h = .er 1 h := by
  have c := check_outline_gen (h := h) g
  rw [if_neg (by simp [e])] at c
  refine cf_er0 ?_
  simp only [b_form_of, EV, c]
theorem changed_unfit {o : List Lf} {hs : List Hk} {h : MH} (R : RI o hs) (ec : cutA (o.map encL) 0 hs = none) : m_changed [.lst ((treeOf o).map encT), chg hs] h = .er 39 h := by
  have r := spliced_er (h := h) (v := .lst (o.map encL)) R.sp rfl ec
  refine cf_er0 ?_
  simp only [b_changed, EV, R.V.out, r]
theorem changed_bad {o : List Lf} {hs : List Hk} {h : MH} (R : RI o hs) {al : Al} {tl : List MV} {r : List LfI} (ec : cutA (o.map encL) 0 hs = some (al, tl)) (er : dst al tl = r.map encI) (g : gI 4 r) (e : goodL none r = false) :
    m_changed [.lst ((treeOf o).map encT), chg hs] h = .er 1 h := by
  obtain ⟨a1, a2, a3, _⟩ := cutA_ok hs _ 0 (-1) al tl R.ok (by omega) ec
  obtain ⟨d1, d2⟩ := R.sp.dst ec
  have s := spliced_ok al tl h (by rw [a2]; have := R.V.len; omega) (by omega) (by rw [a2]; exact R.V.gd) d2 (.lst (o.map encL)) (by rw [a2]; rfl)
  rw [a1, er] at s
  refine cf_er0 ?_
  simp only [b_changed, EV, R.V.out, s, form_of_er g e]
theorem changed_good {o o' : List Lf} {hs : List Hk} {h : MH} (R : RI o hs) {al : Al} {tl : List MV} (ec : cutA (o.map encL) 0 hs = some (al, tl)) (er : dst al tl = o'.map encL) (V' : VO 4 o') :
    m_changed [.lst ((treeOf o).map encT), chg hs] h = .ok (.lst ((treeOf o').map encT)) h := by
  obtain ⟨a1, a2, a3, _⟩ := cutA_ok hs _ 0 (-1) al tl R.ok (by omega) ec
  have := changed_ok (h := h) R.V V' a2 er
  rw [a1] at this
  exact this
end PM
end

section
set_option Elab.async false
set_option linter.all false
set_option maxRecDepth 100000
set_option maxHeartbeats 4000000
namespace PM
open PySem L2 Mini
theorem gd_said {s : Str} {v : MV} {n : Nat} (hs : PyData.strOk s = true) (g : gd (n + 1) v) : gd (n + 2) (saidV s v) := gd_tup (by simp) fun x hx => by
  simp only [List.mem_cons, List.not_mem_nil, or_false] at hx
  rcases hx with rfl | rfl
  · exact gd_str hs
  · exact g
theorem rv_said {s : Str} (hs : PyData.strOk s = true) : Rv (saidV s (.bl true)) := Rv.tups (fun x hx => by
  simp only [List.mem_cons, List.not_mem_nil, or_false] at hx
  rcases hx with rfl | rfl
  · exact ⟨1, .inl ⟨by omega, gd_str hs⟩⟩
  · exact ⟨0, .inr rfl⟩) (by simp)
theorem law_do_unfit {o : List Lf} {hs : List Hk} {h : MH} (R : RI o hs) (ec : cutA (o.map encL) 0 hs = none) : m__law_do [.lst ((treeOf o).map encT), chg hs] h = .ok (saidV "unfit" (.bl true)) h := by
  have r := changed_unfit (h := h) R ec
  refine cf_ok0 ?_ (rv_said str_ok1)
  have hl : 2 < ([some (MV.lst ((treeOf o).map encT)), some (chg hs), none] : En).length := by simp
  simp only [b__law_do, EV, r, tryN_e, catch_er, clz_t sub39, suite_s hl, mOB_e, i39_0, i39_1, unset_rt, saidV]
theorem law_do_bad {o : List Lf} {hs : List Hk} {h : MH} (R : RI o hs) {al : Al} {tl : List MV} {r : List LfI} (ec : cutA (o.map encL) 0 hs = some (al, tl)) (er : dst al tl = r.map encI) (g : gI 4 r) (e : goodL none r = false) :
    m__law_do [.lst ((treeOf o).map encT), chg hs] h = .ok (saidV "form" (.bl true)) h := by
  have r := changed_bad (h := h) R ec er g e
  refine cf_ok0 ?_ (rv_said str_ok3)
  have hl : 2 < ([some (MV.lst ((treeOf o).map encT)), some (chg hs), none] : En).length := by simp
  simp only [b__law_do, EV, r, tryN_e, catch_er, clz_f sub1_39, clz_t sub1, suite_s hl, mOB_e, b1_1, i1_39, unset_rt, saidV]
theorem law_do_good {o o' : List Lf} {hs : List Hk} {h : MH} (R : RI o hs) {al : Al} {tl : List MV} (ec : cutA (o.map encL) 0 hs = some (al, tl)) (er : dst al tl = o'.map encL) (V' : VO 4 o') :
    m__law_do [.lst ((treeOf o).map encT), chg hs] h = .ok (saidV "done" (.lst ((treeOf o').map encT))) h := by
  have r := changed_good (h := h) R ec er V'
  have g := gd_form V'.g
  refine cf_ok0 ?_ (Rv.gdn (n := 2 * 4 + 33) (by omega) (gd_said str_ok2 g))
  simp only [b__law_do, EV, r, tryN_e, catch_rt, saidV]
theorem law_right_ok {o : List Lf} {hs : List Hk} {hv : MV} {h : MH} (R : RI o hs) (e : seqOf h hv = some (hs.map encH)) : m__law_right [.lst (o.map encL), hv, chg hs] h = .ok (.bl true) h := by
  have hl := R.hl
  have s1 : m__law_same 200 [.tup (hs.map encH), .tup (hs.map encH)] h = .ok (.bl true) h := same_ok (gd_mono (by omega) (gd_hs (by omega) R.oE))
  have c1 := counted_ok (h := h) R.ok R.oE (by omega) e
  have sp := law_spliced_ok R.sp e
  have f1 := law_form_ok (h := h) R.V.g R.V.ok
  have go : gd 64 (.lst (o.map encL)) := gd_lst (by have := R.V.len; omega) fun x hx => gd_mono (by omega) (R.V.gd x hx)
  have s2 : m__law_same 200 [.lst (o.map encL), .lst (o.map encL)] h = .ok (.bl true) h := same_ok (gd_mono (by omega) go)
  have s3 : m__law_same 200 [.lst ((treeOf o).map encT), .lst ((treeOf o).map encT)] h = .ok (.bl true) h := same_ok (gd_mono (by omega) (gd_form R.V.g))
  have cp : compLoop (fun _ => True) (.name 7) mYes (mVar 7) [some (.lst (o.map encL)), some hv, some (chg hs), some (spV (cutA (o.map encL) 0 hs)), some (.lst ((treeOf o).map encT)), none, none, none] (o.map encL) [] h = .ok (o.map encL) h := by
    refine comp_all encL encL trivial o (fun x _ => ?_) (by have := R.V.len; rw [sl7]; simp at this; omega)
    simp only [EV]
  have u1 : m__law_same 200 [saidV "unfit" (.bl true), saidV "unfit" (.bl true)] h = .ok (.bl true) h := same_said (m := 198) str_ok1 same_bl
  have u3 : m__law_same 200 [saidV "form" (.bl true), saidV "form" (.bl true)] h = .ok (.bl true) h := same_said (m := 198) str_ok3 same_bl
  refine cf_ok0 ?_ Rv.bl
  cases ec : cutA (o.map encL) 0 hs with
  | none =>
    have d1 := law_splice_unfit (h := h) R.sp ec
    have d2 := law_do_unfit (h := h) R ec
    rw [ec] at sp cp
    rw [spV_n] at sp cp
    simp only [saidV] at u1 d1 d2
    simp only [b__law_right, EV, insOf_chg, fldF_0, fTuple_v e, s1, c1, sp, f1, cp, d1, u1, s2, d2, s3]
  | some q =>
    obtain ⟨al, tl⟩ := q
    obtain ⟨a1, a2, a3, _⟩ := cutA_ok hs _ 0 (-1) al tl R.ok (by omega) ec
    obtain ⟨dl, dg⟩ := R.sp.dst ec
    obtain ⟨r, r1, r2, r3⟩ := R.res ec
    have sl : (src al tl).length ≤ 1000 := by rw [a2]; have := R.V.len; omega
    have sg : ∀ x ∈ src al tl, gd 30 x := by rw [a2]; exact R.V.gd
    have d1 := law_splice_done (h := h) sl (by omega) sg dg
    rw [a1, a2] at d1
    have gdst : gd 31 (.lst (dst al tl)) := gd_lst (by omega) dg
    have u2 : m__law_same 200 [saidV "done" (.lst (dst al tl)), saidV "done" (.lst (dst al tl))] h = .ok (.bl true) h := same_ok (gd_mono (n := 32) (by omega) (gd_said str_ok2 gdst))
    have og := law_outline_good_ok (h := h) r2
    rw [← r1] at og
    -- and back
    have oA : okA al := okA_of al tl sl (by omega) sg dg
    have all : al.length ≤ 1000 := by have := len_hk al 0; rw [a1] at this; omega
    have ct := contrary_ok al h a3 oA all
    rw [a1] at ct
    have d3 := law_splice_done (al := swp al) (tl := tl) (h := h) (by rw [src_swp]; omega) (by rw [dst_swp]; exact sl) (by rw [src_swp]; exact dg) (by rw [dst_swp]; exact sg)
    rw [src_swp, dst_swp, a2] at d3
    have u4 : m__law_same 200 [saidV "done" (.lst (o.map encL)), saidV "done" (.lst (o.map encL))] h = .ok (.bl true) h := same_ok (gd_mono (n := 65) (by omega) (gd_said str_ok2 go))
    have n3 : (("contrary" : Str) == ("hunks" : Str)) = false := by decide +kernel
    rw [ec] at sp cp
    rw [spV_s] at sp cp
    simp only at sp cp
    cases eg : goodL none r with
    | false =>
      have d2 := law_do_bad (h := h) R ec r1 r2 eg
      rw [eg] at og
      simp only [saidV] at u2 u3 u4 d1 d2 d3
      simp only [b__law_right, EV, insOf_chg, fldF_0, fTuple_v e, s1, c1, sp, f1, cp, d1, u2, s2, d2, s3, og, u3, methF_1 n3, ct, d3, u4]
    | true =>
      obtain ⟨o', e1, V'⟩ := vo_good r2 r3 eg
      have r1' : dst al tl = o'.map encL := by rw [r1, e1, ← encLs_I]
      have d2 := law_do_good (h := h) R ec r1' V'
      have f2 := law_form_ok (h := h) V'.g V'.ok
      rw [← r1'] at f2
      rw [eg] at og
      have u5 : m__law_same 200 [saidV "done" (.lst ((treeOf o').map encT)), saidV "done" (.lst ((treeOf o').map encT))] h = .ok (.bl true) h := same_ok (gd_mono (n := 2 * 4 + 33) (by omega) (gd_said str_ok2 (gd_form V'.g)))
      simp only [saidV] at u2 u4 u5 d1 d2 d3
      simp only [b__law_right, EV, insOf_chg, fldF_0, fTuple_v e, s1, c1, sp, f1, cp, d1, u2, s2, d2, s3, og, f2, u5, methF_1 n3, ct, d3, u4]
end PM
end

section
set_option Elab.async false
set_option linter.all false
set_option maxRecDepth 100000
set_option maxHeartbeats 4000000
namespace PM
open PySem L2 Mini
theorem law_pick_at (ds : List Int) (hs : MH) (v : MV) (xs : List MV) (hv : ∀ ds, seqOf (D ds :: hs) v = some xs) (hx : xs ≠ []) (hr : ∀ x ∈ xs, Rv x) : ∃ (x : MV) (ds' : List Int), x ∈ xs ∧ m__law_pick [.ref 0, v] (D ds :: hs) = .ok x (D ds' :: hs) := by
  obtain ⟨i, ds', hi, e⟩ := law_draw_ok ds hs (xs.length : Int) (by have := List.length_pos_iff.mpr hx; omega)
  have hi : i < xs.length := by omega
  refine ⟨xs[i], ds', List.getElem_mem hi, cf_okD0 ?_ (hr _ (List.getElem_mem hi))⟩
  have w : fIx v (.int (i : Int)) (D ds' :: hs) = .ok xs[i] (D ds' :: hs) := by
    rw [fIx_v (hv _), atI_n, List.getElem?_eq_getElem hi]; rfl
  simp only [b__law_pick, EV, fLen_v (hv _), e, w]
theorem law_picks (n : Nat) (hn : n ≤ 1000) (ρ : En) (ds : List Int) (hs : MH) (elt : ME) (t : Nat) (v : MV) (xs : List MV) (hv : ∀ ds, seqOf (D ds :: hs) v = some xs) (hx : xs ≠ []) (hr : ∀ x ∈ xs, Rv x)
    (he : ∀ (k : Nat) (ds : List Int), elt (ρ.set t (some (.int (k : Int)))) (D ds :: hs) = m__law_pick [.ref 0, v] (D ds :: hs)) :
    ∃ (ls : List MV) (ds' : List Int), ls.length = n ∧ (∀ x ∈ ls, x ∈ xs) ∧ compLoop (fun _ => True) (.name t) mYes elt ρ (rangeM 0 n) [] (D ds :: hs) = .ok ls (D ds' :: hs) := by
  generalize hL : compLoop _ _ _ _ _ _ _ _ = o
  obtain ⟨acc, h', rfl, ds', rfl, h1, h2⟩ := comp_rng (fun k acc h' => ∃ (ds' : List Int), h' = D ds' :: hs ∧ acc.length = k ∧ ∀ x ∈ acc, x ∈ xs) hL ⟨ds, rfl, rfl, by simp⟩ (fun _ _ _ _ => trivial) (by
    rintro k acc h' hk ⟨ds', rfl, h1, h2⟩
    obtain ⟨x, ds2, hx2, e⟩ := law_pick_at ds' hs v xs hv hx hr
    simp only [EV, he, e]
    exact ⟨by rw [sl7]; omega, ds2, by trivial, by simp [h1], fun y hy => by
      rcases List.mem_append.mp hy with q | q
      · exact h2 y q
      · simp only [List.mem_singleton] at q; subst q; exact hx2⟩)
  exact ⟨acc, ds', h1, h2, rfl⟩
theorem rv_I {x : LfI} (h1 : x.2.length ≤ 4) (h2 : ∀ c ∈ x.2, gd 28 (.tup c)) : gd 30 (encI x) := gI.enc (n := 4) (o := [x]) ⟨by omega, fun y hy => by simp only [List.mem_singleton] at hy; subst hy; exact ⟨h1, h2⟩⟩ _ (by simp)
theorem cutM_mem {xs : List MV} {a b : Int} (ha : 0 ≤ a) (hb : 0 ≤ b) : (cutM xs (some a) (some b)).length ≤ xs.length ∧ ∀ x ∈ cutM xs (some a) (some b), x ∈ xs := by
  rw [cut_nn ha hb]
  exact ⟨by rw [List.length_take, List.length_drop]; omega, fun x hx => List.mem_of_mem_drop (List.mem_of_mem_take hx)⟩
/-- what the wild hunks are -/
structure Wd (ks : List Hk) : Prop where
  oE : ∀ k ∈ ks, okE k
  pI : PutI ks
  pl : ∀ k ∈ ks, k.put.length ≤ 2
theorem Wd.snoc {ks : List Hk} {k : Hk} (W : Wd ks) (h1 : okE k) (h2 : ∃ p : List LfI, k.put = p.map encI ∧ gI 4 p) (h3 : k.put.length ≤ 2) : Wd (ks ++ [k]) :=
  ⟨fun x hx => by
    rcases List.mem_append.mp hx with q | q
    · exact W.oE x q
    · simp only [List.mem_singleton] at q; subst q; exact h1, fun x hx => by
    rcases List.mem_append.mp hx with q | q
    · exact W.pI x q
    · simp only [List.mem_singleton] at q; subst q; exact h2, fun x hx => by
    rcases List.mem_append.mp hx with q | q
    · exact W.pl x q
    · simp only [List.mem_singleton] at q; subst q; exact h3⟩
theorem law_wild_ok (ds : List Int) (hs : MH) {o : List Lf} (V : VO 4 o) (hol : o.length ≤ 20) :
    ∃ (ks : List Hk) (ds' : List Int), ks.length ≤ 4 ∧ Wd ks ∧ m__law_wild [.ref 0, .lst (o.map encL)] (D ds :: hs) = .ok (.lst (ks.map encH)) (D ds' :: hs) := by
  have go : ∀ x ∈ o.map encL, gd 30 x := V.gd
  obtain ⟨at0, ds1, _, e1⟩ := law_draw_ok ds (hs ++ [.lst []]) 3 (by omega)
  have main : ∃ (ks : List Hk) (ds' : List Int) (pool : List MV), ks.length ≤ 4 ∧ Wd ks ∧ mDef 13 2 b__law_wild [.ref 0, .lst (o.map encL)] (D ds :: hs) = .ok (.ref (hs.length + 1)) (D ds' :: (hs ++ [.lst (ks.map encH), .lst pool])) := by
    have cp : ∀ ρ, compLoop (fun _ => True) (.name 11) mYes (mVar 11) [some (.ref 0), some (.lst (o.map encL)), some (.ref (hs.length + 1)), some (.int (at0 : Int)), none, none, none, none, none, none, none, none, none] (o.map encL) [] (D ρ :: (hs ++ [.lst []])) = .ok (o.map encL) (D ρ :: (hs ++ [.lst []])) := fun ρ => by
      refine comp_all encL encL trivial o (fun x _ => ?_) (by rw [sl7]; omega)
      simp only [EV]
    have i1 : ((hs ++ [MO.lst []]).length + 1) = hs.length + 2 := by simp
    simp only [b__law_wild, EV, e1, cp, i1]
    generalize hL : forLoop _ _ _ _ _ _ = o1
    obtain ⟨ρ', h', rfl, ds2, pl, c5, c6, g1, g2, _, rfl, rfl⟩ := for_nx encL (fun xs ρ h' => ∃ (ds2 : List Int) (pl : List LfI) (c5 c6 : Option MV), gI 4 pl ∧ pl.length + xs.length ≤ 40 ∧ (∀ x ∈ xs, x ∈ o) ∧ h' = D ds2 :: (hs ++ [.lst [], .lst (pl.map encI)]) ∧
      ρ = [some (.ref 0), some (.lst (o.map encL)), some (.ref (hs.length + 1)), some (.int (at0 : Int)), some (.ref (hs.length + 1 + 1)), c5, c6, none, none, none, none, none, none]) hL ⟨ds1, o.map toI, none, none, ⟨by omega, fun x hx => by
        obtain ⟨y, hy, rfl⟩ := List.mem_map.mp hx; exact V.g.row y hy⟩, by simp; omega, fun _ q => q, by rw [← encLs_I], rfl⟩ (fun _ _ _ _ => trivial) (by
      rintro x xs ρ h' ⟨ds2, pl, c5, c6, g1, g2, g3, rfl, rfl⟩
      obtain ⟨v, ds3, hv, e2⟩ := law_draw_ok ds2 (hs ++ [.lst [], .lst (pl.map encI)]) 3 (by omega)
      have q1 : (pl.map encI).length < sizeLine := by rw [sl7]; simp; omega
      have a1 : (D ds3 :: (hs ++ [.lst [], .lst (pl.map encI)]))[hs.length + 1 + 1]? = some (.lst (pl.map encI)) := by simp
      have a2 : (D ds3 :: (hs ++ [.lst [], .lst (pl.map encI)])).set (hs.length + 1 + 1) (.lst (pl.map encI ++ [encI (x.1 - 1 + (v : Int), x.2)])) = D ds3 :: (hs ++ [.lst [], .lst ((pl ++ [((x.1 : Int) - 1 + (v : Int), x.2)]).map encI)]) := by simp
      have xo := V.g.row x (g3 x (by simp))
      simp only [List.length_cons] at g2
      simp only [encI] at a2
      simp only [encL, EV, e2, a1, appK_e q1, a2]
      exact ⟨ds3, pl ++ [((x.1 : Int) - 1 + (v : Int), x.2)], _, _, ⟨g1.nle, fun y hy => by
        rcases List.mem_append.mp hy with q | q
        · exact g1.row y q
        · simp only [List.mem_singleton] at q; subst q; exact xo⟩, by simp; omega, fun y hy => g3 y (by simp [hy]), rfl, rfl⟩)
    simp only [List.length_nil, Nat.add_zero] at g2
    have q1 : (pl.map encI).length < sizeLine := by rw [sl7]; simp; omega
    have a1 : (D ds2 :: (hs ++ [.lst [], .lst (pl.map encI)]))[hs.length + 1 + 1]? = some (.lst (pl.map encI)) := by simp
    have a2 : (D ds2 :: (hs ++ [.lst [], .lst (pl.map encI)])).set (hs.length + 1 + 1) (.lst (pl.map encI ++ [.tup [.int 0, .tup []]])) = D ds2 :: (hs ++ [.lst [], .lst ((pl ++ [((0 : Int), [])]).map encI)]) := by simp [encI, encP]
    have g3 : gI 4 (pl ++ [((0 : Int), ([] : List Row))]) := ⟨g1.nle, fun y hy => by
      rcases List.mem_append.mp hy with q | q
      · exact g1.row y q
      · simp only [List.mem_singleton] at q; subst q; simp⟩
    have ple : (pl ++ [((0 : Int), ([] : List Row))]).length ≤ 41 := by simp; omega
    have pne : (pl ++ [((0 : Int), ([] : List Row))]).map encI ≠ [] := by simp
    generalize hpl : pl ++ [((0 : Int), ([] : List Row))] = pp at *
    obtain ⟨many, ds3, hmany, e3⟩ := law_draw_ok ds2 (hs ++ [.lst [], .lst (pp.map encI)]) 5 (by omega)
    have rr : -(2 ^ 62) ≤ (many : Int) ∧ (many : Int) < 2 ^ 62 := ⟨by omega, by omega⟩
    have rvp : ∀ x ∈ pp.map encI, Rv x := fun x hx => Rv.gdn (n := 30) (by omega) (g3.enc x hx)
    simp only [EV, a1, appK_e q1, a2, e3, rng1_e rr, Int.toNat_natCast]
    generalize hL2 : forLoop _ _ _ _ _ _ = o2
    obtain ⟨ρ', h', rfl, ks, ds4, atv, c7, c8, c9, c10, W, hk, rfl, rfl⟩ := for_rng (fun k ρ h' => ∃ (ks : List Hk) (ds4 : List Int) (atv : Int) (c7 c8 c9 c10 : Option MV), Wd ks ∧ ks.length = k ∧ h' = D ds4 :: (hs ++ [.lst (ks.map encH), .lst (pp.map encI)]) ∧
      ρ = [some (.ref 0), some (.lst (o.map encL)), some (.ref (hs.length + 1)), some (.int atv), some (.ref (hs.length + 1 + 1)), c5, c6, c7, c8, c9, c10, none, none]) hL2 ⟨[], ds3, at0, none, none, none, none, ⟨by simp, fun k hk => by simp at hk, by simp⟩, rfl, rfl, rfl⟩ (fun _ _ _ _ => trivial) (by
      rintro k ρ h' hk ⟨ks, ds4, atv, c7, c8, c9, c10, W, hkl, rfl, rfl⟩
      have sq : ∀ ds, seqOf (D ds :: (hs ++ [.lst (ks.map encH), .lst (pp.map encI)])) (.ref (hs.length + 1 + 1)) = some (pp.map encI) := fun ds => by rw [seqOf_r]; simp [refL]
      obtain ⟨m, ds5, hm, e5⟩ := law_draw_ok ds4 (hs ++ [.lst (ks.map encH), .lst (pp.map encI)]) 3 (by omega)
      -- what is taken
      have taken : ∃ (ts : List MV) (ds6 : List Int), ts.length ≤ 20 ∧ (∀ x ∈ ts, gd 30 x) ∧
          mIf (mAnd (mTest (mOp fGe (mVar 3) (mC (.int 0)))) (mTest (mOp fGt (mCall 2 m__law_draw (mCons (mVar 0) (mCons (mC (.int 4)) mNil))) (mC (.int 0)))))
            (mCB fTuple (mCons (mSl (mVar 1) (mPart (mVar 3)) (mPart (mOp fAdd (mVar 3) (mVar 8)))) mNil)) (mTup (mCons (mCall 2 m__law_pick (mCons (mVar 0) (mCons (mVar 4) mNil))) mNil))
            [some (.ref 0), some (.lst (o.map encL)), some (.ref (hs.length + 1)), some (.int atv), some (.ref (hs.length + 1 + 1)), c5, c6, some (.int (k : Int)), some (.int (m : Int)), c9, c10, none, none] (D ds5 :: (hs ++ [.lst (ks.map encH), .lst (pp.map encI)])) =
          .ok (.tup ts) (D ds6 :: (hs ++ [.lst (ks.map encH), .lst (pp.map encI)])) := by
        have pick : ∀ ds5, ∃ (ts : List MV) (ds6 : List Int), ts.length ≤ 20 ∧ (∀ x ∈ ts, gd 30 x) ∧ mTup (mCons (mCall 2 m__law_pick (mCons (mVar 0) (mCons (mVar 4) mNil))) mNil)
            [some (.ref 0), some (.lst (o.map encL)), some (.ref (hs.length + 1)), some (.int atv), some (.ref (hs.length + 1 + 1)), c5, c6, some (.int (k : Int)), some (.int (m : Int)), c9, c10, none, none] (D ds5 :: (hs ++ [.lst (ks.map encH), .lst (pp.map encI)])) =
            .ok (.tup ts) (D ds6 :: (hs ++ [.lst (ks.map encH), .lst (pp.map encI)])) := fun ds5 => by
          obtain ⟨x, ds6, hx, e6⟩ := law_pick_at ds5 _ _ _ sq pne rvp
          refine ⟨[x], ds6, by simp, fun y hy => by simp only [List.mem_singleton] at hy; subst hy; exact g3.enc _ hx, ?_⟩
          simp only [EV, e6]
        by_cases ca : 0 ≤ atv
        · obtain ⟨v, ds6, hv, e6⟩ := law_draw_ok ds5 (hs ++ [.lst (ks.map encH), .lst (pp.map encI)]) 4 (by omega)
          by_cases cv : (0 : Int) < (v : Int)
          · obtain ⟨t1, t2⟩ := cutM_mem (xs := o.map encL) (a := atv) (b := atv + (m : Int)) ca (by omega)
            refine ⟨cutM (o.map encL) (some atv) (some (atv + (m : Int))), ds6, by simp at t1; omega, fun x hx => go x (t2 x hx), ?_⟩
            simp only [EV, ca, e6, cv]
          · obtain ⟨ts, ds7, h1, h2, h3⟩ := pick ds6
            refine ⟨ts, ds7, h1, h2, ?_⟩
            simp only [EV] at h3
            simp only [EV, ca, e6, cv, h3]
        · obtain ⟨ts, ds7, h1, h2, h3⟩ := pick ds5
          refine ⟨ts, ds7, h1, h2, ?_⟩
          simp only [EV] at h3
          simp only [EV, ca, h3]
      obtain ⟨ts, ds6, t1, t2, e6⟩ := taken
      -- what is put
      obtain ⟨n2, ds7, hn2, e7⟩ := law_draw_ok ds6 (hs ++ [.lst (ks.map encH), .lst (pp.map encI)]) 3 (by omega)
      have rr2 : -(2 ^ 62) ≤ (n2 : Int) ∧ (n2 : Int) < 2 ^ 62 := ⟨by omega, by omega⟩
      obtain ⟨ps, ds8, p1, p2, e8⟩ := law_picks n2 (by omega) [some (.ref 0), some (.lst (o.map encL)), some (.ref (hs.length + 1)), some (.int atv), some (.ref (hs.length + 1 + 1)), c5, c6, some (.int (k : Int)), some (.int (m : Int)), some (.tup ts), c10, none, none] ds7 (hs ++ [.lst (ks.map encH), .lst (pp.map encI)])
        (mCall 2 m__law_pick (mCons (mVar 0) (mCons (mVar 4) mNil))) 12 _ _ sq pne rvp (fun k ds => by
          obtain ⟨x, ds', _, e9⟩ := law_pick_at ds _ _ _ sq pne rvp
          simp only [EV, e9])
      obtain ⟨y, ds9, hy, e9⟩ := law_pick_at ds8 (hs ++ [.lst (ks.map encH ++ [.tup [.int atv, .tup ts, .tup ps]]), .lst (pp.map encI)]) (.lst [.int 1, .int 2, .int 1, .int 0, .int 1, .int (-1)]) [.int 1, .int 2, .int 1, .int 0, .int 1, .int (-1)] (fun _ => rfl) (by simp) (fun x hx => by
        simp only [List.mem_cons, List.not_mem_nil, or_false] at hx
        rcases hx with rfl | rfl | rfl | rfl | rfl | rfl <;> exact Rv.int)
      obtain ⟨i, rfl⟩ : ∃ i, y = .int i := by
        simp only [List.mem_cons, List.not_mem_nil, or_false] at hy
        rcases hy with rfl | rfl | rfl | rfl | rfl | rfl <;> exact ⟨_, rfl⟩
      obtain ⟨w, ds10, hw, e10⟩ := law_draw_ok ds9 (hs ++ [.lst (ks.map encH ++ [.tup [.int atv, .tup ts, .tup ps]]), .lst (pp.map encI)]) 12 (by omega)
      have qk : (ks.map encH).length < sizeLine := by rw [sl7]; simp; omega
      have b1 : ∀ ds, (D ds :: (hs ++ [.lst (ks.map encH), .lst (pp.map encI)]))[hs.length + 1]? = some (.lst (ks.map encH)) := fun ds => by simp
      have b2 : ∀ ds, (D ds :: (hs ++ [.lst (ks.map encH), .lst (pp.map encI)])).set (hs.length + 1) (.lst (ks.map encH ++ [.tup [.int atv, .tup ts, .tup ps]])) = D ds :: (hs ++ [.lst (ks.map encH ++ [.tup [.int atv, .tup ts, .tup ps]]), .lst (pp.map encI)]) := fun ds => by simp
      have fin : ks.map encH ++ [.tup [.int atv, .tup ts, .tup ps]] = (ks ++ [(⟨atv, ts, ps⟩ : Hk)]).map encH := by simp [encH]
      obtain ⟨pI, pe, pg⟩ := map_of (P := fun y => y.2.length ≤ 4 ∧ ∀ c ∈ y.2, gd 28 (.tup c)) (xs := ps) fun x hx => by
        obtain ⟨y, hy, rfl⟩ := List.mem_map.mp (p2 x hx)
        exact ⟨y, rfl, g3.row y hy⟩
      have W' : Wd (ks ++ [(⟨atv, ts, ps⟩ : Hk)]) := W.snoc ⟨by simp only; omega, by simp only; omega, t2, fun x hx => g3.enc x (p2 x hx)⟩ ⟨pI, pe, by omega, pg⟩ (by simp only; omega)
      have e6' := e6
      simp only [EV] at e6'
      by_cases c7 : (w : Int) = 7
      · simp only [EV, e5, e6', e7, rng1_e rr2, Int.toNat_natCast, e8, b1, appK_e qk, b2, e9, e10, fEq_i, c7]
        exact ⟨_, ds10, _, _, _, _, _, W', by simp [hkl], by rw [fin], rfl⟩
      · simp only [EV, e5, e6', e7, rng1_e rr2, Int.toNat_natCast, e8, b1, appK_e qk, b2, e9, e10, fEq_i, c7]
        exact ⟨_, ds10, _, _, _, _, _, W', by simp [hkl], by rw [fin], rfl⟩)
    simp only [EV]
    exact ⟨ks, ds4, pp.map encI, by omega, W, rfl⟩
  obtain ⟨ks, ds', pool, h1, W, m1⟩ := main
  exact ⟨ks, ds', h1, W, cf_refD (k := 0) (l := [.lst (ks.map encH), .lst pool]) m1 rfl (F_gd (n := 32) (by omega) fun x hx => by
    obtain ⟨y, hy, rfl⟩ := List.mem_map.mp hx; exact gd_encH (W.oE y hy)) (by simp; omega)⟩
end PM
end

section
set_option Elab.async false
set_option linter.all false
set_option maxRecDepth 100000
set_option maxHeartbeats 4000000
namespace PM
open PySem L2 Mini
/-! ### a change whose lists are changed behind it -/
def bsOf : Nat → List Hk → List HB
  | _, [] => []
  | n, k :: ks => (k, .ref n, .ref (n + 1)) :: bsOf (n + 2) ks
def cellsH : List Hk → MH
  | [] => []
  | k :: ks => .lst k.taken :: .lst k.put :: cellsH ks
theorem cellsH_len : ∀ (hs : List Hk), (cellsH hs).length = 2 * hs.length
  | [] => rfl
  | k :: ks => by simp only [cellsH, List.length_cons, cellsH_len ks]; omega
theorem bsOf_1 : ∀ (hs : List Hk) (n : Nat), (bsOf n hs).map (·.1) = hs
  | [], _ => rfl
  | k :: ks, n => by simp [bsOf, bsOf_1 ks]
theorem bsOf_len : ∀ (hs : List Hk) (n : Nat), (bsOf n hs).length = hs.length
  | [], _ => rfl
  | k :: ks, n => by simp [bsOf, bsOf_len ks]
theorem bsOf_app : ∀ (hs : List Hk) (k : Hk) (n : Nat), bsOf n (hs ++ [k]) = bsOf n hs ++ [(k, .ref (n + 2 * hs.length), .ref (n + 2 * hs.length + 1))]
  | [], k, n => rfl
  | x :: hs, k, n => by simp only [List.cons_append, bsOf, bsOf_app hs k (n + 2), List.length_cons]; rw [show n + 2 + 2 * hs.length = n + 2 * (hs.length + 1) by omega]
theorem cellsH_app : ∀ (hs : List Hk) (k : Hk), cellsH (hs ++ [k]) = cellsH hs ++ [.lst k.taken, .lst k.put]
  | [], k => rfl
  | x :: hs, k => by simp only [List.cons_append, cellsH, cellsH_app hs k]
theorem bsOf_ref : ∀ (hs : List Hk) (n : Nat), ∀ b ∈ bsOf n hs, ∃ i, i + 1 < 2 * hs.length ∧ b.2.1 = .ref (n + i) ∧ b.2.2 = .ref (n + i + 1)
  | [], _, b, hb => by simp [bsOf] at hb
  | k :: ks, n, b, hb => by
    simp only [bsOf, List.mem_cons] at hb
    rcases hb with rfl | hb
    · exact ⟨0, by simp only [List.length_cons]; omega, rfl, rfl⟩
    · obtain ⟨i, h1, h2, h3⟩ := bsOf_ref ks (n + 2) b hb
      exact ⟨i + 2, by simp only [List.length_cons]; omega, by rw [h2]; congr 1; omega, by rw [h3]; congr 1; omega⟩
theorem bsOf_okB : ∀ (hs : List Hk) (h h2 : MH) (n : Nat), h.length = n → ∀ b ∈ bsOf n hs, okB (h ++ (cellsH hs ++ h2)) b
  | [], _, _, _, _, b, hb => by simp [bsOf] at hb
  | k :: ks, h, h2, n, hn, b, hb => by
    simp only [bsOf, List.mem_cons] at hb
    rcases hb with rfl | hb
    · subst hn
      refine ⟨?_, ?_⟩
      · simp only [seqOf_r, cellsH]; simp [refL]
      · simp only [seqOf_r, cellsH]; simp [refL]
    · have := bsOf_okB ks (h ++ [.lst k.taken, .lst k.put]) h2 (n + 2) (by simp [hn]) b hb
      simpa [cellsH] using this
theorem set_app {h l : MH} {i : Nat} {o : MO} : (h ++ l).set (h.length + i) o = h ++ l.set i o := by simp [List.set_append_right]
theorem law_handed_ok {hs : List Hk} {h : MH} (ok : okH (-1) hs) (oE : ∀ k ∈ hs, okE k) (hl : hs.length ≤ 1000) : m__law_handed [.tup (hs.map encH)] h = .ok (chg hs) h := by
  have main : ∃ l, mDef 6 1 b__law_handed [.tup (hs.map encH)] h = .ok (chg hs) (h ++ l) := by
    simp only [b__law_handed, EV]
    generalize hL : compLoop _ _ _ _ _ _ _ _ = o1
    obtain ⟨acc, h', rfl, done, ed, ea, rfl⟩ := comp_gen encH (fun xs acc h' => ∃ done, hs = done ++ xs ∧ acc = (bsOf h.length done).map encB ∧ h' = h ++ cellsH done) hL ⟨[], rfl, rfl, by simp [cellsH]⟩ (fun _ _ _ _ => trivial) (by
      rintro k ks acc h' ⟨done, ed, rfl, rfl⟩
      have l1 : (h ++ cellsH done).length = h.length + 2 * done.length := by rw [List.length_append, cellsH_len]
      have l2 : done.length ≤ 1000 := by have := congrArg List.length ed; simp at this; omega
      simp only [encH, EV, fListH_t, l1, List.length_append, List.length_cons, List.length_nil, Nat.zero_add]
      refine ⟨by rw [List.length_map, bsOf_len, sl7]; omega, done ++ [k], by rw [ed]; simp, ?_, ?_⟩
      · rw [bsOf_app, List.map_append, cellsH_len, ← Nat.add_assoc]; rfl
      · rw [cellsH_app])
    rw [List.append_nil] at ed
    subst ed
    subst ea
    have l1 : (h ++ cellsH hs).length = h.length + 2 * hs.length := by rw [List.length_append, cellsH_len]
    have cg := change_make (hv := .ref (h.length + 2 * hs.length)) (bs := bsOf h.length hs) (h := h ++ (cellsH hs ++ [.lst ((bsOf h.length hs).map encB)])) (by
      rw [seqOf_r, ← List.append_assoc, ← l1]; simp [refL]) (bsOf_okB hs h _ h.length rfl) (by rw [bsOf_1]; exact ok) (fun b hb => oE _ (by rw [← bsOf_1 hs h.length]; exact List.mem_map.mpr ⟨b, hb, rfl⟩)) (by rw [bsOf_len]; exact hl)
    rw [bsOf_1] at cg
    have hn : (h ++ (cellsH hs ++ [MO.lst ((bsOf h.length hs).map encB)]))[h.length + 2 * hs.length]? = some (.lst ((bsOf h.length hs).map encB)) := by
      rw [← List.append_assoc, ← l1]; simp
    simp only [EV, l1, List.append_assoc, cg, hn]
    generalize hL : forLoop _ _ _ _ _ _ = o1
    obtain ⟨ρ', h', rfl, l, d, c3, c4, c5, rfl, q1, q2, q3, q4, rfl⟩ := for_nx encB (fun xs ρ h' => ∃ (l : MH) (d : Nat) (c3 c4 c5 : Option MV), h' = h ++ l ∧ l[2 * hs.length]? = some (.lst ((bsOf h.length hs).map encB)) ∧ (∀ i, i < 2 * hs.length → ∃ t, l[i]? = some (.lst t) ∧ t.length ≤ 1000 + 2 * d) ∧ d + xs.length = hs.length ∧ (∀ b ∈ xs, b ∈ bsOf h.length hs) ∧
      ρ = [some (.tup (hs.map encH)), some (.ref (h.length + 2 * hs.length)), some (chg hs), c3, c4, c5]) hL ⟨cellsH hs ++ [.lst ((bsOf h.length hs).map encB)], 0, none, none, none, rfl, by rw [← cellsH_len]; simp, fun i hi => by
        rw [List.getElem?_append_left (by rw [cellsH_len]; exact hi)]
        have : ∀ (hs : List Hk), (∀ k ∈ hs, okE k) → ∀ i, i < 2 * hs.length → ∃ t, (cellsH hs)[i]? = some (.lst t) ∧ t.length ≤ 1000 := fun hs => by
          induction hs with
          | nil => intro _ i hi; simp at hi
          | cons k ks ih =>
            intro oE i hi
            match i with
            | 0 => exact ⟨_, rfl, (oE k (by simp)).1⟩
            | 1 => exact ⟨_, rfl, (oE k (by simp)).2.1⟩
            | i + 2 =>
              obtain ⟨t, t1, t2⟩ := ih (fun x hx => oE x (by simp [hx])) i (by simp only [List.length_cons] at hi; omega)
              exact ⟨t, by simpa [cellsH] using t1, t2⟩
        obtain ⟨t, t1, t2⟩ := this hs oE i hi
        exact ⟨t, t1, by omega⟩, by rw [bsOf_len]; omega, fun _ q => q, rfl⟩ (by
        rintro xs ρ h' ⟨l, d, c3, c4, c5, rfl, q1, q2, q3, q4, rfl⟩
        show (h ++ l)[h.length + 2 * hs.length]? = _
        rw [List.getElem?_append_right (by omega), Nat.add_sub_cancel_left]; exact q1) (by
      rintro b xs ρ h' ⟨l, d, c3, c4, c5, rfl, q1, q2, q3, q4, rfl⟩
      obtain ⟨i, hi, b1, b2⟩ := bsOf_ref hs h.length b (q4 b (by simp))
      obtain ⟨k, v1, v2⟩ := b
      simp only at b1 b2
      subst b1 b2
      obtain ⟨t, t1, t2⟩ := q2 i (by omega)
      obtain ⟨u, u1, u2⟩ := q2 (i + 1) (by omega)
      simp only [List.length_cons] at q3
      have e1 : (h ++ l)[h.length + i]? = some (.lst t) := by rw [List.getElem?_append_right (by omega), Nat.add_sub_cancel_left]; exact t1
      have s1 : t.length < sizeLine := by rw [sl7]; omega
      have s2 : u.length < sizeLine := by rw [sl7]; omega
      have e2 : ∀ o, (h ++ l.set i o)[h.length + i + 1]? = some (.lst u) := fun o => by
        rw [show h.length + i + 1 = h.length + (i + 1) by omega, List.getElem?_append_right (by omega), Nat.add_sub_cancel_left, List.getElem?_set_ne (by omega)]; exact u1
      have e3 : ∀ o, (h ++ l).set (h.length + i) o = h ++ l.set i o := fun o => set_app
      have e4 : ∀ l o, (h ++ l).set (h.length + i + 1) o = h ++ l.set (i + 1) o := fun l o => by rw [show h.length + i + 1 = h.length + (i + 1) by omega]; exact set_app
      simp only [encB, EV, e1, appK_e s1, e3, e2, appK_e s2, e4]
      refine ⟨_, d + 1, _, _, _, rfl, ?_, fun j hj => ?_, by omega, fun b hb => q4 b (by simp [hb]), rfl⟩
      · rw [List.getElem?_set_ne (by omega), List.getElem?_set_ne (by omega)]; exact q1
      · have lt : i < l.length := (List.getElem?_eq_some_iff.mp t1).1
        have lu : i + 1 < l.length := (List.getElem?_eq_some_iff.mp u1).1
        by_cases j1 : i + 1 = j
        · subst j1
          exact ⟨_, by simp [lu]; rfl, by simp; omega⟩
        · rw [List.getElem?_set_ne j1]
          by_cases j2 : i = j
          · subst j2
            exact ⟨_, by simp [lt]; rfl, by simp; omega⟩
          · rw [List.getElem?_set_ne j2]
            obtain ⟨w, w1, w2⟩ := q2 j hj
            exact ⟨w, w1, by omega⟩)
    have e1 : (h ++ l)[h.length + 2 * hs.length]? = some (.lst ((bsOf h.length hs).map encB)) := by rw [List.getElem?_append_right (by omega), Nat.add_sub_cancel_left]; exact q1
    have s1 : ((bsOf h.length hs).map encB).length < sizeLine := by rw [List.length_map, bsOf_len, sl7]; omega
    simp only [EV, e1, appK_e s1, set_app]
    exact ⟨_, rfl⟩
  obtain ⟨l, m1⟩ := main
  exact cf_ok m1 (rv_chg hl oE)
end PM
end

section
set_option Elab.async false
set_option linter.all false
set_option maxRecDepth 100000
set_option maxHeartbeats 4000000
namespace PM
open PySem L2 Mini
theorem hk_mem : ∀ (al : Al) (n : Nat) (tl : List MV), ∀ k ∈ hkOf n al, (∀ x ∈ k.taken, x ∈ src al tl) ∧ (∀ x ∈ k.put, x ∈ dst al tl)
  | [], _, _, k, hk => by simp [hkOf] at hk
  | (a, t, p) :: al, n, tl, k, hk => by
    simp only [hkOf, List.mem_cons] at hk
    rcases hk with rfl | hk
    · exact ⟨fun x hx => by simp only [src, List.mem_append]; exact .inr (.inl hx), fun x hx => by simp only [dst, List.mem_append]; exact .inr (.inl hx)⟩
    · obtain ⟨h1, h2⟩ := hk_mem al _ tl k hk
      exact ⟨fun x hx => by simp only [src, List.mem_append]; exact .inr (.inr (h1 x hx)), fun x hx => by simp only [dst, List.mem_append]; exact .inr (.inr (h2 x hx))⟩
theorem putN_hk : ∀ (al : Al) (n : Nat) (tl : List MV), putN (hkOf n al) ≤ (dst al tl).length
  | [], _, _ => by simp [hkOf, putN]
  | (a, t, p) :: al, n, tl => by
    have := putN_hk al (n + a.length + t.length) tl
    simp only [hkOf, putN_c, dst, List.length_append]; omega
theorem putI_of {o : List Lf} {xs : List MV} (V : VO 4 o) (h : ∀ x ∈ xs, x ∈ o.map encL) : ∃ p : List LfI, xs = p.map encI ∧ gI 4 p := by
  obtain ⟨p, p1, p2⟩ := map_of (P := fun y => y.2.length ≤ 4 ∧ ∀ c ∈ y.2, gd 28 (.tup c)) (xs := xs) fun x hx => by
    obtain ⟨y, hy, rfl⟩ := List.mem_map.mp (h x hx)
    exact ⟨toI y, rfl, V.g.row y hy⟩
  exact ⟨p, p1, by omega, p2⟩
theorem a_ok : PyData.strOk ("a" : Str) = true := by decide +kernel
theorem law_k62 (ns : List Int) (hn : ns.length ≤ 63) : ∃ h', m_law_k62 [scriptM ns] [] = .ok (.bl true) h' := by
  obtain ⟨ds0, e0⟩ := law_draws_ok ns hn
  obtain ⟨rs, names, ds1, okb, N, rl1, rl2, rnm, e1⟩ := law_book_ok ds0 [] 3 (by omega) (by omega)
  obtain ⟨count, ds2, c1, c2, e2⟩ := law_count_ok ds1 [] 4 (by omega)
  obtain ⟨s, ds3, sh, e3⟩ := law_shape_ok ds2 [] count c1 (by omega)
  obtain ⟨ks, ds4, kl, kk, e4⟩ := law_kinds_ok ds3 [] rs count okb (by omega) (by omega)
  have e5 := law_menus_ok (D ds4 :: []) rs ks okb (by omega) kk (by omega)
  have rne : rs ≠ [] := fun e => by rw [e] at rl1; simp at rl1
  let menus : List (List MV) := ks.map (membs rs)
  have em : (ks.map fun k => MV.lst (membs rs k)) = menus.map MV.lst := by simp [menus]
  rw [em] at e5
  have M : Mn count s menus := ⟨sh, c1, by omega, by simp [menus, kl], fun m hm => by
    obtain ⟨k, hk, rfl⟩ := List.mem_map.mp hm
    exact ⟨membs_ne okb rne (kk k hk), by have := membs_len okb k; omega, membs_gd okb k⟩⟩
  obtain ⟨o, ds5, ook, ol, ofit, e6⟩ := law_leafs_ok M ds4 [] 8 (by omega)
  obtain ⟨al, tl, new, ds6, nok, nfit, nl, sr, dr, ap, all, e7⟩ := law_edited_ok M ds5 [] o 4 ook ofit (by omega) (by omega)
  have V := vo_of M c2 ook ofit (by omega)
  have Vn := vo_of M c2 nok nfit (by omega)
  obtain ⟨ws, ds7, wl, W, e8⟩ := law_wild_ok ds6 [] V (by omega)
  have hl1 := V.len
  have hl2 := Vn.len
  have oA : okA al := okA_of al tl (by rw [sr]; omega) (by rw [dr]; omega) (by rw [sr]; exact V.gd) (by rw [dr]; exact Vn.gd)
  have hE := okE_hk al 0 oA
  have hO := okH_hk0 ap
  have mem := hk_mem al 0 tl
  rw [sr, dr] at mem
  have hpn := putN_hk al 0 tl
  rw [dr, List.length_map] at hpn
  have all2 : al.length ≤ 40 := by
    have := apt_len al ap
    have a1 := congrArg List.length sr
    have a2 := congrArg List.length dr
    rw [src_tl, List.length_append, List.length_map] at a1
    rw [dst_tl, List.length_append, List.length_map] at a2
    omega
  have R : RI o (hkOf 0 al) := ⟨V, hO, hE, by rw [len_hk]; omega, by omega, fun k hk => putI_of Vn (mem k hk).2⟩
  have hkl : (hkOf 0 al).length ≤ 1000 := by rw [len_hk]; omega
  have t1 := law_handed_ok (h := [D ds7]) hO hE hkl
  have t2 := law_right_ok (hv := .tup ((hkOf 0 al).map encH)) (h := [D ds7]) R rfl
  have t3 := changed_ok (h := [D ds7]) V Vn sr dr
  have f1 := law_form_ok (h := [D ds7]) V.g V.ok
  have f2 := law_form_ok (h := [D ds7]) Vn.g Vn.ok
  have s1 : m__law_same 200 [.lst ((treeOf new).map encT), .lst ((treeOf new).map encT)] [D ds7] = .ok (.bl true) [D ds7] := same_ok (gd_mono (by omega) (gd_form Vn.g))
  have s2 : m__law_same 200 [.tup [], .tup []] [D ds7] = .ok (.bl true) [D ds7] := same_ok (n := 200) (gd_tup (by simp) (by simp))
  have t4 : mkF 40 2 m_Change__init_ [.tup []] [D ds7] = .ok (chg []) [D ds7] := change_make0 (hs := []) (.tup []) rfl trivial (by simp) (by simp)
  have t5 := changed_ok (h := [D ds7]) Vn Vn (al := []) (tl := new.map encL) rfl rfl
  have ge : gd 30 (.tup [.int 0, .tup [.tup [.tup [.str "a", .int 0]]]]) := rv_I (x := ((0 : Int), [[MV.tup [.str "a", .int 0]]])) (by simp) (fun c hc => by
    simp only [List.mem_singleton] at hc
    subst hc
    refine gd_tup (by simp) fun y hy => ?_
    simp only [List.mem_singleton] at hy
    subst hy
    refine gd_tup (by simp) fun z hz => ?_
    simp only [List.mem_cons, List.not_mem_nil, or_false] at hz
    rcases hz with rfl | rfl
    · exact gd_str a_ok
    · exact gd_int)
  have u1 : m__law_refused [.lst [.tup [.int (-1), .tup [], .tup [.tup [.int 0, .tup [.tup [.tup [.str "a", .int 0]]]]]]]] [D ds7] = .ok (.bl true) [D ds7] :=
    refused_ok (hs := [⟨-1, [], [.tup [.int 0, .tup [.tup [.tup [.str "a", .int 0]]]]]⟩]) rfl (fun q => by have := q.1; simp at this) (fun b hb => by
      simp only [List.mem_singleton] at hb
      subst hb
      exact ⟨by simp, by simp, by simp, fun x hx => by simp only [List.mem_singleton] at hx; subst hx; exact ge⟩) (by simp)
  have u2 : m__law_refused [.lst [.tup [.int 0, .tup [], .tup []]]] [D ds7] = .ok (.bl true) [D ds7] :=
    refused_ok (hs := [⟨0, [], []⟩]) rfl (fun q => by have := q.2.2.1; simp at this) (fun b hb => by
      simp only [List.mem_singleton] at hb
      subst hb
      exact ⟨by simp, by simp, by simp, by simp⟩) (by simp)
  -- the wild hunks
  have wild : ∃ b : Bool, m__law_hunks_good [.lst (ws.map encH)] [D ds7] = .ok (.bl b) [D ds7] ∧ (b = false → m__law_refused [.lst (ws.map encH)] [D ds7] = .ok (.bl true) [D ds7]) ∧
      (b = true → mkF 40 2 m_Change__init_ [.lst (ws.map encH)] [D ds7] = .ok (chg ws) [D ds7] ∧ m__law_right [.lst (o.map encL), .lst (ws.map encH), chg ws] [D ds7] = .ok (.bl true) [D ds7]) := by
    by_cases wo : okH (-1) ws
    · refine ⟨true, hunks_good_l wo, (fun q => by cases q), fun _ => ⟨change_make0 (.lst (ws.map encH)) rfl wo W.oE (by omega), law_right_ok ⟨V, wo, W.oE, by omega, ?_, W.pI⟩ rfl⟩⟩
      have : ∀ l : List Hk, (∀ k ∈ l, k.put.length ≤ 2) → putN l ≤ 2 * l.length := fun l => by
        induction l with
        | nil => intro _; simp [putN]
        | cons k l ih =>
          intro h
          have h1 := ih fun x hx => h x (by simp [hx])
          have h2 := h k (by simp)
          rw [putN_c, List.length_cons]; omega
      have := this ws W.pl
      omega
    · exact ⟨false, hunks_bad_ok _ rfl wo, fun _ => refused_ok rfl wo W.oE (by omega), fun q => by cases q⟩
  obtain ⟨wb, w1, w2, w3⟩ := wild
  refine ⟨[], ?_⟩
  have main : ∃ l, mDef 16 1 b_law_k62 [scriptM ns] [] = .ok (.bl true) (D ds7 :: l) := by
    have e1' : m__law_book [.ref 0, .int 3] [D ds0] = .ok (.lst (rs.map encK)) [D ds1] := e1
    have e2' : m__law_count [.ref 0, .int 4] [D ds1] = .ok (.int (count : Int)) [D ds2] := e2
    have e6' : m__law_leafs [.ref 0, encS s, .lst (menus.map MV.lst), .int 8] [D ds4] = .ok (.lst (o.map encL)) [D ds5] := e6
    have e7' : m__law_edited [.ref 0, encS s, .lst (menus.map MV.lst), .lst (o.map encL), .int 4] [D ds5] = .ok (.tup [.tup ((hkOf 0 al).map encH), .lst (new.map encL)]) [D ds6] := e7
    simp only [hkOf] at t5
    have fin : ∀ ρ : En, ρ[6]? = some (some (.lst (o.map encL))) → ρ[9]? = some (some (.lst (ws.map encH))) → ∃ l, soOut (mSeq (mIte (mNot (mTest (mCall 1 m__law_hunks_good (mCons (mVar 9) mNil))))
        (mRet (mCall 1 m__law_refused (mCons (mVar 9) mNil))) mNext)
        (mRet (mCall 3 m__law_right (mCons (mVar 6) (mCons (mVar 9) (mCons (mMake 40 2 m_Change__init_ [] (mCons (mVar 9) mNil)) mNil))))) ρ [D ds7]) = .ok (.bl true) (D ds7 :: l) := fun ρ r6 r9 => by
      cases wb with
      | false =>
        simp only [EV, r9, w1, w2 rfl]
        exact ⟨[], rfl⟩
      | true =>
        obtain ⟨w4, w5⟩ := w3 rfl
        simp only [EV, r9, r6, w1, w4, w5]
        exact ⟨[], rfl⟩
    cases hc : hkOf 0 al with
    | nil =>
      rw [hc] at e7' t1 t2 t3
      simp only [List.map_nil] at e7' t1 t2
      have z : ¬ (0 : Int) < 0 := by omega
      simp only [b_law_k62, EV, e0, e1', e2', e3, e4, e5, e6', e7', e8, t1, t2, f1, t3, f2, s1, t4, insOf_chg, fldF_0, List.map_nil, s2, t5, u1, u2, z]
      have := fin [some (scriptM ns), some (.ref 0), some (.lst (rs.map encK)), some (.int (count : Int)), some (encS s), some (.lst (menus.map MV.lst)), some (.lst (o.map encL)), some (.tup []), some (.lst (new.map encL)), some (.lst (ws.map encH)), some (chg []), none, none, none, none, none] rfl rfl
      simp only [EV] at this
      exact this
    | cons k0 kr =>
      rw [hc] at e7' t1 t2 t3 hO hE mem hpn
      have k0E := hE k0 (by simp)
      have k0m := mem k0 (by simp)
      obtain ⟨o1, o2, o3, o4⟩ := hO
      have lp : (0 : Int) < (((k0 :: kr).map encH).length : Int) := by rw [List.map_cons]; exact lac
      let k1 : Hk := ⟨k0.pl + k0.taken.length, k0.put, k0.taken⟩
      let k2 : Hk := ⟨k0.pl + k0.taken.length + 1, k0.put, k0.taken⟩
      have swE : ∀ n : Int, okE ⟨n, k0.put, k0.taken⟩ := fun n => ⟨k0E.2.1, k0E.1, k0E.2.2.2, k0E.2.2.1⟩
      have r1 : m__law_refused [.lst [encH k0, .tup [.int (k0.pl + k0.taken.length), .tup k0.put, .tup k0.taken]]] [D ds7] = .ok (.bl true) [D ds7] :=
        refused_ok (hs := [k0, k1]) rfl (fun q => by
          have h1 : k0.pl + (k0.taken.length : Int) < k0.pl + k0.taken.length := q.2.2.2.1
          omega) (fun b hb => by
          simp only [List.mem_cons, List.not_mem_nil, or_false] at hb
          rcases hb with rfl | rfl
          · exact k0E
          · exact swE _) (by simp)
      have hE2 : ∀ b ∈ [k0, k2], okE b := fun b hb => by
        simp only [List.mem_cons, List.not_mem_nil, or_false] at hb
        rcases hb with rfl | rfl
        · exact k0E
        · exact swE _
      have ok2 : okH (-1) [k0, k2] := ⟨o1, o2, o3, by simp only [k2]; omega, by simp only [k2]; omega, by simp only [k2]; omega, trivial⟩
      have m1 : mkF 40 2 m_Change__init_ [.tup [encH k0, .tup [.int (k0.pl + k0.taken.length + 1), .tup k0.put, .tup k0.taken]]] [D ds7] = .ok (chg [k0, k2]) [D ds7] := change_make0 (hs := [k0, k2]) _ rfl ok2 hE2 (by simp)
      have ktl : k0.taken.length ≤ 8 := by
        have s2 := sr
        cases al with
        | nil => simp [hkOf] at hc
        | cons x al' =>
          obtain ⟨a, t, p⟩ := x
          simp only [hkOf, List.cons.injEq] at hc
          obtain ⟨rfl, _⟩ := hc
          have := congrArg List.length s2
          simp only [src, List.length_append, List.length_map] at this
          simp only; omega
      have R2 : RI o [k0, k2] := ⟨V, ok2, hE2, by simp, by
        have h1 : putN [k0, k2] = k0.put.length + k0.taken.length := by simp [putN, k2]
        rw [putN_c] at hpn
        omega, fun k hk => by
        simp only [List.mem_cons, List.not_mem_nil, or_false] at hk
        rcases hk with rfl | rfl
        · exact putI_of Vn k0m.2
        · exact putI_of V k0m.1⟩
      have r2 : m__law_right [.lst (o.map encL), .tup [encH k0, .tup [.int (k0.pl + k0.taken.length + 1), .tup k0.put, .tup k0.taken]], chg [k0, k2]] [D ds7] = .ok (.bl true) [D ds7] := law_right_ok R2 rfl
      have x0 : ∀ h, fIx (.tup ((k0 :: kr).map encH)) (.int 0) h = .ok (encH k0) h := fun h => by simp only [List.map_cons, EV]
      have eH : ∀ ρ : En, (Tg.tup [.name 11, .name 12, .name 13]).set (encH k0) ρ = some (((ρ.set 11 (some (.int k0.pl))).set 12 (some (.tup k0.taken))).set 13 (some (.tup k0.put))) := fun ρ => by simp only [encH, EV]
      simp only [b_law_k62, EV, e0, e1', e2', e3, e4, e5, e6', e7', e8, t1, t2, f1, t3, f2, s1, t4, insOf_chg, fldF_0, List.map_nil, s2, t5, u1, u2, lp, x0, eH, r1, m1, r2]
      have := fin [some (scriptM ns), some (.ref 0), some (.lst (rs.map encK)), some (.int (count : Int)), some (encS s), some (.lst (menus.map MV.lst)), some (.lst (o.map encL)), some (.tup ((k0 :: kr).map encH)), some (.lst (new.map encL)), some (.lst (ws.map encH)), some (chg (k0 :: kr)), some (.int k0.pl), some (.tup k0.taken), some (.tup k0.put), some (.int (k0.pl + k0.taken.length)), some (.tup [encH k0, .tup [.int (k0.pl + k0.taken.length + 1), .tup k0.put, .tup k0.taken]])] rfl rfl
      simp only [EV] at this
      exact this
  obtain ⟨l, m1⟩ := main
  exact cf m1 (Rv.bl.fz _ (by omega) _) (Rv.bl.lt _) (fun i hi => by simp at hi)
end PM
end

section
namespace K62
open PySem L2 Mini PM
theorem law_pure : ∀ ns : List Int, ns.length ≤ 63 → ∃ h', m_law_k62 [scriptM ns] [] = .ok (.bl true) h' := PM.law_k62
end K62
end

section
set_option Elab.async false
set_option linter.all false
set_option maxRecDepth 100000
set_option maxHeartbeats 4000000
/-! The walks: each def of the text keeps its small semantics (printed by gen.py). -/
namespace K62
open PySem L2 PyProof.Rows Mini PM
def top (i : Nat) : Stmt := PySem.Challenge.pw_changesalong_k62_changes_of_lists.main.body.getD i (.Pass ⟨0, 0, 0, 0⟩)
/-- what the text's top has written -/
structure Txt (K : PySem.W.Frag) (mg : Str → Option Value) (cl : List Addr) : Prop where
  b_bool : mg "bool" = none
  b_int : mg "int" = none
  b_isinstance : mg "isinstance" = none
  b_len : mg "len" = none
  b_list : mg "list" = none
  b_max : mg "max" = none
  b_min : mg "min" = none
  b_range : mg "range" = none
  b_str : mg "str" = none
  b_sum : mg "sum" = none
  b_tuple : mg "tuple" = none
  x_InvalidChange : ExcOk K mg cl 38 "InvalidChange"
  x_InvalidForm : ExcOk K mg cl 1 "InvalidForm"
  x_Unfit : ExcOk K mg cl 39 "Unfit"
  h_InvalidChange : HdlOk K mg cl 38 "InvalidChange"
  h_InvalidForm : HdlOk K mg cl 1 "InvalidForm"
  h_Unfit : HdlOk K mg cl 39 "Unfit"
  i_InvalidChange_FormroadsError : IsaOk K mg cl 38 0 "FormroadsError"
  i_InvalidChange_Unfit : IsaOk K mg cl 38 39 "Unfit"
  i_InvalidForm_Unfit : IsaOk K mg cl 1 39 "Unfit"
  i_Unfit_FormroadsError : IsaOk K mg cl 39 0 "FormroadsError"
  i_Unfit_InvalidForm : IsaOk K mg cl 39 1 "InvalidForm"
  d_Change : DflI K cl 40 ["self", "hunks"] [.tup []]
  iv_InvalidChange : IsbOk K mg cl 38 "ValueError" "ValueError"
  iv_InvalidForm : IsbOk K mg cl 1 "ValueError" "ValueError"
  c_Change : ClsOk K cl 40
  f_Change_hunks : FldOk K cl 40 "hunks"
abbrev s_add_leaves : Stmt := top 9
theorem sc_add_leaves : FnScope ["rows", "upper", "shared", "outline", "cells", "inner", "path"] ["rows", "upper", "shared", "outline"] (defScope s_add_leaves) := ⟨rfl, rfl, rfl, by decide +kernel, rfl, by decide +kernel, by decide +kernel⟩
theorem w_add_leaves {P : Program} {w : World} {K : PySem.W.Frag} {mg : Str → Option Value} {base : Heap} {cl : List Addr} (T : Txt K mg cl)  (A : At K mg "add_leaves" s_add_leaves ["rows", "upper", "shared", "outline"]) : ∀ n, Has P w K mg base cl (0 + n) "add_leaves" ["rows", "upper", "shared", "outline"] 4 (m_add_leaves n)
  | 0 => A.no
  | k + 1 => by
    have G := w_add_leaves (P := P) (w := w) (base := base) T  A k
    refine (has_def (P := P) (w := w) (base := base) (cl := cl) (k := 0 + k) (N := ["rows", "upper", "shared", "outline", "cells", "inner", "path"]) 7 A sc_add_leaves (body := b_add_leaves (m_add_leaves k)) rfl rfl fun f cdv A outer s H E hr => ?_).frz.cut
    have nd : (["rows", "upper", "shared", "outline", "cells", "inner", "path"] : List Str).Nodup := sc_add_leaves.nd
    have hr' := hr
    let N : List Str := ["rows", "upper", "shared", "outline", "cells", "inner", "path"]
    let sc := defScope s_add_leaves
    exact (ssOne (sFor (.tup [(.name 4), (.name 5)]) (passes_of rfl) rfl NoPin.none (iSeqR rfl (sv 0)) (gT rfl (gsC (gN 4 nd) (gsC (gN 5 nd) gsN)))
    (ssCons (sSet 6 NoPin.none nd (sOp op_addG op2_add (sv 1) (sTup (aCons (sTy call_tuple_of opa_tuple T.b_tuple (by decide +kernel) (aCons (sv 4) aNil)) aNil))))
    (ssCons (sIte (tCmp (op_eqD hr.units) op2_eq (sCB call_len opa_len T.b_len (by decide +kernel) (aCons (sv 5) aNil)) sInt (nomark _))
    (ssOne (sExpr (sLM rfl PySem.F.slot_list_append PySem.F.type_list_append mt_append opm_app (sv 3) (aCons (sTup (aCons (sv 2) (aCons (sv 6) aNil))) aNil))))
    (ssOne (sExpr (cCall G (takes_of rfl rfl rfl rfl) hr' (aCons (sv 5) (aCons (sv 6) (aCons (sv 2) (aCons (sv 3) aNil))))))))
    (ssOne (sSet 2 NoPin.none nd (sCB call_len opa_len T.b_len (by decide +kernel) (aCons (sv 1) aNil))))))))
abbrev s_outline_of : Stmt := top 8
theorem sc_outline_of : FnScope ["form", "outline"] ["form"] (defScope s_outline_of) := ⟨rfl, rfl, rfl, by decide +kernel, rfl, by decide +kernel, by decide +kernel⟩
theorem w_outline_of {P : Program} {w : World} {K : PySem.W.Frag} {mg : Str → Option Value} {base : Heap} {cl : List Addr} (T : Txt K mg cl) (G_add_leaves : ∀ n, Has P w K mg base cl (0 + n) "add_leaves" ["rows", "upper", "shared", "outline"] 4 (m_add_leaves n)) (A : At K mg "outline_of" s_outline_of ["form"]) : Has P w K mg base cl 71 "outline_of" ["form"] 1 m_outline_of := by
  refine (has_def (P := P) (w := w) (base := base) (cl := cl) (k := 70) (N := ["form", "outline"]) 2 A sc_outline_of (body := b_outline_of) rfl rfl fun f cdv A outer s H E hr => ?_).frz.cut
  have nd : (["form", "outline"] : List Str).Nodup := sc_outline_of.nd
  let N : List Str := ["form", "outline"]
  let sc := defScope s_outline_of
  exact (ssCons (sSet 1 NoPin.none nd (sCell aNil))
    (ssCons (sExpr (cCall (G_add_leaves 70) (takes_of rfl rfl rfl rfl) (hr.mono (by decide)) (aCons (sv 0) (aCons (sTup aNil) (aCons sInt (aCons (sv 1) aNil))))))
    (ssOne (sRet (sv 1)))))
abbrev s_check_outline : Stmt := top 10
theorem sc_check_outline : FnScope ["outline", "before", "branch", "path"] ["outline"] (defScope s_check_outline) := ⟨rfl, rfl, rfl, by decide +kernel, rfl, by decide +kernel, by decide +kernel⟩
theorem w_check_outline {P : Program} {w : World} {K : PySem.W.Frag} {mg : Str → Option Value} {base : Heap} {cl : List Addr} (T : Txt K mg cl)  (A : At K mg "check_outline" s_check_outline ["outline"]) : Has P w K mg base cl 1 "check_outline" ["outline"] 1 m_check_outline := by
  refine (has_def (P := P) (w := w) (base := base) (cl := cl) (k := 0) (N := ["outline", "before", "branch", "path"]) 4 A sc_check_outline (body := b_check_outline) rfl rfl fun f cdv A outer s H E hr => ?_).frz.cut
  have nd : (["outline", "before", "branch", "path"] : List Str).Nodup := sc_check_outline.nd
  let N : List Str := ["outline", "before", "branch", "path"]
  let sc := defScope s_check_outline
  exact (ssCons (sSet 1 NoPin.none nd sNon)
    (ssOne (sFor (.tup [(.name 2), (.name 3)]) (passes_of rfl) rfl NoPin.none (iSeqR rfl (sv 0)) (gT rfl (gsC (gN 2 nd) (gsC (gN 3 nd) gsN)))
    (ssCons (sIte (PW.pt (wOr (tCmp (op_eqD hr.units) op2_eq (sCB call_len opa_len T.b_len (by decide +kernel) (aCons (sv 3) aNil)) sInt (nomark _)) (pw_or1 (tCmp op_lt op2_lt (sv 2) sInt (nomark _)))))
    (ssOne (cRaise rfl (takes_of rfl rfl rfl rfl) T.x_InvalidForm))
    ssNil)
    (ssCons (sIte (PW.pt (wAnd (tCmp op_isN op2_is (sv 1) sNon (nomark _)) (pw_and1 (tCmp op_gt op2_gt (sv 2) sInt (nomark _)))))
    (ssOne (cRaise rfl (takes_of rfl rfl rfl rfl) T.x_InvalidForm))
    ssNil)
    (ssCons (sIte (PW.pt (wAnd (tCmp op_notN op2_isnt (sv 1) sNon (nomark _)) (pw_and1 (tCmp op_gt op2_gt (sv 2) (sOp op_sub op2_sub (sCB (call_min2 rfl) opa_min2 T.b_min (by decide +kernel) (aCons (sCB call_len opa_len T.b_len (by decide +kernel) (aCons (sv 1) aNil)) (aCons (sCB call_len opa_len T.b_len (by decide +kernel) (aCons (sv 3) aNil)) aNil))) sInt) (nomark _)))))
    (ssOne (cRaise rfl (takes_of rfl rfl rfl rfl) T.x_InvalidForm))
    ssNil)
    (ssCons (sIte (PW.pt (wAnd (tCmp op_notN op2_isnt (sv 1) sNon (nomark _)) (pw_and1 (tCmp (op_neD hr.units) op2_ne (sSl rfl (sv 3) oNone (oSome (sv 2))) (sSl rfl (sv 1) oNone (oSome (sv 2))) (nomark _)))))
    (ssOne (cRaise rfl (takes_of rfl rfl rfl rfl) T.x_InvalidForm))
    ssNil)
    (ssOne (sSet 1 NoPin.none nd (sv 3))))))))))
abbrev s_form_of : Stmt := top 11
theorem sc_form_of : FnScope ["outline", "form", "tables", "branch", "path", "cells", "inner"] ["outline"] (defScope s_form_of) := ⟨rfl, rfl, rfl, by decide +kernel, rfl, by decide +kernel, by decide +kernel⟩
theorem w_form_of {P : Program} {w : World} {K : PySem.W.Frag} {mg : Str → Option Value} {base : Heap} {cl : List Addr} (T : Txt K mg cl) (G_check_outline : Has P w K mg base cl 1 "check_outline" ["outline"] 1 m_check_outline) (A : At K mg "form_of" s_form_of ["outline"]) : Has P w K mg base cl 2 "form_of" ["outline"] 1 m_form_of := by
  refine (has_def (P := P) (w := w) (base := base) (cl := cl) (k := 1) (N := ["outline", "form", "tables", "branch", "path", "cells", "inner"]) 7 A sc_form_of (body := b_form_of) rfl rfl fun f cdv A outer s H E hr => ?_).frz.cut
  have nd : (["outline", "form", "tables", "branch", "path", "cells", "inner"] : List Str).Nodup := sc_form_of.nd
  let N : List Str := ["outline", "form", "tables", "branch", "path", "cells", "inner"]
  let sc := defScope s_form_of
  exact (ssCons (sExpr (cCall G_check_outline (takes_of rfl rfl rfl rfl) (hr.mono (by decide)) (aCons (sv 0) aNil)))
    (ssCons (sSet 1 NoPin.none nd (sCell aNil))
    (ssCons (sSet 2 NoPin.none nd (sCell (aCons (sv 1) aNil)))
    (ssCons (sFor (.tup [(.name 3), (.name 4)]) (passes_of rfl) rfl NoPin.none (iSeqR rfl (sv 0)) (gT rfl (gsC (gN 3 nd) (gsC (gN 4 nd) gsN)))
    (ssCons (sSet 2 NoPin.none nd (sSlH rfl (sv 2) oNone (oSome (sOp op_addG op2_add (sv 3) sInt))))
    (ssOne (sFor (.name 5) (passes_of rfl) rfl NoPin.none (iSeqR rfl (sSl rfl (sv 4) (oSome (sv 3)) oNone)) (gN 5 nd)
    (ssCons (sSet 6 NoPin.none nd (sCell aNil))
    (ssCons (sExpr (sLM rfl PySem.F.slot_list_append PySem.F.type_list_append mt_append opm_app (sIx ix_seq op2_ix (sv 2) (sUn un_neg op1_neg sInt)) (aCons (sTup (aCons (sv 5) (aCons (sv 6) aNil))) aNil)))
    (ssOne (sExpr (sLM rfl PySem.F.slot_list_append PySem.F.type_list_append mt_append opm_app (sv 2) (aCons (sv 6) aNil))))))))))
    (ssOne (sRet (sv 1)))))))
abbrev s_check_hunks : Stmt := top 13
theorem sc_check_hunks : FnScope ["hunks", "end", "at", "taken", "put"] ["hunks"] (defScope s_check_hunks) := ⟨rfl, rfl, rfl, by decide +kernel, rfl, by decide +kernel, by decide +kernel⟩
theorem w_check_hunks {P : Program} {w : World} {K : PySem.W.Frag} {mg : Str → Option Value} {base : Heap} {cl : List Addr} (T : Txt K mg cl)  (A : At K mg "check_hunks" s_check_hunks ["hunks"]) : Has P w K mg base cl 1 "check_hunks" ["hunks"] 1 m_check_hunks := by
  refine (has_def (P := P) (w := w) (base := base) (cl := cl) (k := 0) (N := ["hunks", "end", "at", "taken", "put"]) 5 A sc_check_hunks (body := b_check_hunks) rfl rfl fun f cdv A outer s H E hr => ?_).frz.cut
  have nd : (["hunks", "end", "at", "taken", "put"] : List Str).Nodup := sc_check_hunks.nd
  let N : List Str := ["hunks", "end", "at", "taken", "put"]
  let sc := defScope s_check_hunks
  exact (ssCons (sSet 1 NoPin.none nd (sUn un_neg op1_neg sInt))
    (ssOne (sFor (.tup [(.name 2), (.name 3), (.name 4)]) (passes_of rfl) rfl NoPin.none (iSeqR rfl (sv 0)) (gT rfl (gsC (gN 2 nd) (gsC (gN 3 nd) (gsC (gN 4 nd) gsN))))
    (ssCons (sIte (tCmp op_lt op2_lt (sv 2) sInt (nomark _))
    (ssOne (cRaise rfl (takes_of rfl rfl rfl rfl) T.x_InvalidChange))
    ssNil)
    (ssCons (sIte (tCmp (op_eqD hr.units) op2_eq (sOp op_addG op2_add (sCB call_len opa_len T.b_len (by decide +kernel) (aCons (sv 3) aNil)) (sCB call_len opa_len T.b_len (by decide +kernel) (aCons (sv 4) aNil))) sInt (nomark _))
    (ssOne (cRaise rfl (takes_of rfl rfl rfl rfl) T.x_InvalidChange))
    ssNil)
    (ssCons (sIte (tCmp op_le op2_le (sv 2) (sv 1) (nomark _))
    (ssOne (cRaise rfl (takes_of rfl rfl rfl rfl) T.x_InvalidChange))
    ssNil)
    (ssOne (sSet 1 NoPin.none nd (sOp op_addG op2_add (sv 2) (sCB call_len opa_len T.b_len (by decide +kernel) (aCons (sv 3) aNil)))))))))))
abbrev s_replaced : Stmt := top 18
theorem sc_replaced : FnScope ["entries", "hunks", "low", "found", "at", "place", "taken", "put"] ["entries", "hunks", "low"] (defScope s_replaced) := ⟨rfl, rfl, rfl, by decide +kernel, rfl, by decide +kernel, by decide +kernel⟩
theorem w_replaced {P : Program} {w : World} {K : PySem.W.Frag} {mg : Str → Option Value} {base : Heap} {cl : List Addr} (T : Txt K mg cl)  (A : At K mg "replaced" s_replaced ["entries", "hunks", "low"]) : Has P w K mg base cl 1 "replaced" ["entries", "hunks", "low"] 3 m_replaced := by
  refine (has_def (P := P) (w := w) (base := base) (cl := cl) (k := 0) (N := ["entries", "hunks", "low", "found", "at", "place", "taken", "put"]) 8 A sc_replaced (body := b_replaced) rfl rfl fun f cdv A outer s H E hr => ?_).frz.cut
  have nd : (["entries", "hunks", "low", "found", "at", "place", "taken", "put"] : List Str).Nodup := sc_replaced.nd
  let N : List Str := ["entries", "hunks", "low", "found", "at", "place", "taken", "put"]
  let sc := defScope s_replaced
  exact (ssCons (sSet 3 NoPin.none nd (sCell aNil))
    (ssCons (sSet 4 NoPin.none nd sInt)
    (ssCons (sFor (.tup [(.name 5), (.name 6), (.name 7)]) (passes_of rfl) rfl NoPin.none (iSeqR rfl (sv 1)) (gT rfl (gsC (gN 5 nd) (gsC (gN 6 nd) (gsC (gN 7 nd) gsN))))
    (ssCons (sExpr (sLM rfl PySem.F.slot_list_extend PySem.F.type_list_extend mt_extend opm_ext (sv 3) (aCons (sSl rfl (sv 0) (oSome (sv 4)) (oSome (sOp op_sub op2_sub (sv 5) (sv 2)))) aNil)))
    (ssCons (sExpr (sLM rfl PySem.F.slot_list_extend PySem.F.type_list_extend mt_extend opm_ext (sv 3) (aCons (sTy call_list_of opa_list T.b_list (by decide +kernel) (aCons (sv 7) aNil)) aNil)))
    (ssOne (sSet 4 NoPin.none nd (sOp op_addG op2_add (sOp op_sub op2_sub (sv 5) (sv 2)) (sCB call_len opa_len T.b_len (by decide +kernel) (aCons (sv 6) aNil))))))))
    (ssCons (sExpr (sLM rfl PySem.F.slot_list_extend PySem.F.type_list_extend mt_extend opm_ext (sv 3) (aCons (sSl rfl (sv 0) (oSome (sv 4)) oNone) aNil)))
    (ssOne (sRet (sv 3)))))))
abbrev s_Change__init_ : Stmt := inClass (top 19) 0
theorem sc_Change__init_ : FnScope ["self", "hunks", "at", "taken", "put"] ["self", "hunks"] (defScope s_Change__init_) := ⟨rfl, rfl, rfl, by decide +kernel, rfl, by decide +kernel, by decide +kernel⟩
theorem w_Change__init_ {P : Program} {w : World} {K : PySem.W.Frag} {mg : Str → Option Value} {base : Heap} {cl : List Addr} {dvs : List V} (T : Txt K mg cl) (G_check_hunks : Has P w K mg base cl 1 "check_hunks" ["hunks"] 1 m_check_hunks) (A : AtI K mg cl 40 "Change.__init__" "Change" s_Change__init_ ["self", "hunks"] dvs) : HasI P w K mg base cl 40 2 "Change" ["self", "hunks"] 2 m_Change__init_ := by
  refine (has_init (P := P) (w := w) (base := base) (cl := cl) (k := 1) (N := ["self", "hunks", "at", "taken", "put"]) 5 A sc_Change__init_ (body := b_Change__init_) rfl rfl fun f cdv A outer s H E hr => ?_).frz.cut
  have nd : (["self", "hunks", "at", "taken", "put"] : List Str).Nodup := sc_Change__init_.nd
  let N : List Str := ["self", "hunks", "at", "taken", "put"]
  let sc := defScope s_Change__init_
  exact (ssCons (cSetFld T.f_Change_hunks (sv 0) (sTy call_tuple_of opa_tuple T.b_tuple (by decide +kernel) (aCons (sLc (own := [("at", 2), ("taken", 3), ("put", 4)]) (.tup [(.name 2), (.name 3), (.name 4)]) (by decide) rfl nd (blkOk_by (N := N) (sc := sc) (by decide +kernel)) (iSeqR rfl (sv 1)) (fun _ _ _ _ _ => (gT rfl (gsC (gN 2 nd) (gsC (gN 3 nd) (gsC (gN 4 nd) gsN))))) (fun _ _ _ _ _ => qNil) (fun _ _ _ _ _ => (sTup (aCons (sv 2) (aCons (sTy call_tuple_of opa_tuple T.b_tuple (by decide +kernel) (aCons (sv 3) aNil)) (aCons (sTy call_tuple_of opa_tuple T.b_tuple (by decide +kernel) (aCons (sv 4) aNil)) aNil)))))) aNil)))
    (ssOne (sExpr (cCall G_check_hunks (takes_of rfl rfl rfl rfl) (hr.mono (by decide)) (aCons (cFld T.f_Change_hunks (sv 0)) aNil)))))
abbrev s_Change_growth : Stmt := inClass (top 19) 1
theorem sc_Change_growth : FnScope ["self", "at", "taken", "put"] ["self"] (defScope s_Change_growth) := ⟨rfl, rfl, rfl, by decide +kernel, rfl, by decide +kernel, by decide +kernel⟩
theorem w_Change_growth {P : Program} {w : World} {K : PySem.W.Frag} {mg : Str → Option Value} {base : Heap} {cl : List Addr} (T : Txt K mg cl)  (A : AtM K mg cl 40 "Change.growth" "growth" s_Change_growth ["self"]) : HasM P w K mg base cl 40 1 "growth" ["self"] 1 m_Change_growth := by
  refine (has_meth (P := P) (w := w) (base := base) (cl := cl) (k := 0) (N := ["self", "at", "taken", "put"]) 4 A sc_Change_growth (body := b_Change_growth) rfl rfl fun f cdv A outer s H E hr => ?_).frz.cut
  have nd : (["self", "at", "taken", "put"] : List Str).Nodup := sc_Change_growth.nd
  let N : List Str := ["self", "at", "taken", "put"]
  let sc := defScope s_Change_growth
  exact (ssOne (sRet (sCB (cr_sum rfl) opa_sum T.b_sum (by decide +kernel) (aCons (sLc (own := [("at", 1), ("taken", 2), ("put", 3)]) (.tup [(.name 1), (.name 2), (.name 3)]) (by decide) rfl nd (blkOk_by (N := N) (sc := sc) (by decide +kernel)) (iSeqR rfl (cFld T.f_Change_hunks (sv 0))) (fun _ _ _ _ _ => (gT rfl (gsC (gN 1 nd) (gsC (gN 2 nd) (gsC (gN 3 nd) gsN))))) (fun _ _ _ _ _ => qNil) (fun _ _ _ _ _ => (sOp op_sub op2_sub (sCB call_len opa_len T.b_len (by decide +kernel) (aCons (sv 3) aNil)) (sCB call_len opa_len T.b_len (by decide +kernel) (aCons (sv 2) aNil))))) aNil))))
abbrev s_Change_touched : Stmt := inClass (top 19) 2
theorem sc_Change_touched : FnScope ["self", "at", "taken", "put"] ["self"] (defScope s_Change_touched) := ⟨rfl, rfl, rfl, by decide +kernel, rfl, by decide +kernel, by decide +kernel⟩
theorem w_Change_touched {P : Program} {w : World} {K : PySem.W.Frag} {mg : Str → Option Value} {base : Heap} {cl : List Addr} (T : Txt K mg cl)  (A : AtM K mg cl 40 "Change.touched" "touched" s_Change_touched ["self"]) : HasM P w K mg base cl 40 1 "touched" ["self"] 1 m_Change_touched := by
  refine (has_meth (P := P) (w := w) (base := base) (cl := cl) (k := 0) (N := ["self", "at", "taken", "put"]) 4 A sc_Change_touched (body := b_Change_touched) rfl rfl fun f cdv A outer s H E hr => ?_).frz.cut
  have nd : (["self", "at", "taken", "put"] : List Str).Nodup := sc_Change_touched.nd
  let N : List Str := ["self", "at", "taken", "put"]
  let sc := defScope s_Change_touched
  exact (ssOne (sRet (sCB (cr_sum rfl) opa_sum T.b_sum (by decide +kernel) (aCons (sLc (own := [("at", 1), ("taken", 2), ("put", 3)]) (.tup [(.name 1), (.name 2), (.name 3)]) (by decide) rfl nd (blkOk_by (N := N) (sc := sc) (by decide +kernel)) (iSeqR rfl (cFld T.f_Change_hunks (sv 0))) (fun _ _ _ _ _ => (gT rfl (gsC (gN 1 nd) (gsC (gN 2 nd) (gsC (gN 3 nd) gsN))))) (fun _ _ _ _ _ => qNil) (fun _ _ _ _ _ => (sOp op_addG op2_add (sCB call_len opa_len T.b_len (by decide +kernel) (aCons (sv 3) aNil)) (sCB call_len opa_len T.b_len (by decide +kernel) (aCons (sv 2) aNil))))) aNil))))
abbrev s_Change_contrary : Stmt := inClass (top 19) 3
theorem sc_Change_contrary : FnScope ["self", "hunks", "growth", "at", "taken", "put"] ["self"] (defScope s_Change_contrary) := ⟨rfl, rfl, rfl, by decide +kernel, rfl, by decide +kernel, by decide +kernel⟩
theorem w_Change_contrary {P : Program} {w : World} {K : PySem.W.Frag} {mg : Str → Option Value} {base : Heap} {cl : List Addr} (T : Txt K mg cl) (G_Change__init_ : HasI P w K mg base cl 40 2 "Change" ["self", "hunks"] 2 m_Change__init_) (A : AtM K mg cl 40 "Change.contrary" "contrary" s_Change_contrary ["self"]) : HasM P w K mg base cl 40 4 "contrary" ["self"] 1 m_Change_contrary := by
  refine (has_meth (P := P) (w := w) (base := base) (cl := cl) (k := 3) (N := ["self", "hunks", "growth", "at", "taken", "put"]) 6 A sc_Change_contrary (body := b_Change_contrary) rfl rfl fun f cdv A outer s H E hr => ?_).frz.cut
  have nd : (["self", "hunks", "growth", "at", "taken", "put"] : List Str).Nodup := sc_Change_contrary.nd
  let N : List Str := ["self", "hunks", "growth", "at", "taken", "put"]
  let sc := defScope s_Change_contrary
  exact (ssCons (sSet 1 NoPin.none nd (sCell aNil))
    (ssCons (sSet 2 NoPin.none nd sInt)
    (ssCons (sFor (.tup [(.name 3), (.name 4), (.name 5)]) (passes_of rfl) rfl NoPin.none (iSeqR rfl (cFld T.f_Change_hunks (sv 0))) (gT rfl (gsC (gN 3 nd) (gsC (gN 4 nd) (gsC (gN 5 nd) gsN))))
    (ssCons (sExpr (sLM rfl PySem.F.slot_list_append PySem.F.type_list_append mt_append opm_app (sv 1) (aCons (sTup (aCons (sOp op_addG op2_add (sv 3) (sv 2)) (aCons (sv 5) (aCons (sv 4) aNil)))) aNil)))
    (ssOne (sAug 2 NoPin.none nd (sOp op_sub op2_sub (sCB call_len opa_len T.b_len (by decide +kernel) (aCons (sv 5) aNil)) (sCB call_len opa_len T.b_len (by decide +kernel) (aCons (sv 4) aNil))) ip_add opi_add))))
    (ssOne (sRet (cMake G_Change__init_ (takes_of rfl rfl rfl rfl) (hr.mono (by decide)) (aCons (sv 1) aNil)))))))
abbrev s_spliced : Stmt := top 20
theorem sc_spliced : FnScope ["entries", "change", "at", "taken", "put"] ["entries", "change"] (defScope s_spliced) := ⟨rfl, rfl, rfl, by decide +kernel, rfl, by decide +kernel, by decide +kernel⟩
theorem w_spliced {P : Program} {w : World} {K : PySem.W.Frag} {mg : Str → Option Value} {base : Heap} {cl : List Addr} (T : Txt K mg cl) (G_replaced : Has P w K mg base cl 1 "replaced" ["entries", "hunks", "low"] 3 m_replaced) (A : At K mg "spliced" s_spliced ["entries", "change"]) : Has P w K mg base cl 2 "spliced" ["entries", "change"] 2 m_spliced := by
  refine (has_def (P := P) (w := w) (base := base) (cl := cl) (k := 1) (N := ["entries", "change", "at", "taken", "put"]) 5 A sc_spliced (body := b_spliced) rfl rfl fun f cdv A outer s H E hr => ?_).frz.cut
  have nd : (["entries", "change", "at", "taken", "put"] : List Str).Nodup := sc_spliced.nd
  let N : List Str := ["entries", "change", "at", "taken", "put"]
  let sc := defScope s_spliced
  exact (ssCons (sSet 0 NoPin.none nd (sTy call_list_of opa_list T.b_list (by decide +kernel) (aCons (sv 0) aNil)))
    (ssCons (sFor (.tup [(.name 2), (.name 3), (.name 4)]) (passes_of rfl) rfl NoPin.none (iSeqR rfl (cFld T.f_Change_hunks (sv 1))) (gT rfl (gsC (gN 2 nd) (gsC (gN 3 nd) (gsC (gN 4 nd) gsN))))
    (ssOne (sIte (PW.pt (wOr (tCmp op_gt op2_gt (sv 2) (sCB call_len opa_len T.b_len (by decide +kernel) (aCons (sv 0) aNil)) (nomark _)) (pw_or1 (tCmp (op_neD hr.units) op2_ne (sSl rfl (sv 0) (oSome (sv 2)) (oSome (sOp op_addG op2_add (sv 2) (sCB call_len opa_len T.b_len (by decide +kernel) (aCons (sv 3) aNil))))) (sTy call_list_of opa_list T.b_list (by decide +kernel) (aCons (sv 3) aNil)) (nomark _)))))
    (ssOne (cRaise rfl (takes_of rfl rfl rfl rfl) T.x_Unfit))
    ssNil)))
    (ssOne (sRet (cCall G_replaced (takes_of rfl rfl rfl rfl) (hr.mono (by decide)) (aCons (sv 0) (aCons (cFld T.f_Change_hunks (sv 1)) (aCons sInt aNil))))))))
abbrev s_changed : Stmt := top 21
theorem sc_changed : FnScope ["form", "change"] ["form", "change"] (defScope s_changed) := ⟨rfl, rfl, rfl, by decide +kernel, rfl, by decide +kernel, by decide +kernel⟩
theorem w_changed {P : Program} {w : World} {K : PySem.W.Frag} {mg : Str → Option Value} {base : Heap} {cl : List Addr} (T : Txt K mg cl) (G_form_of : Has P w K mg base cl 2 "form_of" ["outline"] 1 m_form_of) (G_spliced : Has P w K mg base cl 2 "spliced" ["entries", "change"] 2 m_spliced) (G_outline_of : Has P w K mg base cl 71 "outline_of" ["form"] 1 m_outline_of) (A : At K mg "changed" s_changed ["form", "change"]) : Has P w K mg base cl 72 "changed" ["form", "change"] 2 m_changed := by
  refine (has_def (P := P) (w := w) (base := base) (cl := cl) (k := 71) (N := ["form", "change"]) 2 A sc_changed (body := b_changed) rfl rfl fun f cdv A outer s H E hr => ?_).frz.cut
  have nd : (["form", "change"] : List Str).Nodup := sc_changed.nd
  let N : List Str := ["form", "change"]
  let sc := defScope s_changed
  exact (ssOne (sRet (cCall G_form_of (takes_of rfl rfl rfl rfl) (hr.mono (by decide)) (aCons (cCall G_spliced (takes_of rfl rfl rfl rfl) (hr.mono (by decide)) (aCons (cCall G_outline_of (takes_of rfl rfl rfl rfl) (hr.mono (by decide)) (aCons (sv 0) aNil)) (aCons (sv 1) aNil))) aNil))))
abbrev s__law_draws : Stmt := top 23
theorem sc__law_draws : FnScope ["script", "draws", "cell", "rest", "k"] ["script"] (defScope s__law_draws) := ⟨rfl, rfl, rfl, by decide +kernel, rfl, by decide +kernel, by decide +kernel⟩
theorem w__law_draws {P : Program} {w : World} {K : PySem.W.Frag} {mg : Str → Option Value} {base : Heap} {cl : List Addr} (T : Txt K mg cl)  (A : At K mg "_law_draws" s__law_draws ["script"]) : Has P w K mg base cl 1 "_law_draws" ["script"] 1 m__law_draws := by
  refine (has_def (P := P) (w := w) (base := base) (cl := cl) (k := 0) (N := ["script", "draws", "cell", "rest", "k"]) 5 A sc__law_draws (body := b__law_draws) rfl rfl fun f cdv A outer s H E hr => ?_)
  have nd : (["script", "draws", "cell", "rest", "k"] : List Str).Nodup := sc__law_draws.nd
  let N : List Str := ["script", "draws", "cell", "rest", "k"]
  let sc := defScope s__law_draws
  exact (ssCons (sSet 1 NoPin.none nd (sCell aNil))
    (ssCons (sFor (.name 2) (passes_of rfl) rfl NoPin.none (iSeqR rfl (sv 0)) (gN 2 nd)
    (ssCons (sSet 3 NoPin.none nd (sTy call_int1 opa_int T.b_int (by decide +kernel) (aCons (sv 2) aNil)))
    (ssOne (sIte (tChn op_le op_lt op2_le op2_lt sInt (sv 3) sInt)
    (ssOne (sExpr (sLM rfl PySem.F.slot_list_append PySem.F.type_list_append mt_append opm_app (sv 1) (aCons (sv 3) aNil))))
    (ssOne (sIte (tCmp op_ge op2_ge (sv 3) (sOp op_pow op2_pow sInt sInt) (nomark _))
    (ssOne (sFor (.name 4) (passes_of rfl) rfl NoPin.none (iRng1R T.b_range (aCons sInt aNil)) (gN 4 nd)
    (ssOne (sIte (tCmp op_gt op2_gt (sv 3) sInt (nomark _))
    (ssCons (sExpr (sLM rfl PySem.F.slot_list_append PySem.F.type_list_append mt_append opm_app (sv 1) (aCons (sOp op_mod op2_mod (sTy call_int1 opa_int T.b_int (by decide +kernel) (aCons (sv 3) aNil)) sInt) aNil)))
    (ssOne (sSet 3 NoPin.none nd (sOp op_fdiv op2_div (sv 3) sInt))))
    ssNil))))
    (ssCons (sSet 3 NoPin.none nd (sOp op_mod op2_mod (sTy call_int1 opa_int T.b_int (by decide +kernel) (aCons (sOp op_mulG op2_mul (sv 3) sInt) aNil)) sInt))
    (ssOne (sFor (.name 4) (passes_of rfl) rfl NoPin.none (iRng1R T.b_range (aCons sInt aNil)) (gN 4 nd)
    (ssCons (sSet 3 NoPin.none nd (sOp op_mod op2_mod (sTy call_int1 opa_int T.b_int (by decide +kernel) (aCons (sOp op_mulG op2_mul (sv 3) sInt) aNil)) sInt))
    (ssOne (sExpr (sLM rfl PySem.F.slot_list_append PySem.F.type_list_append mt_append opm_app (sv 1) (aCons (sOp op_mod op2_mod (sTy call_int1 opa_int T.b_int (by decide +kernel) (aCons (sOp op_fdiv op2_div (sv 3) sInt) aNil)) sInt) aNil))))))))))))))
    (ssCons (sExpr (sLM0 rfl PySem.F.slot_list_reverse PySem.F.type_list_reverse mt_reverse opm_rev (sv 1)))
    (ssOne (sRet (sv 1))))))
abbrev s__law_draw : Stmt := top 24
theorem sc__law_draw : FnScope ["draws", "many"] ["draws", "many"] (defScope s__law_draw) := ⟨rfl, rfl, rfl, by decide +kernel, rfl, by decide +kernel, by decide +kernel⟩
theorem w__law_draw {P : Program} {w : World} {K : PySem.W.Frag} {mg : Str → Option Value} {base : Heap} {cl : List Addr} (T : Txt K mg cl)  (A : At K mg "_law_draw" s__law_draw ["draws", "many"]) : Has P w K mg base cl 1 "_law_draw" ["draws", "many"] 2 m__law_draw := by
  refine (has_def (P := P) (w := w) (base := base) (cl := cl) (k := 0) (N := ["draws", "many"]) 2 A sc__law_draw (body := b__law_draw) rfl rfl fun f cdv A outer s H E hr => ?_).frz.cut
  have nd : (["draws", "many"] : List Str).Nodup := sc__law_draw.nd
  let N : List Str := ["draws", "many"]
  let sc := defScope s__law_draw
  exact (ssCons (sIte (tCmp (op_eqD hr.units) op2_eq (sCB call_len opa_len T.b_len (by decide +kernel) (aCons (sv 0) aNil)) sInt (nomark _))
    (ssOne (sRet sInt))
    ssNil)
    (ssOne (sRet (sOp op_mod op2_mod (sTy call_int1 opa_int T.b_int (by decide +kernel) (aCons (sLM0 rfl PySem.F.slot_list_pop PySem.F.type_list_pop mt_pop opm_pop (sv 0)) aNil)) (sv 1)))))
abbrev s__law_pick : Stmt := top 25
theorem sc__law_pick : FnScope ["draws", "things"] ["draws", "things"] (defScope s__law_pick) := ⟨rfl, rfl, rfl, by decide +kernel, rfl, by decide +kernel, by decide +kernel⟩
theorem w__law_pick {P : Program} {w : World} {K : PySem.W.Frag} {mg : Str → Option Value} {base : Heap} {cl : List Addr} (T : Txt K mg cl) (G__law_draw : Has P w K mg base cl 1 "_law_draw" ["draws", "many"] 2 m__law_draw) (A : At K mg "_law_pick" s__law_pick ["draws", "things"]) : Has P w K mg base cl 2 "_law_pick" ["draws", "things"] 2 m__law_pick := by
  refine (has_def (P := P) (w := w) (base := base) (cl := cl) (k := 1) (N := ["draws", "things"]) 2 A sc__law_pick (body := b__law_pick) rfl rfl fun f cdv A outer s H E hr => ?_).frz.cut
  have nd : (["draws", "things"] : List Str).Nodup := sc__law_pick.nd
  let N : List Str := ["draws", "things"]
  let sc := defScope s__law_pick
  exact (ssOne (sRet (sIx ix_seq op2_ix (sv 1) (cCall G__law_draw (takes_of rfl rfl rfl rfl) (hr.mono (by decide)) (aCons (sv 0) (aCons (sCB call_len opa_len T.b_len (by decide +kernel) (aCons (sv 1) aNil)) aNil))))))
abbrev s__law_same : Stmt := top 26
theorem sc__law_same : FnScope ["actual", "due", "k"] ["actual", "due"] (defScope s__law_same) := ⟨rfl, rfl, rfl, by decide +kernel, rfl, by decide +kernel, by decide +kernel⟩
theorem w__law_same {P : Program} {w : World} {K : PySem.W.Frag} {mg : Str → Option Value} {base : Heap} {cl : List Addr} (T : Txt K mg cl)  (A : At K mg "_law_same" s__law_same ["actual", "due"]) : ∀ n, Has P w K mg base cl (0 + n) "_law_same" ["actual", "due"] 2 (m__law_same n)
  | 0 => A.no
  | k + 1 => by
    have G := w__law_same (P := P) (w := w) (base := base) T  A k
    refine (has_def (P := P) (w := w) (base := base) (cl := cl) (k := 0 + k) (N := ["actual", "due", "k"]) 3 A sc__law_same (body := b__law_same (m__law_same k)) rfl rfl fun f cdv A outer s H E hr => ?_).frz.cut
    have nd : (["actual", "due", "k"] : List Str).Nodup := sc__law_same.nd
    have hr' := hr
    let N : List Str := ["actual", "due", "k"]
    let sc := defScope s__law_same
    exact (ssCons (sIte (PW.pt (wOr (tVal (sIsi (T := .bl) rfl rfl T.b_isinstance (sv 1) (pe_bltn rfl T.b_bool (by decide +kernel) rfl))) (pw_or1 (tVal (sIsi (T := .bl) rfl rfl T.b_isinstance (sv 0) (pe_bltn rfl T.b_bool (by decide +kernel) rfl))))))
    (ssOne (sRet (sAnd (sIsi (T := .bl) rfl rfl T.b_isinstance (sv 1) (pe_bltn rfl T.b_bool (by decide +kernel) rfl)) (sAnd (sIsi (T := .bl) rfl rfl T.b_isinstance (sv 0) (pe_bltn rfl T.b_bool (by decide +kernel) rfl)) (pe_one (sCmp (op_eqD hr.units) op2_eq (sv 0) (sv 1) (nomark _)))))))
    ssNil)
    (ssCons (sIte (PW.pt (wOr (tCmp op_isN op2_is (sv 1) sNon (nomark _)) (pw_or1 (tCmp op_isN op2_is (sv 0) sNon (nomark _)))))
    (ssOne (sRet (sAnd (sCmp op_isN op2_is (sv 1) sNon (nomark _)) (pe_one (sCmp op_isN op2_is (sv 0) sNon (nomark _))))))
    ssNil)
    (ssCons (sIte (tVal (sIsi (T := .int) rfl rfl T.b_isinstance (sv 1) (pe_bltn rfl T.b_int (by decide +kernel) rfl)))
    (ssOne (sRet (sAnd (sIsi (T := .int) rfl rfl T.b_isinstance (sv 0) (pe_bltn rfl T.b_int (by decide +kernel) rfl)) (pe_one (sCmp (op_eqD hr.units) op2_eq (sv 0) (sv 1) (nomark _))))))
    ssNil)
    (ssCons (sIte (tVal (sIsi (T := .str) rfl rfl T.b_isinstance (sv 1) (pe_bltn rfl T.b_str (by decide +kernel) rfl)))
    (ssOne (sRet (sAnd (sIsi (T := .str) rfl rfl T.b_isinstance (sv 0) (pe_bltn rfl T.b_str (by decide +kernel) rfl)) (pe_one (sCmp (op_eqD hr.units) op2_eq (sv 0) (sv 1) (nomark _))))))
    ssNil)
    (ssCons (sIte (PW.pt (wAnd (tVal (sIsi (T := .tup) rfl rfl T.b_isinstance (sv 1) (pe_bltn rfl T.b_tuple (by decide +kernel) rfl))) (pw_and1 (tNt (tVal (sIsi (T := .tup) rfl rfl T.b_isinstance (sv 0) (pe_bltn rfl T.b_tuple (by decide +kernel) rfl)))))))
    (ssOne (sRet sBl))
    ssNil)
    (ssCons (sIte (PW.pt (wAnd (tVal (sIsi (T := .lst) rfl rfl T.b_isinstance (sv 1) (pe_bltn rfl T.b_list (by decide +kernel) rfl))) (pw_and1 (tNt (tVal (sIsi (T := .lst) rfl rfl T.b_isinstance (sv 0) (pe_bltn rfl T.b_list (by decide +kernel) rfl)))))))
    (ssOne (sRet sBl))
    ssNil)
    (ssCons (sIte (tCmp (op_neD hr.units) op2_ne (sCB call_len opa_len T.b_len (by decide +kernel) (aCons (sv 0) aNil)) (sCB call_len opa_len T.b_len (by decide +kernel) (aCons (sv 1) aNil)) (nomark _))
    (ssOne (sRet sBl))
    ssNil)
    (ssCons (sFor (.name 2) (passes_of rfl) rfl NoPin.none (iRng1R T.b_range (aCons (sCB call_len opa_len T.b_len (by decide +kernel) (aCons (sv 1) aNil)) aNil)) (gN 2 nd)
    (ssOne (sIte (tNt (tVal (cCall G (takes_of rfl rfl rfl rfl) hr' (aCons (sIx ix_seq op2_ix (sv 0) (sv 2)) (aCons (sIx ix_seq op2_ix (sv 1) (sv 2)) aNil)))))
    (ssOne (sRet sBl))
    ssNil)))
    (ssOne (sRet sBl))))))))))
abbrev s__law_names : Stmt := top 27
theorem sc__law_names : FnScope ["draws", "many", "letters", "start", "step", "ahead", "behind", "names", "k"] ["draws", "many"] (defScope s__law_names) := ⟨rfl, rfl, rfl, by decide +kernel, rfl, by decide +kernel, by decide +kernel⟩
theorem w__law_names {P : Program} {w : World} {K : PySem.W.Frag} {mg : Str → Option Value} {base : Heap} {cl : List Addr} (T : Txt K mg cl) (G__law_draw : Has P w K mg base cl 1 "_law_draw" ["draws", "many"] 2 m__law_draw) (G__law_pick : Has P w K mg base cl 2 "_law_pick" ["draws", "things"] 2 m__law_pick) (A : At K mg "_law_names" s__law_names ["draws", "many"]) : Has P w K mg base cl 3 "_law_names" ["draws", "many"] 2 m__law_names := by
  refine (has_def (P := P) (w := w) (base := base) (cl := cl) (k := 2) (N := ["draws", "many", "letters", "start", "step", "ahead", "behind", "names", "k"]) 9 A sc__law_names (body := b__law_names) rfl rfl fun f cdv A outer s H E hr => ?_).frz.cut
  have nd : (["draws", "many", "letters", "start", "step", "ahead", "behind", "names", "k"] : List Str).Nodup := sc__law_names.nd
  let N : List Str := ["draws", "many", "letters", "start", "step", "ahead", "behind", "names", "k"]
  let sc := defScope s__law_names
  exact (ssCons (sSet 2 NoPin.none nd sStr)
    (ssCons (sSet 3 NoPin.none nd (cCall G__law_draw (takes_of rfl rfl rfl rfl) (hr.mono (by decide)) (aCons (sv 0) (aCons sInt aNil))))
    (ssCons (sSet 4 NoPin.none nd (cCall G__law_pick (takes_of rfl rfl rfl rfl) (hr.mono (by decide)) (aCons (sv 0) (aCons (sLst (aCons sInt (aCons sInt (aCons sInt (aCons sInt aNil))))) aNil))))
    (ssCons (sSet 5 NoPin.none nd (sOp op_mulG op2_mul sStr (cCall G__law_draw (takes_of rfl rfl rfl rfl) (hr.mono (by decide)) (aCons (sv 0) (aCons sInt aNil)))))
    (ssCons (sSet 6 NoPin.none nd (sOp op_mulG op2_mul sStr (cCall G__law_draw (takes_of rfl rfl rfl rfl) (hr.mono (by decide)) (aCons (sv 0) (aCons sInt aNil)))))
    (ssCons (sSet 7 NoPin.none nd (sCell aNil))
    (ssCons (sFor (.name 8) (passes_of rfl) rfl NoPin.none (iRng1R T.b_range (aCons (sv 1) aNil)) (gN 8 nd)
    (ssOne (sExpr (sLM rfl PySem.F.slot_list_append PySem.F.type_list_append mt_append opm_app (sv 7) (aCons (sOp op_addG op2_add (sOp op_addG op2_add (sv 5) (sIx ix_seq op2_ix (sv 2) (sOp op_mod op2_mod (sTy call_int1 opa_int T.b_int (by decide +kernel) (aCons (sOp op_addG op2_add (sv 3) (sOp op_mulG op2_mul (sv 8) (sv 4))) aNil)) sInt))) (sv 6)) aNil)))))
    (ssOne (sRet (sv 7))))))))))
abbrev s__law_book : Stmt := top 28
theorem sc__law_book : FnScope ["draws", "most", "names", "rows", "k", "size", "at", "parent", "leads", "n"] ["draws", "most"] (defScope s__law_book) := ⟨rfl, rfl, rfl, by decide +kernel, rfl, by decide +kernel, by decide +kernel⟩
theorem w__law_book {P : Program} {w : World} {K : PySem.W.Frag} {mg : Str → Option Value} {base : Heap} {cl : List Addr} (T : Txt K mg cl) (G__law_names : Has P w K mg base cl 3 "_law_names" ["draws", "many"] 2 m__law_names) (G__law_draw : Has P w K mg base cl 1 "_law_draw" ["draws", "many"] 2 m__law_draw) (G__law_pick : Has P w K mg base cl 2 "_law_pick" ["draws", "things"] 2 m__law_pick) (A : At K mg "_law_book" s__law_book ["draws", "most"]) : Has P w K mg base cl 4 "_law_book" ["draws", "most"] 2 m__law_book := by
  refine (has_def (P := P) (w := w) (base := base) (cl := cl) (k := 3) (N := ["draws", "most", "names", "rows", "k", "size", "at", "parent", "leads", "n"]) 10 A sc__law_book (body := b__law_book) rfl rfl fun f cdv A outer s H E hr => ?_).frz.cut
  have nd : (["draws", "most", "names", "rows", "k", "size", "at", "parent", "leads", "n"] : List Str).Nodup := sc__law_book.nd
  let N : List Str := ["draws", "most", "names", "rows", "k", "size", "at", "parent", "leads", "n"]
  let sc := defScope s__law_book
  exact (ssCons (sSet 2 NoPin.none nd (cCall G__law_names (takes_of rfl rfl rfl rfl) (hr.mono (by decide)) (aCons (sv 0) (aCons (sv 1) aNil))))
    (ssCons (sSet 3 NoPin.none nd (sCell aNil))
    (ssCons (sFor (.name 4) (passes_of rfl) rfl NoPin.none (iRng1R T.b_range (aCons (sOp op_addG op2_add sInt (sOp op_mod op2_mod (sTy call_int1 opa_int T.b_int (by decide +kernel) (aCons (sOp op_addG op2_add sInt (cCall G__law_draw (takes_of rfl rfl rfl rfl) (hr.mono (by decide)) (aCons (sv 0) (aCons (sv 1) aNil)))) aNil)) (sv 1))) aNil)) (gN 4 nd)
    (ssCons (sSet 5 NoPin.none nd (cCall G__law_pick (takes_of rfl rfl rfl rfl) (hr.mono (by decide)) (aCons (sv 0) (aCons (sLst (aCons sInt (aCons sInt (aCons sInt (aCons sInt aNil))))) aNil))))
    (ssCons (sSet 6 NoPin.none nd (cCall G__law_draw (takes_of rfl rfl rfl rfl) (hr.mono (by decide)) (aCons (sv 0) (aCons (sOp op_addG op2_add (sv 4) sInt) aNil))))
    (ssOne (sIte (tCmp (op_eqD hr.units) op2_eq (sv 6) sInt (nomark _))
    (ssOne (sExpr (sLM rfl PySem.F.slot_list_append PySem.F.type_list_append mt_append opm_app (sv 3) (aCons (sTup (aCons (sIx ix_seq op2_ix (sv 2) (sv 4)) (aCons (sv 5) (aCons sNon (aCons (sTup aNil) aNil))))) aNil))))
    (ssCons (sSet 7 NoPin.none nd (sIx ix_seq op2_ix (sv 3) (sOp op_sub op2_sub (sv 6) sInt)))
    (ssCons (sSetLc (own := [("n", 9)]) 8 NoPin.none (.name 9) (by decide) rfl nd rfl (sw_true rfl rfl rfl (by decide +kernel)) (blkOk_by (N := N) (sc := sc) (by decide +kernel)) (iRng1R T.b_range (aCons (sv 5) aNil)) (fun _ _ _ _ _ => (gN 9 nd)) (fun _ _ _ _ _ => qNil) (fun _ _ _ _ _ => (cCall G__law_draw takes0 (hr.mono (by decide)) (aCons (sv 0) (aCons (sIx ix_seq op2_ix (sv 7) sInt) aNil)))))
    (ssOne (sExpr (sLM rfl PySem.F.slot_list_append PySem.F.type_list_append mt_append opm_app (sv 3) (aCons (sTup (aCons (sIx ix_seq op2_ix (sv 2) (sv 4)) (aCons (sv 5) (aCons (sIx ix_seq op2_ix (sv 7) sInt) (aCons (sTy call_tuple_of opa_tuple T.b_tuple (by decide +kernel) (aCons (sv 8) aNil)) aNil))))) aNil)))))))))))
    (ssOne (sRet (sv 3))))))
abbrev s__law_members : Stmt := top 29
theorem sc__law_members : FnScope ["rows", "kind", "members", "row", "n"] ["rows", "kind"] (defScope s__law_members) := ⟨rfl, rfl, rfl, by decide +kernel, rfl, by decide +kernel, by decide +kernel⟩
theorem w__law_members {P : Program} {w : World} {K : PySem.W.Frag} {mg : Str → Option Value} {base : Heap} {cl : List Addr} (T : Txt K mg cl)  (A : At K mg "_law_members" s__law_members ["rows", "kind"]) : Has P w K mg base cl 1 "_law_members" ["rows", "kind"] 2 m__law_members := by
  refine (has_def (P := P) (w := w) (base := base) (cl := cl) (k := 0) (N := ["rows", "kind", "members", "row", "n"]) 5 A sc__law_members (body := b__law_members) rfl rfl fun f cdv A outer s H E hr => ?_).frz.cut
  have nd : (["rows", "kind", "members", "row", "n"] : List Str).Nodup := sc__law_members.nd
  let N : List Str := ["rows", "kind", "members", "row", "n"]
  let sc := defScope s__law_members
  exact (ssCons (sSet 2 NoPin.none nd (sCell aNil))
    (ssCons (sFor (.name 3) (passes_of rfl) rfl NoPin.none (iSeqR rfl (sv 0)) (gN 3 nd)
    (ssOne (sIte (PW.pt (wOr (tCmp (op_eqD hr.units) op2_eq (sv 1) sStr (nomark _)) (pw_or1 (tCmp (op_eqD hr.units) op2_eq (sv 1) (sIx ix_seq op2_ix (sv 3) sInt) (nomark _)))))
    (ssOne (sSet 2 NoPin.none nd (sOp op_addG op2_add (sv 2) (sLc (own := [("n", 4)]) (.name 4) (by decide) rfl nd (blkOk_by (N := N) (sc := sc) (by decide +kernel)) (iRng1R T.b_range (aCons (sIx ix_seq op2_ix (sv 3) sInt) aNil)) (fun _ _ _ _ _ => (gN 4 nd)) (fun _ _ _ _ _ => qNil) (fun _ _ _ _ _ => (sTup (aCons (sIx ix_seq op2_ix (sv 3) sInt) (aCons (sv 4) aNil))))))))
    ssNil)))
    (ssOne (sRet (sv 2)))))
abbrev s__law_count : Stmt := top 30
theorem sc__law_count : FnScope ["draws", "most"] ["draws", "most"] (defScope s__law_count) := ⟨rfl, rfl, rfl, by decide +kernel, rfl, by decide +kernel, by decide +kernel⟩
theorem w__law_count {P : Program} {w : World} {K : PySem.W.Frag} {mg : Str → Option Value} {base : Heap} {cl : List Addr} (T : Txt K mg cl) (G__law_draw : Has P w K mg base cl 1 "_law_draw" ["draws", "many"] 2 m__law_draw) (A : At K mg "_law_count" s__law_count ["draws", "most"]) : Has P w K mg base cl 2 "_law_count" ["draws", "most"] 2 m__law_count := by
  refine (has_def (P := P) (w := w) (base := base) (cl := cl) (k := 1) (N := ["draws", "most"]) 2 A sc__law_count (body := b__law_count) rfl rfl fun f cdv A outer s H E hr => ?_).frz.cut
  have nd : (["draws", "most"] : List Str).Nodup := sc__law_count.nd
  let N : List Str := ["draws", "most"]
  let sc := defScope s__law_count
  exact (ssOne (sRet (sOp op_addG op2_add sInt (sOp op_mod op2_mod (sTy call_int1 opa_int T.b_int (by decide +kernel) (aCons (sOp op_addG op2_add sInt (cCall G__law_draw (takes_of rfl rfl rfl rfl) (hr.mono (by decide)) (aCons (sv 0) (aCons (sv 1) aNil)))) aNil)) (sv 1)))))
abbrev s__law_shape : Stmt := top 31
theorem sc__law_shape : FnScope ["draws", "count", "levels", "column", "level"] ["draws", "count"] (defScope s__law_shape) := ⟨rfl, rfl, rfl, by decide +kernel, rfl, by decide +kernel, by decide +kernel⟩
theorem w__law_shape {P : Program} {w : World} {K : PySem.W.Frag} {mg : Str → Option Value} {base : Heap} {cl : List Addr} (T : Txt K mg cl) (G__law_draw : Has P w K mg base cl 1 "_law_draw" ["draws", "many"] 2 m__law_draw) (A : At K mg "_law_shape" s__law_shape ["draws", "count"]) : Has P w K mg base cl 2 "_law_shape" ["draws", "count"] 2 m__law_shape := by
  refine (has_def (P := P) (w := w) (base := base) (cl := cl) (k := 1) (N := ["draws", "count", "levels", "column", "level"]) 5 A sc__law_shape (body := b__law_shape) rfl rfl fun f cdv A outer s H E hr => ?_).frz.cut
  have nd : (["draws", "count", "levels", "column", "level"] : List Str).Nodup := sc__law_shape.nd
  let N : List Str := ["draws", "count", "levels", "column", "level"]
  let sc := defScope s__law_shape
  exact (ssCons (sSetLc (own := [("column", 3)]) 2 NoPin.none (.name 3) (by decide) rfl nd rfl (sw_true rfl rfl rfl (by decide +kernel)) (blkOk_by (N := N) (sc := sc) (by decide +kernel)) (iRng1R T.b_range (aCons (sv 1) aNil)) (fun _ _ _ _ _ => (gN 3 nd)) (fun _ _ _ _ _ => qNil) (fun _ _ _ _ _ => (sCell aNil)))
    (ssCons (sFor (.name 3) (passes_of rfl) rfl NoPin.none (iRng1R T.b_range (aCons (sv 1) aNil)) (gN 3 nd)
    (ssCons (sSet 4 NoPin.none nd (sIx ix_seq op2_ix (sv 2) (sOp op_mod op2_mod (sTy call_int1 opa_int T.b_int (by decide +kernel) (aCons (sOp op_addG op2_add (sv 3) (cCall G__law_draw (takes_of rfl rfl rfl rfl) (hr.mono (by decide)) (aCons (sv 0) (aCons (sv 1) aNil)))) aNil)) (sv 1))))
    (ssOne (sExpr (sLM rfl PySem.F.slot_list_append PySem.F.type_list_append mt_append opm_app (sv 4) (aCons (sv 3) aNil))))))
    (ssOne (sRet (sTy call_tuple_of opa_tuple T.b_tuple (by decide +kernel) (aCons (sLc (own := [("level", 4)]) (.name 4) (by decide) rfl nd (blkOk_by (N := N) (sc := sc) (by decide +kernel)) (iSeqR rfl (sv 2)) (fun _ _ _ _ _ => (gN 4 nd)) (fun _ _ _ _ _ => (qOne (tCmp (op_neD hr.units) op2_ne (sv 4) (sLst aNil) (nomark _)))) (fun _ _ _ _ _ => (sTy call_tuple_of opa_tuple T.b_tuple (by decide +kernel) (aCons (sv 4) aNil)))) aNil))))))
abbrev s__law_kinds : Stmt := top 32
theorem sc__law_kinds : FnScope ["draws", "rows", "count", "menu", "row", "column"] ["draws", "rows", "count"] (defScope s__law_kinds) := ⟨rfl, rfl, rfl, by decide +kernel, rfl, by decide +kernel, by decide +kernel⟩
theorem w__law_kinds {P : Program} {w : World} {K : PySem.W.Frag} {mg : Str → Option Value} {base : Heap} {cl : List Addr} (T : Txt K mg cl) (G__law_pick : Has P w K mg base cl 2 "_law_pick" ["draws", "things"] 2 m__law_pick) (A : At K mg "_law_kinds" s__law_kinds ["draws", "rows", "count"]) : Has P w K mg base cl 3 "_law_kinds" ["draws", "rows", "count"] 3 m__law_kinds := by
  refine (has_def (P := P) (w := w) (base := base) (cl := cl) (k := 2) (N := ["draws", "rows", "count", "menu", "row", "column"]) 6 A sc__law_kinds (body := b__law_kinds) rfl rfl fun f cdv A outer s H E hr => ?_).frz.cut
  have nd : (["draws", "rows", "count", "menu", "row", "column"] : List Str).Nodup := sc__law_kinds.nd
  let N : List Str := ["draws", "rows", "count", "menu", "row", "column"]
  let sc := defScope s__law_kinds
  exact (ssCons (sSet 3 NoPin.none nd (sOp op_addG op2_add (sLc (own := [("row", 4)]) (.name 4) (by decide) rfl nd (blkOk_by (N := N) (sc := sc) (by decide +kernel)) (iSeqR rfl (sv 1)) (fun _ _ _ _ _ => (gN 4 nd)) (fun _ _ _ _ _ => qNil) (fun _ _ _ _ _ => (sIx ix_seq op2_ix (sv 4) sInt))) (sLst (aCons sStr aNil))))
    (ssOne (sRet (sTy call_tuple_of opa_tuple T.b_tuple (by decide +kernel) (aCons (sLc (own := [("column", 5)]) (.name 5) (by decide) rfl nd (blkOk_by (N := N) (sc := sc) (by decide +kernel)) (iRng1R T.b_range (aCons (sv 2) aNil)) (fun _ _ _ _ _ => (gN 5 nd)) (fun _ _ _ _ _ => qNil) (fun _ _ _ _ _ => (cCall G__law_pick takes0 (hr.mono (by decide)) (aCons (sv 0) (aCons (sv 3) aNil))))) aNil)))))
abbrev s__law_menus : Stmt := top 33
theorem sc__law_menus : FnScope ["rows", "kinds", "kind"] ["rows", "kinds"] (defScope s__law_menus) := ⟨rfl, rfl, rfl, by decide +kernel, rfl, by decide +kernel, by decide +kernel⟩
theorem w__law_menus {P : Program} {w : World} {K : PySem.W.Frag} {mg : Str → Option Value} {base : Heap} {cl : List Addr} (T : Txt K mg cl) (G__law_members : Has P w K mg base cl 1 "_law_members" ["rows", "kind"] 2 m__law_members) (A : At K mg "_law_menus" s__law_menus ["rows", "kinds"]) : Has P w K mg base cl 2 "_law_menus" ["rows", "kinds"] 2 m__law_menus := by
  refine (has_def (P := P) (w := w) (base := base) (cl := cl) (k := 1) (N := ["rows", "kinds", "kind"]) 3 A sc__law_menus (body := b__law_menus) rfl rfl fun f cdv A outer s H E hr => ?_).frz.cut
  have nd : (["rows", "kinds", "kind"] : List Str).Nodup := sc__law_menus.nd
  let N : List Str := ["rows", "kinds", "kind"]
  let sc := defScope s__law_menus
  exact (ssOne (sRet (sLc (own := [("kind", 2)]) (.name 2) (by decide) rfl nd (blkOk_by (N := N) (sc := sc) (by decide +kernel)) (iSeqR rfl (sv 1)) (fun _ _ _ _ _ => (gN 2 nd)) (fun _ _ _ _ _ => qNil) (fun _ _ _ _ _ => (cCall G__law_members takes0 (hr.mono (by decide)) (aCons (sv 0) (aCons (sv 2) aNil)))))))
abbrev s__law_form : Stmt := top 34
theorem sc__law_form : FnScope ["outline", "form", "tables", "branch", "path", "cells", "inner", "table"] ["outline"] (defScope s__law_form) := ⟨rfl, rfl, rfl, by decide +kernel, rfl, by decide +kernel, by decide +kernel⟩
theorem w__law_form {P : Program} {w : World} {K : PySem.W.Frag} {mg : Str → Option Value} {base : Heap} {cl : List Addr} (T : Txt K mg cl)  (A : At K mg "_law_form" s__law_form ["outline"]) : Has P w K mg base cl 1 "_law_form" ["outline"] 1 m__law_form := by
  refine (has_def (P := P) (w := w) (base := base) (cl := cl) (k := 0) (N := ["outline", "form", "tables", "branch", "path", "cells", "inner", "table"]) 8 A sc__law_form (body := b__law_form) rfl rfl fun f cdv A outer s H E hr => ?_).frz.cut
  have nd : (["outline", "form", "tables", "branch", "path", "cells", "inner", "table"] : List Str).Nodup := sc__law_form.nd
  let N : List Str := ["outline", "form", "tables", "branch", "path", "cells", "inner", "table"]
  let sc := defScope s__law_form
  exact (ssCons (sSet 1 NoPin.none nd (sCell aNil))
    (ssCons (sSet 2 NoPin.none nd (sCell (aCons (sv 1) aNil)))
    (ssCons (sFor (.tup [(.name 3), (.name 4)]) (passes_of rfl) rfl NoPin.none (iSeqR rfl (sv 0)) (gT rfl (gsC (gN 3 nd) (gsC (gN 4 nd) gsN)))
    (ssCons (sSet 2 NoPin.none nd (sSlH rfl (sv 2) oNone (oSome (sOp op_addG op2_add (sv 3) sInt))))
    (ssOne (sFor (.name 5) (passes_of rfl) rfl NoPin.none (iSeqR rfl (sSl rfl (sv 4) (oSome (sv 3)) oNone)) (gN 5 nd)
    (ssCons (sSet 6 NoPin.none nd (sCell aNil))
    (ssCons (sSet 7 NoPin.none nd (sIx ix_seq op2_ix (sv 2) (sOp op_sub op2_sub (sCB call_len opa_len T.b_len (by decide +kernel) (aCons (sv 2) aNil)) sInt)))
    (ssCons (sExpr (sLM rfl PySem.F.slot_list_append PySem.F.type_list_append mt_append opm_app (sv 7) (aCons (sTup (aCons (sv 5) (aCons (sv 6) aNil))) aNil)))
    (ssOne (sExpr (sLM rfl PySem.F.slot_list_append PySem.F.type_list_append mt_append opm_app (sv 2) (aCons (sv 6) aNil)))))))))))
    (ssOne (sRet (sv 1))))))
abbrev s__law_leaf : Stmt := top 35
theorem sc__law_leaf : FnScope ["draws", "shape", "menus", "before", "depth", "branch", "path", "level", "cells", "column"] ["draws", "shape", "menus", "before"] (defScope s__law_leaf) := ⟨rfl, rfl, rfl, by decide +kernel, rfl, by decide +kernel, by decide +kernel⟩
theorem w__law_leaf {P : Program} {w : World} {K : PySem.W.Frag} {mg : Str → Option Value} {base : Heap} {cl : List Addr} (T : Txt K mg cl) (G__law_draw : Has P w K mg base cl 1 "_law_draw" ["draws", "many"] 2 m__law_draw) (G__law_pick : Has P w K mg base cl 2 "_law_pick" ["draws", "things"] 2 m__law_pick) (A : At K mg "_law_leaf" s__law_leaf ["draws", "shape", "menus", "before"]) : Has P w K mg base cl 3 "_law_leaf" ["draws", "shape", "menus", "before"] 4 m__law_leaf := by
  refine (has_def (P := P) (w := w) (base := base) (cl := cl) (k := 2) (N := ["draws", "shape", "menus", "before", "depth", "branch", "path", "level", "cells", "column"]) 10 A sc__law_leaf (body := b__law_leaf) rfl rfl fun f cdv A outer s H E hr => ?_).frz.cut
  have nd : (["draws", "shape", "menus", "before", "depth", "branch", "path", "level", "cells", "column"] : List Str).Nodup := sc__law_leaf.nd
  let N : List Str := ["draws", "shape", "menus", "before", "depth", "branch", "path", "level", "cells", "column"]
  let sc := defScope s__law_leaf
  exact (ssCons (sSet 4 NoPin.none nd (sOp op_sub op2_sub (sCB call_len opa_len T.b_len (by decide +kernel) (aCons (sv 1) aNil)) sInt))
    (ssCons (sIte (tCmp (op_eqD hr.units) op2_eq (cCall G__law_draw (takes_of rfl rfl rfl rfl) (hr.mono (by decide)) (aCons (sv 0) (aCons sInt aNil))) sInt (nomark _))
    (ssOne (sSet 4 NoPin.none nd (cCall G__law_draw (takes_of rfl rfl rfl rfl) (hr.mono (by decide)) (aCons (sv 0) (aCons (sCB call_len opa_len T.b_len (by decide +kernel) (aCons (sv 1) aNil)) aNil)))))
    ssNil)
    (ssCons (sSet 5 NoPin.none nd (cCall G__law_draw (takes_of rfl rfl rfl rfl) (hr.mono (by decide)) (aCons (sv 0) (aCons (sOp op_addG op2_add (sCB (call_min2 rfl) opa_min2 T.b_min (by decide +kernel) (aCons (sv 4) (aCons (sCB (call_max2 rfl) opa_max2 T.b_max (by decide +kernel) (aCons sInt (aCons (sOp op_sub op2_sub (sCB call_len opa_len T.b_len (by decide +kernel) (aCons (sv 3) aNil)) sInt) aNil))) aNil))) sInt) aNil))))
    (ssCons (sSet 6 NoPin.none nd (sSl rfl (sv 3) oNone (oSome (sv 5))))
    (ssCons (sFor (.name 7) (passes_of rfl) rfl NoPin.none (iRng2R T.b_range (aCons (sv 5) (aCons (sOp op_addG op2_add (sv 4) sInt) aNil))) (gN 7 nd)
    (ssCons (sSet 8 NoPin.none nd (sSl rfl (sv 3) (oSome (sv 7)) (oSome (sOp op_addG op2_add (sv 7) sInt))))
    (ssCons (sIte (PW.pt (wOr (tCmp (op_eqD hr.units) op2_eq (sv 8) (sTup aNil) (nomark _)) (pw_or1 (tCmp (op_eqD hr.units) op2_eq (cCall G__law_draw (takes_of rfl rfl rfl rfl) (hr.mono (by decide)) (aCons (sv 0) (aCons sInt aNil))) sInt (nomark _)))))
    (ssOne (sSet 8 NoPin.none nd (sTup (aCons (sTy call_tuple_of opa_tuple T.b_tuple (by decide +kernel) (aCons (sLc (own := [("column", 9)]) (.name 9) (by decide) rfl nd (blkOk_by (N := N) (sc := sc) (by decide +kernel)) (iSeqR rfl (sIx ix_seq op2_ix (sv 1) (sv 7))) (fun _ _ _ _ _ => (gN 9 nd)) (fun _ _ _ _ _ => qNil) (fun _ _ _ _ _ => (cCall G__law_pick takes0 (hr.mono (by decide)) (aCons (sv 0) (aCons (sIx ix_seq op2_ix (sv 2) (sv 9)) aNil))))) aNil)) aNil))))
    ssNil)
    (ssOne (sSet 6 NoPin.none nd (sOp op_addG op2_add (sv 6) (sv 8)))))))
    (ssOne (sRet (sTup (aCons (sv 5) (aCons (sv 6) aNil))))))))))
abbrev s__law_leafs : Stmt := top 36
theorem sc__law_leafs : FnScope ["draws", "shape", "menus", "most", "outline", "before", "k", "entry"] ["draws", "shape", "menus", "most"] (defScope s__law_leafs) := ⟨rfl, rfl, rfl, by decide +kernel, rfl, by decide +kernel, by decide +kernel⟩
theorem w__law_leafs {P : Program} {w : World} {K : PySem.W.Frag} {mg : Str → Option Value} {base : Heap} {cl : List Addr} (T : Txt K mg cl) (G__law_draw : Has P w K mg base cl 1 "_law_draw" ["draws", "many"] 2 m__law_draw) (G__law_leaf : Has P w K mg base cl 3 "_law_leaf" ["draws", "shape", "menus", "before"] 4 m__law_leaf) (A : At K mg "_law_leafs" s__law_leafs ["draws", "shape", "menus", "most"]) : Has P w K mg base cl 4 "_law_leafs" ["draws", "shape", "menus", "most"] 4 m__law_leafs := by
  refine (has_def (P := P) (w := w) (base := base) (cl := cl) (k := 3) (N := ["draws", "shape", "menus", "most", "outline", "before", "k", "entry"]) 8 A sc__law_leafs (body := b__law_leafs) rfl rfl fun f cdv A outer s H E hr => ?_).frz.cut
  have nd : (["draws", "shape", "menus", "most", "outline", "before", "k", "entry"] : List Str).Nodup := sc__law_leafs.nd
  let N : List Str := ["draws", "shape", "menus", "most", "outline", "before", "k", "entry"]
  let sc := defScope s__law_leafs
  exact (ssCons (sSet 4 NoPin.none nd (sCell aNil))
    (ssCons (sSet 5 NoPin.none nd (sTup aNil))
    (ssCons (sFor (.name 6) (passes_of rfl) rfl NoPin.none (iRng1R T.b_range (aCons (sOp op_mod op2_mod (sTy call_int1 opa_int T.b_int (by decide +kernel) (aCons (sOp op_addG op2_add sInt (cCall G__law_draw (takes_of rfl rfl rfl rfl) (hr.mono (by decide)) (aCons (sv 0) (aCons (sOp op_addG op2_add (sv 3) sInt) aNil)))) aNil)) (sOp op_addG op2_add (sv 3) sInt)) aNil)) (gN 6 nd)
    (ssCons (sSet 7 NoPin.none nd (cCall G__law_leaf (takes_of rfl rfl rfl rfl) (hr.mono (by decide)) (aCons (sv 0) (aCons (sv 1) (aCons (sv 2) (aCons (sv 5) aNil))))))
    (ssCons (sExpr (sLM rfl PySem.F.slot_list_append PySem.F.type_list_append mt_append opm_app (sv 4) (aCons (sv 7) aNil)))
    (ssOne (sSet 5 NoPin.none nd (sIx ix_seq op2_ix (sv 7) sInt))))))
    (ssOne (sRet (sv 4))))))
abbrev s__law_mended : Stmt := top 37
theorem sc__law_mended : FnScope ["entry", "before", "branch", "path", "shared", "level"] ["entry", "before"] (defScope s__law_mended) := ⟨rfl, rfl, rfl, by decide +kernel, rfl, by decide +kernel, by decide +kernel⟩
theorem w__law_mended {P : Program} {w : World} {K : PySem.W.Frag} {mg : Str → Option Value} {base : Heap} {cl : List Addr} (T : Txt K mg cl)  (A : At K mg "_law_mended" s__law_mended ["entry", "before"]) : Has P w K mg base cl 1 "_law_mended" ["entry", "before"] 2 m__law_mended := by
  refine (has_def (P := P) (w := w) (base := base) (cl := cl) (k := 0) (N := ["entry", "before", "branch", "path", "shared", "level"]) 6 A sc__law_mended (body := b__law_mended) rfl rfl fun f cdv A outer s H E hr => ?_).frz.cut
  have nd : (["entry", "before", "branch", "path", "shared", "level"] : List Str).Nodup := sc__law_mended.nd
  let N : List Str := ["entry", "before", "branch", "path", "shared", "level"]
  let sc := defScope s__law_mended
  exact (ssCons (sAsg (.tup [(.name 2), (.name 3)]) NoPin.none (sv 0) (gT rfl (gsC (gN 2 nd) (gsC (gN 3 nd) gsN))))
    (ssCons (sSet 4 NoPin.none nd sInt)
    (ssCons (sFor (.name 5) (passes_of rfl) rfl NoPin.none (iRng1R T.b_range (aCons (sOp op_sub op2_sub (sCB (call_min2 rfl) opa_min2 T.b_min (by decide +kernel) (aCons (sCB call_len opa_len T.b_len (by decide +kernel) (aCons (sv 1) aNil)) (aCons (sCB call_len opa_len T.b_len (by decide +kernel) (aCons (sv 3) aNil)) aNil))) sInt) aNil)) (gN 5 nd)
    (ssOne (sIte (PW.pt (wAnd (tCmp (op_eqD hr.units) op2_eq (sv 5) (sv 4) (nomark _)) (pw_and1 (tCmp (op_eqD hr.units) op2_eq (sIx ix_seq op2_ix (sv 1) (sv 5)) (sIx ix_seq op2_ix (sv 3) (sv 5)) (nomark _)))))
    (ssOne (sSet 4 NoPin.none nd (sOp op_addG op2_add (sv 5) sInt)))
    ssNil)))
    (ssOne (sRet (sTup (aCons (sCB (call_min2 rfl) opa_min2 T.b_min (by decide +kernel) (aCons (sv 2) (aCons (sv 4) aNil))) (aCons (sv 3) aNil))))))))
abbrev s__law_edited : Stmt := top 38
theorem sc__law_edited : FnScope ["draws", "shape", "menus", "outline", "most", "hunks", "new", "taken", "put", "room", "at", "before", "entry", "way"] ["draws", "shape", "menus", "outline", "most"] (defScope s__law_edited) := ⟨rfl, rfl, rfl, by decide +kernel, rfl, by decide +kernel, by decide +kernel⟩
theorem w__law_edited {P : Program} {w : World} {K : PySem.W.Frag} {mg : Str → Option Value} {base : Heap} {cl : List Addr} (T : Txt K mg cl) (G__law_draw : Has P w K mg base cl 1 "_law_draw" ["draws", "many"] 2 m__law_draw) (G__law_leaf : Has P w K mg base cl 3 "_law_leaf" ["draws", "shape", "menus", "before"] 4 m__law_leaf) (G__law_mended : Has P w K mg base cl 1 "_law_mended" ["entry", "before"] 2 m__law_mended) (A : At K mg "_law_edited" s__law_edited ["draws", "shape", "menus", "outline", "most"]) : Has P w K mg base cl 4 "_law_edited" ["draws", "shape", "menus", "outline", "most"] 5 m__law_edited := by
  refine (has_def (P := P) (w := w) (base := base) (cl := cl) (k := 3) (N := ["draws", "shape", "menus", "outline", "most", "hunks", "new", "taken", "put", "room", "at", "before", "entry", "way"]) 14 A sc__law_edited (body := b__law_edited) rfl rfl fun f cdv A outer s H E hr => ?_).frz.cut
  have nd : (["draws", "shape", "menus", "outline", "most", "hunks", "new", "taken", "put", "room", "at", "before", "entry", "way"] : List Str).Nodup := sc__law_edited.nd
  let N : List Str := ["draws", "shape", "menus", "outline", "most", "hunks", "new", "taken", "put", "room", "at", "before", "entry", "way"]
  let sc := defScope s__law_edited
  exact (ssCons (sSet 5 NoPin.none nd (sCell aNil))
    (ssCons (sSet 6 NoPin.none nd (sCell aNil))
    (ssCons (sSet 7 NoPin.none nd (sCell aNil))
    (ssCons (sSet 8 NoPin.none nd (sCell aNil))
    (ssCons (sSet 9 NoPin.none nd (sv 4))
    (ssCons (sFor (.name 10) (passes_of rfl) rfl NoPin.none (iRng1R T.b_range (aCons (sOp op_addG op2_add (sCB call_len opa_len T.b_len (by decide +kernel) (aCons (sv 3) aNil)) sInt) aNil)) (gN 10 nd)
    (ssCons (sSet 11 NoPin.none nd (sIf (tCmp (op_eqD hr.units) op2_eq (sv 6) (sLst aNil) (nomark _)) (sTup aNil) (sIx ix_seq op2_ix (sIx ix_seq op2_ix (sv 6) (sOp op_sub op2_sub (sCB call_len opa_len T.b_len (by decide +kernel) (aCons (sv 6) aNil)) sInt)) sInt)))
    (ssCons (sIte (PW.pt (wAnd (tCmp op_gt op2_gt (sv 9) sInt (nomark _)) (pw_and1 (tCmp (op_eqD hr.units) op2_eq (cCall G__law_draw (takes_of rfl rfl rfl rfl) (hr.mono (by decide)) (aCons (sv 0) (aCons sInt aNil))) sInt (nomark _)))))
    (ssCons (sSet 12 NoPin.none nd (cCall G__law_leaf (takes_of rfl rfl rfl rfl) (hr.mono (by decide)) (aCons (sv 0) (aCons (sv 1) (aCons (sv 2) (aCons (sv 11) aNil))))))
    (ssCons (sSet 9 NoPin.none nd (sOp op_sub op2_sub (sv 9) sInt))
    (ssCons (sExpr (sLM rfl PySem.F.slot_list_append PySem.F.type_list_append mt_append opm_app (sv 8) (aCons (sv 12) aNil)))
    (ssCons (sExpr (sLM rfl PySem.F.slot_list_append PySem.F.type_list_append mt_append opm_app (sv 6) (aCons (sv 12) aNil)))
    (ssOne (sSet 11 NoPin.none nd (sIx ix_seq op2_ix (sv 12) sInt)))))))
    ssNil)
    (ssOne (sIte (tCmp op_lt op2_lt (sv 10) (sCB call_len opa_len T.b_len (by decide +kernel) (aCons (sv 3) aNil)) (nomark _))
    (ssCons (sSet 12 NoPin.none nd (cCall G__law_mended (takes_of rfl rfl rfl rfl) (hr.mono (by decide)) (aCons (sIx ix_seq op2_ix (sv 3) (sv 10)) (aCons (sv 11) aNil))))
    (ssCons (sSet 13 NoPin.none nd (cCall G__law_draw (takes_of rfl rfl rfl rfl) (hr.mono (by decide)) (aCons (sv 0) (aCons sInt aNil))))
    (ssOne (sIte (PW.pt (wAnd (tCmp op_lt op2_lt (sv 13) sInt (nomark _)) (pw_and1 (tCmp (op_eqD hr.units) op2_eq (sv 12) (sIx ix_seq op2_ix (sv 3) (sv 10)) (nomark _)))))
    (ssCons (sIte (PW.pt (wOr (tCmp (op_neD hr.units) op2_ne (sv 7) (sLst aNil) (nomark _)) (pw_or1 (tCmp (op_neD hr.units) op2_ne (sv 8) (sLst aNil) (nomark _)))))
    (ssOne (sExpr (sLM rfl PySem.F.slot_list_append PySem.F.type_list_append mt_append opm_app (sv 5) (aCons (sTup (aCons (sOp op_sub op2_sub (sv 10) (sCB call_len opa_len T.b_len (by decide +kernel) (aCons (sv 7) aNil))) (aCons (sTy call_tuple_of opa_tuple T.b_tuple (by decide +kernel) (aCons (sv 7) aNil)) (aCons (sTy call_tuple_of opa_tuple T.b_tuple (by decide +kernel) (aCons (sv 8) aNil)) aNil)))) aNil))))
    ssNil)
    (ssCons (sSet 7 NoPin.none nd (sCell aNil))
    (ssCons (sSet 8 NoPin.none nd (sCell aNil))
    (ssOne (sExpr (sLM rfl PySem.F.slot_list_append PySem.F.type_list_append mt_append opm_app (sv 6) (aCons (sv 12) aNil)))))))
    (ssCons (sExpr (sLM rfl PySem.F.slot_list_append PySem.F.type_list_append mt_append opm_app (sv 7) (aCons (sIx ix_seq op2_ix (sv 3) (sv 10)) aNil)))
    (ssOne (sIte (tCmp op_lt op2_lt (sv 13) sInt (nomark _))
    (ssCons (sExpr (sLM rfl PySem.F.slot_list_append PySem.F.type_list_append mt_append opm_app (sv 8) (aCons (sv 12) aNil)))
    (ssOne (sExpr (sLM rfl PySem.F.slot_list_append PySem.F.type_list_append mt_append opm_app (sv 6) (aCons (sv 12) aNil)))))
    ssNil)))))))
    ssNil)))))
    (ssCons (sIte (PW.pt (wOr (tCmp (op_neD hr.units) op2_ne (sv 7) (sLst aNil) (nomark _)) (pw_or1 (tCmp (op_neD hr.units) op2_ne (sv 8) (sLst aNil) (nomark _)))))
    (ssOne (sExpr (sLM rfl PySem.F.slot_list_append PySem.F.type_list_append mt_append opm_app (sv 5) (aCons (sTup (aCons (sOp op_sub op2_sub (sCB call_len opa_len T.b_len (by decide +kernel) (aCons (sv 3) aNil)) (sCB call_len opa_len T.b_len (by decide +kernel) (aCons (sv 7) aNil))) (aCons (sTy call_tuple_of opa_tuple T.b_tuple (by decide +kernel) (aCons (sv 7) aNil)) (aCons (sTy call_tuple_of opa_tuple T.b_tuple (by decide +kernel) (aCons (sv 8) aNil)) aNil)))) aNil))))
    ssNil)
    (ssOne (sRet (sTup (aCons (sTy call_tuple_of opa_tuple T.b_tuple (by decide +kernel) (aCons (sv 5) aNil)) (aCons (sv 6) aNil))))))))))))
abbrev s__law_hunks_good : Stmt := top 41
theorem sc__law_hunks_good : FnScope ["hunks", "end", "at", "taken", "put"] ["hunks"] (defScope s__law_hunks_good) := ⟨rfl, rfl, rfl, by decide +kernel, rfl, by decide +kernel, by decide +kernel⟩
theorem w__law_hunks_good {P : Program} {w : World} {K : PySem.W.Frag} {mg : Str → Option Value} {base : Heap} {cl : List Addr} (T : Txt K mg cl)  (A : At K mg "_law_hunks_good" s__law_hunks_good ["hunks"]) : Has P w K mg base cl 1 "_law_hunks_good" ["hunks"] 1 m__law_hunks_good := by
  refine (has_def (P := P) (w := w) (base := base) (cl := cl) (k := 0) (N := ["hunks", "end", "at", "taken", "put"]) 5 A sc__law_hunks_good (body := b__law_hunks_good) rfl rfl fun f cdv A outer s H E hr => ?_).frz.cut
  have nd : (["hunks", "end", "at", "taken", "put"] : List Str).Nodup := sc__law_hunks_good.nd
  let N : List Str := ["hunks", "end", "at", "taken", "put"]
  let sc := defScope s__law_hunks_good
  exact (ssCons (sSet 1 NoPin.none nd (sUn un_neg op1_neg sInt))
    (ssCons (sFor (.tup [(.name 2), (.name 3), (.name 4)]) (passes_of rfl) rfl NoPin.none (iSeqR rfl (sv 0)) (gT rfl (gsC (gN 2 nd) (gsC (gN 3 nd) (gsC (gN 4 nd) gsN))))
    (ssCons (sIte (PW.pt (wOr (tCmp op_le op2_le (sv 2) (sv 1) (nomark _)) (pw_or1 (tCmp (op_eqD hr.units) op2_eq (sOp op_addG op2_add (sCB call_len opa_len T.b_len (by decide +kernel) (aCons (sv 3) aNil)) (sCB call_len opa_len T.b_len (by decide +kernel) (aCons (sv 4) aNil))) sInt (nomark _)))))
    (ssOne (sRet sBl))
    ssNil)
    (ssOne (sSet 1 NoPin.none nd (sOp op_addG op2_add (sv 2) (sCB call_len opa_len T.b_len (by decide +kernel) (aCons (sv 3) aNil)))))))
    (ssOne (sRet sBl))))
abbrev s__law_wild : Stmt := top 46
theorem sc__law_wild : FnScope ["draws", "outline", "hunks", "at", "pool", "branch", "path", "k", "many", "taken", "put", "entry", "n"] ["draws", "outline"] (defScope s__law_wild) := ⟨rfl, rfl, rfl, by decide +kernel, rfl, by decide +kernel, by decide +kernel⟩
theorem w__law_wild {P : Program} {w : World} {K : PySem.W.Frag} {mg : Str → Option Value} {base : Heap} {cl : List Addr} (T : Txt K mg cl) (G__law_draw : Has P w K mg base cl 1 "_law_draw" ["draws", "many"] 2 m__law_draw) (G__law_pick : Has P w K mg base cl 2 "_law_pick" ["draws", "things"] 2 m__law_pick) (A : At K mg "_law_wild" s__law_wild ["draws", "outline"]) : Has P w K mg base cl 3 "_law_wild" ["draws", "outline"] 2 m__law_wild := by
  refine (has_def (P := P) (w := w) (base := base) (cl := cl) (k := 2) (N := ["draws", "outline", "hunks", "at", "pool", "branch", "path", "k", "many", "taken", "put", "entry", "n"]) 13 A sc__law_wild (body := b__law_wild) rfl rfl fun f cdv A outer s H E hr => ?_).frz.cut
  have nd : (["draws", "outline", "hunks", "at", "pool", "branch", "path", "k", "many", "taken", "put", "entry", "n"] : List Str).Nodup := sc__law_wild.nd
  let N : List Str := ["draws", "outline", "hunks", "at", "pool", "branch", "path", "k", "many", "taken", "put", "entry", "n"]
  let sc := defScope s__law_wild
  exact (ssCons (sSet 2 NoPin.none nd (sCell aNil))
    (ssCons (sSet 3 NoPin.none nd (cCall G__law_draw (takes_of rfl rfl rfl rfl) (hr.mono (by decide)) (aCons (sv 0) (aCons sInt aNil))))
    (ssCons (sSet 4 NoPin.none nd (sLcH (own := [("entry", 11)]) (.name 11) (by decide) rfl nd (blkOk_by (N := N) (sc := sc) (by decide +kernel)) (iSeqR rfl (sv 1)) (fun _ _ _ _ _ => (gN 11 nd)) (fun _ _ _ _ _ => qNil) (fun _ _ _ _ _ => (sv 11))))
    (ssCons (sFor (.tup [(.name 5), (.name 6)]) (passes_of rfl) rfl NoPin.none (iSeqR rfl (sv 1)) (gT rfl (gsC (gN 5 nd) (gsC (gN 6 nd) gsN)))
    (ssOne (sExpr (sLM rfl PySem.F.slot_list_append PySem.F.type_list_append mt_append opm_app (sv 4) (aCons (sTup (aCons (sOp op_addG op2_add (sOp op_sub op2_sub (sv 5) sInt) (cCall G__law_draw (takes_of rfl rfl rfl rfl) (hr.mono (by decide)) (aCons (sv 0) (aCons sInt aNil)))) (aCons (sv 6) aNil))) aNil)))))
    (ssCons (sExpr (sLM rfl PySem.F.slot_list_append PySem.F.type_list_append mt_append opm_app (sv 4) (aCons (sTup (aCons sInt (aCons (sTup aNil) aNil))) aNil)))
    (ssCons (sFor (.name 7) (passes_of rfl) rfl NoPin.none (iRng1R T.b_range (aCons (cCall G__law_draw (takes_of rfl rfl rfl rfl) (hr.mono (by decide)) (aCons (sv 0) (aCons sInt aNil))) aNil)) (gN 7 nd)
    (ssCons (sSet 8 NoPin.none nd (cCall G__law_draw (takes_of rfl rfl rfl rfl) (hr.mono (by decide)) (aCons (sv 0) (aCons sInt aNil))))
    (ssCons (sSet 9 NoPin.none nd (sIf (PW.pt (wAnd (tCmp op_ge op2_ge (sv 3) sInt (nomark _)) (pw_and1 (tCmp op_gt op2_gt (cCall G__law_draw (takes_of rfl rfl rfl rfl) (hr.mono (by decide)) (aCons (sv 0) (aCons sInt aNil))) sInt (nomark _))))) (sTy call_tuple_of opa_tuple T.b_tuple (by decide +kernel) (aCons (sSl rfl (sv 1) (oSome (sv 3)) (oSome (sOp op_addG op2_add (sv 3) (sv 8)))) aNil)) (sTup (aCons (cCall G__law_pick (takes_of rfl rfl rfl rfl) (hr.mono (by decide)) (aCons (sv 0) (aCons (sv 4) aNil))) aNil))))
    (ssCons (sSet 10 NoPin.none nd (sTy call_tuple_of opa_tuple T.b_tuple (by decide +kernel) (aCons (sLc (own := [("n", 12)]) (.name 12) (by decide) rfl nd (blkOk_by (N := N) (sc := sc) (by decide +kernel)) (iRng1R T.b_range (aCons (cCall G__law_draw (takes_of rfl rfl rfl rfl) (hr.mono (by decide)) (aCons (sv 0) (aCons sInt aNil))) aNil)) (fun _ _ _ _ _ => (gN 12 nd)) (fun _ _ _ _ _ => qNil) (fun _ _ _ _ _ => (cCall G__law_pick takes0 (hr.mono (by decide)) (aCons (sv 0) (aCons (sv 4) aNil))))) aNil)))
    (ssCons (sExpr (sLM rfl PySem.F.slot_list_append PySem.F.type_list_append mt_append opm_app (sv 2) (aCons (sTup (aCons (sv 3) (aCons (sv 9) (aCons (sv 10) aNil)))) aNil)))
    (ssCons (sSet 3 NoPin.none nd (sOp op_addG op2_add (sOp op_addG op2_add (sv 3) (sCB call_len opa_len T.b_len (by decide +kernel) (aCons (sv 9) aNil))) (cCall G__law_pick (takes_of rfl rfl rfl rfl) (hr.mono (by decide)) (aCons (sv 0) (aCons (sLst (aCons sInt (aCons sInt (aCons sInt (aCons sInt (aCons sInt (aCons (sUn un_neg op1_neg sInt) aNil))))))) aNil)))))
    (ssOne (sIte (tCmp (op_eqD hr.units) op2_eq (cCall G__law_draw (takes_of rfl rfl rfl rfl) (hr.mono (by decide)) (aCons (sv 0) (aCons sInt aNil))) sInt (nomark _))
    (ssOne (sSet 3 NoPin.none nd (sUn un_neg op1_neg sInt)))
    ssNil))))))))
    (ssOne (sRet (sv 2)))))))))
abbrev s__law_handed : Stmt := top 49
theorem sc__law_handed : FnScope ["hunks", "handed", "change", "at", "taken", "put"] ["hunks"] (defScope s__law_handed) := ⟨rfl, rfl, rfl, by decide +kernel, rfl, by decide +kernel, by decide +kernel⟩
theorem w__law_handed {P : Program} {w : World} {K : PySem.W.Frag} {mg : Str → Option Value} {base : Heap} {cl : List Addr} (T : Txt K mg cl) (G_Change__init_ : HasI P w K mg base cl 40 2 "Change" ["self", "hunks"] 2 m_Change__init_) (A : At K mg "_law_handed" s__law_handed ["hunks"]) : Has P w K mg base cl 4 "_law_handed" ["hunks"] 1 m__law_handed := by
  refine (has_def (P := P) (w := w) (base := base) (cl := cl) (k := 3) (N := ["hunks", "handed", "change", "at", "taken", "put"]) 6 A sc__law_handed (body := b__law_handed) rfl rfl fun f cdv A outer s H E hr => ?_).frz.cut
  have nd : (["hunks", "handed", "change", "at", "taken", "put"] : List Str).Nodup := sc__law_handed.nd
  let N : List Str := ["hunks", "handed", "change", "at", "taken", "put"]
  let sc := defScope s__law_handed
  exact (ssCons (sSetLcH (own := [("at", 3), ("taken", 4), ("put", 5)]) 1 NoPin.none (.tup [(.name 3), (.name 4), (.name 5)]) (by decide) rfl nd rfl (sw_true rfl rfl rfl (by decide +kernel)) (blkOk_by (N := N) (sc := sc) (by decide +kernel)) (iSeqR rfl (sv 0)) (fun _ _ _ _ _ => (gT rfl (gsC (gN 3 nd) (gsC (gN 4 nd) (gsC (gN 5 nd) gsN))))) (fun _ _ _ _ _ => qNil) (fun _ _ _ _ _ => (sTup (aCons (sv 3) (aCons (sTy call_list_of opa_listH T.b_list (by decide +kernel) (aCons (sv 4) aNil)) (aCons (sTy call_list_of opa_listH T.b_list (by decide +kernel) (aCons (sv 5) aNil)) aNil))))))
    (ssCons (sSet 2 NoPin.none nd (cMake G_Change__init_ (takes_of rfl rfl rfl rfl) (hr.mono (by decide)) (aCons (sv 1) aNil)))
    (ssCons (sFor (.tup [(.name 3), (.name 4), (.name 5)]) (passes_of rfl) rfl NoPin.none (iSeqR rfl (sv 1)) (gT rfl (gsC (gN 3 nd) (gsC (gN 4 nd) (gsC (gN 5 nd) gsN))))
    (ssCons (sExpr (sLM rfl PySem.F.slot_list_append PySem.F.type_list_append mt_append opm_app (sv 4) (aCons (sTup (aCons sInt (aCons (sTup aNil) aNil))) aNil)))
    (ssOne (sExpr (sLM rfl PySem.F.slot_list_append PySem.F.type_list_append mt_append opm_app (sv 5) (aCons (sTup (aCons sInt (aCons (sTup aNil) aNil))) aNil))))))
    (ssCons (sExpr (sLM rfl PySem.F.slot_list_append PySem.F.type_list_append mt_append opm_app (sv 1) (aCons (sTup (aCons sInt (aCons (sTup aNil) (aCons (sTup aNil) aNil)))) aNil)))
    (ssOne (sRet (sv 2)))))))
abbrev s__law_spliced : Stmt := top 39
theorem sc__law_spliced : FnScope ["entries", "hunks", "found", "at", "place", "taken", "put"] ["entries", "hunks"] (defScope s__law_spliced) := ⟨rfl, rfl, rfl, by decide +kernel, rfl, by decide +kernel, by decide +kernel⟩
theorem w__law_spliced {P : Program} {w : World} {K : PySem.W.Frag} {mg : Str → Option Value} {base : Heap} {cl : List Addr} (T : Txt K mg cl)  (A : At K mg "_law_spliced" s__law_spliced ["entries", "hunks"]) : Has P w K mg base cl 1 "_law_spliced" ["entries", "hunks"] 2 m__law_spliced := by
  refine (has_def (P := P) (w := w) (base := base) (cl := cl) (k := 0) (N := ["entries", "hunks", "found", "at", "place", "taken", "put"]) 7 A sc__law_spliced (body := b__law_spliced) rfl rfl fun f cdv A outer s H E hr => ?_).frz.cut
  have nd : (["entries", "hunks", "found", "at", "place", "taken", "put"] : List Str).Nodup := sc__law_spliced.nd
  let N : List Str := ["entries", "hunks", "found", "at", "place", "taken", "put"]
  let sc := defScope s__law_spliced
  exact (ssCons (sSet 2 NoPin.none nd (sCell aNil))
    (ssCons (sSet 3 NoPin.none nd sInt)
    (ssCons (sFor (.tup [(.name 4), (.name 5), (.name 6)]) (passes_of rfl) rfl NoPin.none (iSeqR rfl (sv 1)) (gT rfl (gsC (gN 4 nd) (gsC (gN 5 nd) (gsC (gN 6 nd) gsN))))
    (ssCons (sIte (PW.pt (wOr (tCmp op_lt op2_lt (sv 4) (sv 3) (nomark _)) (wOr (tCmp op_gt op2_gt (sv 4) (sCB call_len opa_len T.b_len (by decide +kernel) (aCons (sv 0) aNil)) (nomark _)) (pw_or1 (tCmp (op_neD hr.units) op2_ne (sSl rfl (sv 0) (oSome (sv 4)) (oSome (sOp op_addG op2_add (sv 4) (sCB call_len opa_len T.b_len (by decide +kernel) (aCons (sv 5) aNil))))) (sTy call_list_of opa_list T.b_list (by decide +kernel) (aCons (sv 5) aNil)) (nomark _))))))
    (ssOne (sRet sNon))
    ssNil)
    (ssCons (sSet 2 NoPin.none nd (sOp op_addG op2_add (sOp op_addG op2_add (sv 2) (sSl rfl (sv 0) (oSome (sv 3)) (oSome (sv 4)))) (sTy call_list_of opa_list T.b_list (by decide +kernel) (aCons (sv 6) aNil))))
    (ssOne (sSet 3 NoPin.none nd (sOp op_addG op2_add (sv 4) (sCB call_len opa_len T.b_len (by decide +kernel) (aCons (sv 5) aNil))))))))
    (ssOne (sRet (sOp op_addG op2_add (sv 2) (sSl rfl (sv 0) (oSome (sv 3)) oNone)))))))
abbrev s__law_splice : Stmt := top 44
theorem sc__law_splice : FnScope ["entries", "change", "e"] ["entries", "change"] (defScope s__law_splice) := ⟨rfl, rfl, rfl, by decide +kernel, rfl, by decide +kernel, by decide +kernel⟩
theorem w__law_splice {P : Program} {w : World} {K : PySem.W.Frag} {mg : Str → Option Value} {base : Heap} {cl : List Addr} (T : Txt K mg cl) (G_spliced : Has P w K mg base cl 2 "spliced" ["entries", "change"] 2 m_spliced) (A : At K mg "_law_splice" s__law_splice ["entries", "change"]) : Has P w K mg base cl 3 "_law_splice" ["entries", "change"] 2 m__law_splice := by
  refine (has_def (P := P) (w := w) (base := base) (cl := cl) (k := 2) (N := ["entries", "change", "e"]) 3 A sc__law_splice (body := b__law_splice) rfl rfl fun f cdv A outer s H E hr => ?_).frz.cut
  have nd : (["entries", "change", "e"] : List Str).Nodup := sc__law_splice.nd
  let N : List Str := ["entries", "change", "e"]
  let sc := defScope s__law_splice
  exact (ssOne (cTryN nd (takes_of rfl rfl rfl rfl) (fun W1 pn1 xe1 tk1 po1 =>
    (ssOne (sRet (sTup (aCons sStr (aCons (cCall G_spliced tk1 (hr.mono (by decide)) (aCons (sv 0) (aCons (sv 1) aNil))) aNil))))))
    (hdAs 2 T.h_Unfit (hsu := fun a1 o1 c1 Ca1 pn1 hc1 hz1 hf1 => (ssOne (sRet (sTup (aCons sStr (aCons (sAnd (cIsE 2 T.i_Unfit_FormroadsError T.b_isinstance hc1 hz1 hf1) (pe_one (sNot (cIsE 2 T.i_Unfit_InvalidForm T.b_isinstance hc1 hz1 hf1)))) aNil)))))) (r := hdNil))))
abbrev s__law_outline_good : Stmt := top 42
theorem sc__law_outline_good : FnScope ["entries", "before", "branch", "path"] ["entries"] (defScope s__law_outline_good) := ⟨rfl, rfl, rfl, by decide +kernel, rfl, by decide +kernel, by decide +kernel⟩
theorem w__law_outline_good {P : Program} {w : World} {K : PySem.W.Frag} {mg : Str → Option Value} {base : Heap} {cl : List Addr} (T : Txt K mg cl)  (A : At K mg "_law_outline_good" s__law_outline_good ["entries"]) : Has P w K mg base cl 1 "_law_outline_good" ["entries"] 1 m__law_outline_good := by
  refine (has_def (P := P) (w := w) (base := base) (cl := cl) (k := 0) (N := ["entries", "before", "branch", "path"]) 4 A sc__law_outline_good (body := b__law_outline_good) rfl rfl fun f cdv A outer s H E hr => ?_).frz.cut
  have nd : (["entries", "before", "branch", "path"] : List Str).Nodup := sc__law_outline_good.nd
  let N : List Str := ["entries", "before", "branch", "path"]
  let sc := defScope s__law_outline_good
  exact (ssCons (sSet 1 NoPin.none nd sNon)
    (ssCons (sFor (.tup [(.name 2), (.name 3)]) (passes_of rfl) rfl NoPin.none (iSeqR rfl (sv 0)) (gT rfl (gsC (gN 2 nd) (gsC (gN 3 nd) gsN)))
    (ssCons (sIte (PW.pt (wOr (tCmp (op_eqD hr.units) op2_eq (sCB call_len opa_len T.b_len (by decide +kernel) (aCons (sv 3) aNil)) sInt (nomark _)) (pw_or1 (tCmp op_lt op2_lt (sv 2) sInt (nomark _)))))
    (ssOne (sRet sBl))
    ssNil)
    (ssCons (sIte (PW.pt (wAnd (tCmp op_isN op2_is (sv 1) sNon (nomark _)) (pw_and1 (tCmp op_gt op2_gt (sv 2) sInt (nomark _)))))
    (ssOne (sRet sBl))
    ssNil)
    (ssCons (sIte (PW.pt (wAnd (tCmp op_notN op2_isnt (sv 1) sNon (nomark _)) (pw_and1 (tCmp op_gt op2_gt (sv 2) (sOp op_sub op2_sub (sCB (call_min2 rfl) opa_min2 T.b_min (by decide +kernel) (aCons (sCB call_len opa_len T.b_len (by decide +kernel) (aCons (sv 1) aNil)) (aCons (sCB call_len opa_len T.b_len (by decide +kernel) (aCons (sv 3) aNil)) aNil))) sInt) (nomark _)))))
    (ssOne (sRet sBl))
    ssNil)
    (ssCons (sIte (PW.pt (wAnd (tCmp op_notN op2_isnt (sv 1) sNon (nomark _)) (pw_and1 (tCmp (op_neD hr.units) op2_ne (sSl rfl (sv 3) oNone (oSome (sv 2))) (sSl rfl (sv 1) oNone (oSome (sv 2))) (nomark _)))))
    (ssOne (sRet sBl))
    ssNil)
    (ssOne (sSet 1 NoPin.none nd (sv 3))))))))
    (ssOne (sRet sBl))))
abbrev s__law_contrary : Stmt := top 40
theorem sc__law_contrary : FnScope ["hunks", "found", "growth", "at", "taken", "put"] ["hunks"] (defScope s__law_contrary) := ⟨rfl, rfl, rfl, by decide +kernel, rfl, by decide +kernel, by decide +kernel⟩
theorem w__law_contrary {P : Program} {w : World} {K : PySem.W.Frag} {mg : Str → Option Value} {base : Heap} {cl : List Addr} (T : Txt K mg cl)  (A : At K mg "_law_contrary" s__law_contrary ["hunks"]) : Has P w K mg base cl 1 "_law_contrary" ["hunks"] 1 m__law_contrary := by
  refine (has_def (P := P) (w := w) (base := base) (cl := cl) (k := 0) (N := ["hunks", "found", "growth", "at", "taken", "put"]) 6 A sc__law_contrary (body := b__law_contrary) rfl rfl fun f cdv A outer s H E hr => ?_).frz.cut
  have nd : (["hunks", "found", "growth", "at", "taken", "put"] : List Str).Nodup := sc__law_contrary.nd
  let N : List Str := ["hunks", "found", "growth", "at", "taken", "put"]
  let sc := defScope s__law_contrary
  exact (ssCons (sSet 1 NoPin.none nd (sCell aNil))
    (ssCons (sSet 2 NoPin.none nd sInt)
    (ssCons (sFor (.tup [(.name 3), (.name 4), (.name 5)]) (passes_of rfl) rfl NoPin.none (iSeqR rfl (sv 0)) (gT rfl (gsC (gN 3 nd) (gsC (gN 4 nd) (gsC (gN 5 nd) gsN))))
    (ssCons (sExpr (sLM rfl PySem.F.slot_list_append PySem.F.type_list_append mt_append opm_app (sv 1) (aCons (sTup (aCons (sOp op_addG op2_add (sv 3) (sv 2)) (aCons (sv 5) (aCons (sv 4) aNil)))) aNil)))
    (ssOne (sSet 2 NoPin.none nd (sOp op_sub op2_sub (sOp op_addG op2_add (sv 2) (sCB call_len opa_len T.b_len (by decide +kernel) (aCons (sv 5) aNil))) (sCB call_len opa_len T.b_len (by decide +kernel) (aCons (sv 4) aNil)))))))
    (ssOne (sRet (sTy call_tuple_of opa_tuple T.b_tuple (by decide +kernel) (aCons (sv 1) aNil)))))))
abbrev s__law_counted : Stmt := top 47
theorem sc__law_counted : FnScope ["hunks", "change", "growth", "touched", "at", "taken", "put"] ["hunks", "change"] (defScope s__law_counted) := ⟨rfl, rfl, rfl, by decide +kernel, rfl, by decide +kernel, by decide +kernel⟩
theorem w__law_counted {P : Program} {w : World} {K : PySem.W.Frag} {mg : Str → Option Value} {base : Heap} {cl : List Addr} (T : Txt K mg cl) (G__law_same : ∀ n, Has P w K mg base cl (0 + n) "_law_same" ["actual", "due"] 2 (m__law_same n)) (G_Change_growth : HasM P w K mg base cl 40 1 "growth" ["self"] 1 m_Change_growth) (G_Change_touched : HasM P w K mg base cl 40 1 "touched" ["self"] 1 m_Change_touched) (G_Change_contrary : HasM P w K mg base cl 40 4 "contrary" ["self"] 1 m_Change_contrary) (G__law_contrary : Has P w K mg base cl 1 "_law_contrary" ["hunks"] 1 m__law_contrary) (A : At K mg "_law_counted" s__law_counted ["hunks", "change"]) : Has P w K mg base cl 201 "_law_counted" ["hunks", "change"] 2 m__law_counted := by
  refine (has_def (P := P) (w := w) (base := base) (cl := cl) (k := 200) (N := ["hunks", "change", "growth", "touched", "at", "taken", "put"]) 7 A sc__law_counted (body := b__law_counted) rfl rfl fun f cdv A outer s H E hr => ?_).frz.cut
  have nd : (["hunks", "change", "growth", "touched", "at", "taken", "put"] : List Str).Nodup := sc__law_counted.nd
  let N : List Str := ["hunks", "change", "growth", "touched", "at", "taken", "put"]
  let sc := defScope s__law_counted
  exact (ssCons (sSet 2 NoPin.none nd sInt)
    (ssCons (sSet 3 NoPin.none nd sInt)
    (ssCons (sFor (.tup [(.name 4), (.name 5), (.name 6)]) (passes_of rfl) rfl NoPin.none (iSeqR rfl (sv 0)) (gT rfl (gsC (gN 4 nd) (gsC (gN 5 nd) (gsC (gN 6 nd) gsN))))
    (ssCons (sSet 2 NoPin.none nd (sOp op_sub op2_sub (sOp op_addG op2_add (sv 2) (sCB call_len opa_len T.b_len (by decide +kernel) (aCons (sv 6) aNil))) (sCB call_len opa_len T.b_len (by decide +kernel) (aCons (sv 5) aNil))))
    (ssOne (sSet 3 NoPin.none nd (sOp op_addG op2_add (sOp op_addG op2_add (sv 3) (sCB call_len opa_len T.b_len (by decide +kernel) (aCons (sv 6) aNil))) (sCB call_len opa_len T.b_len (by decide +kernel) (aCons (sv 5) aNil)))))))
    (ssCons (sIte (tNt (tVal (cCall (G__law_same 200) (takes_of rfl rfl rfl rfl) (hr.mono (by decide)) (aCons (sLst (aCons (cMeth0 T.c_Change G_Change_growth fun Ca g fd T1 M1 F1 b1 => pe_meth0 (sv 1) T1 M1 F1 (hr.mono (by decide)) b1 .nil passL) (aCons (cMeth0 T.c_Change G_Change_touched fun Ca g fd T1 M1 F1 b1 => pe_meth0 (sv 1) T1 M1 F1 (hr.mono (by decide)) b1 .nil passL) aNil))) (aCons (sLst (aCons (sv 2) (aCons (sv 3) aNil))) aNil)))))
    (ssOne (sRet sBl))
    ssNil)
    (ssOne (sRet (cCall (G__law_same 200) (takes_of rfl rfl rfl rfl) (hr.mono (by decide)) (aCons (cFld T.f_Change_hunks (cMeth0 T.c_Change G_Change_contrary fun Ca g fd T1 M1 F1 b1 => pe_meth0 (sv 1) T1 M1 F1 (hr.mono (by decide)) b1 .nil passL)) (aCons (cCall G__law_contrary (takes_of rfl rfl rfl rfl) (hr.mono (by decide)) (aCons (sv 0) aNil)) aNil)))))))))
abbrev s__law_do : Stmt := top 45
theorem sc__law_do : FnScope ["form", "change", "e"] ["form", "change"] (defScope s__law_do) := ⟨rfl, rfl, rfl, by decide +kernel, rfl, by decide +kernel, by decide +kernel⟩
theorem w__law_do {P : Program} {w : World} {K : PySem.W.Frag} {mg : Str → Option Value} {base : Heap} {cl : List Addr} (T : Txt K mg cl) (G_changed : Has P w K mg base cl 72 "changed" ["form", "change"] 2 m_changed) (A : At K mg "_law_do" s__law_do ["form", "change"]) : Has P w K mg base cl 73 "_law_do" ["form", "change"] 2 m__law_do := by
  refine (has_def (P := P) (w := w) (base := base) (cl := cl) (k := 72) (N := ["form", "change", "e"]) 3 A sc__law_do (body := b__law_do) rfl rfl fun f cdv A outer s H E hr => ?_).frz.cut
  have nd : (["form", "change", "e"] : List Str).Nodup := sc__law_do.nd
  let N : List Str := ["form", "change", "e"]
  let sc := defScope s__law_do
  exact (ssOne (cTryN nd (takes_of rfl rfl rfl rfl) (fun W1 pn1 xe1 tk1 po1 =>
    (ssOne (sRet (sTup (aCons sStr (aCons (cCall G_changed tk1 (hr.mono (by decide)) (aCons (sv 0) (aCons (sv 1) aNil))) aNil))))))
    (hdAs 2 T.h_Unfit (hsu := fun a1 o1 c1 Ca1 pn1 hc1 hz1 hf1 => (ssOne (sRet (sTup (aCons sStr (aCons (sAnd (cIsE 2 T.i_Unfit_FormroadsError T.b_isinstance hc1 hz1 hf1) (pe_one (sNot (cIsE 2 T.i_Unfit_InvalidForm T.b_isinstance hc1 hz1 hf1)))) aNil)))))) (r := (hdAs 2 T.h_InvalidForm (hsu := fun a1 o1 c1 Ca1 pn1 hc1 hz1 hf1 => (ssOne (sRet (sTup (aCons sStr (aCons (sAnd (cIsB 2 T.iv_InvalidForm T.b_isinstance hc1 hz1 hf1) (pe_one (sNot (cIsE 2 T.i_InvalidForm_Unfit T.b_isinstance hc1 hz1 hf1)))) aNil)))))) (r := hdNil))))))
abbrev s__law_refused : Stmt := top 43
theorem sc__law_refused : FnScope ["hunks", "e"] ["hunks"] (defScope s__law_refused) := ⟨rfl, rfl, rfl, by decide +kernel, rfl, by decide +kernel, by decide +kernel⟩
theorem w__law_refused {P : Program} {w : World} {K : PySem.W.Frag} {mg : Str → Option Value} {base : Heap} {cl : List Addr} (T : Txt K mg cl) (G_Change__init_ : HasI P w K mg base cl 40 2 "Change" ["self", "hunks"] 2 m_Change__init_) (A : At K mg "_law_refused" s__law_refused ["hunks"]) : Has P w K mg base cl 4 "_law_refused" ["hunks"] 1 m__law_refused := by
  refine (has_def (P := P) (w := w) (base := base) (cl := cl) (k := 3) (N := ["hunks", "e"]) 2 A sc__law_refused (body := b__law_refused) rfl rfl fun f cdv A outer s H E hr => ?_).frz.cut
  have nd : (["hunks", "e"] : List Str).Nodup := sc__law_refused.nd
  let N : List Str := ["hunks", "e"]
  let sc := defScope s__law_refused
  exact (ssCons (cTryN nd (takes_of rfl rfl rfl rfl) (fun W1 pn1 xe1 tk1 po1 =>
    (ssOne (sExpr (cMake G_Change__init_ tk1 (hr.mono (by decide)) (aCons (sv 0) aNil)))))
    (hdAs 1 T.h_InvalidChange (hsu := fun a1 o1 c1 Ca1 pn1 hc1 hz1 hf1 => (ssOne (sRet (sAnd (cIsE 1 T.i_InvalidChange_FormroadsError T.b_isinstance hc1 hz1 hf1) (sAnd (cIsB 1 T.iv_InvalidChange T.b_isinstance hc1 hz1 hf1) (pe_one (sNot (cIsE 1 T.i_InvalidChange_Unfit T.b_isinstance hc1 hz1 hf1)))))))) (r := hdNil)))
    (ssOne (sRet sBl)))
abbrev s__law_right : Stmt := top 48
theorem sc__law_right : FnScope ["outline", "hunks", "change", "entries", "form", "handed", "due", "entry"] ["outline", "hunks", "change"] (defScope s__law_right) := ⟨rfl, rfl, rfl, by decide +kernel, rfl, by decide +kernel, by decide +kernel⟩
theorem w__law_right {P : Program} {w : World} {K : PySem.W.Frag} {mg : Str → Option Value} {base : Heap} {cl : List Addr} (T : Txt K mg cl) (G__law_same : ∀ n, Has P w K mg base cl (0 + n) "_law_same" ["actual", "due"] 2 (m__law_same n)) (G__law_counted : Has P w K mg base cl 201 "_law_counted" ["hunks", "change"] 2 m__law_counted) (G__law_spliced : Has P w K mg base cl 1 "_law_spliced" ["entries", "hunks"] 2 m__law_spliced) (G__law_form : Has P w K mg base cl 1 "_law_form" ["outline"] 1 m__law_form) (G__law_splice : Has P w K mg base cl 3 "_law_splice" ["entries", "change"] 2 m__law_splice) (G__law_outline_good : Has P w K mg base cl 1 "_law_outline_good" ["entries"] 1 m__law_outline_good) (G__law_do : Has P w K mg base cl 73 "_law_do" ["form", "change"] 2 m__law_do) (G_Change_contrary : HasM P w K mg base cl 40 4 "contrary" ["self"] 1 m_Change_contrary) (A : At K mg "_law_right" s__law_right ["outline", "hunks", "change"]) : Has P w K mg base cl 202 "_law_right" ["outline", "hunks", "change"] 3 m__law_right := by
  refine (has_def (P := P) (w := w) (base := base) (cl := cl) (k := 201) (N := ["outline", "hunks", "change", "entries", "form", "handed", "due", "entry"]) 8 A sc__law_right (body := b__law_right) rfl rfl fun f cdv A outer s H E hr => ?_).frz.cut
  have nd : (["outline", "hunks", "change", "entries", "form", "handed", "due", "entry"] : List Str).Nodup := sc__law_right.nd
  let N : List Str := ["outline", "hunks", "change", "entries", "form", "handed", "due", "entry"]
  let sc := defScope s__law_right
  exact (ssCons (sIte (PW.pt (wOr (tNt (tVal (cCall (G__law_same 200) (takes_of rfl rfl rfl rfl) (hr.mono (by decide)) (aCons (cFld T.f_Change_hunks (sv 2)) (aCons (sTy call_tuple_of opa_tuple T.b_tuple (by decide +kernel) (aCons (sv 1) aNil)) aNil))))) (pw_or1 (tNt (tVal (cCall G__law_counted (takes_of rfl rfl rfl rfl) (hr.mono (by decide)) (aCons (sv 1) (aCons (sv 2) aNil))))))))
    (ssOne (sRet sBl))
    ssNil)
    (ssCons (sSet 3 NoPin.none nd (cCall G__law_spliced (takes_of rfl rfl rfl rfl) (hr.mono (by decide)) (aCons (sv 0) (aCons (sv 1) aNil))))
    (ssCons (sSet 4 NoPin.none nd (cCall G__law_form (takes_of rfl rfl rfl rfl) (hr.mono (by decide)) (aCons (sv 0) aNil)))
    (ssCons (sSetLc (own := [("entry", 7)]) 5 NoPin.none (.name 7) (by decide) rfl nd rfl (sw_true rfl rfl rfl (by decide +kernel)) (blkOk_by (N := N) (sc := sc) (by decide +kernel)) (iSeqR rfl (sv 0)) (fun _ _ _ _ _ => (gN 7 nd)) (fun _ _ _ _ _ => qNil) (fun _ _ _ _ _ => (sv 7)))
    (ssCons (sSet 6 NoPin.none nd (sIf (tCmp op_isN op2_is (sv 3) sNon (nomark _)) (sTup (aCons sStr (aCons sBl aNil))) (sTup (aCons sStr (aCons (sv 3) aNil)))))
    (ssCons (sIte (PW.pt (wOr (tNt (tVal (cCall (G__law_same 200) (takes_of rfl rfl rfl rfl) (hr.mono (by decide)) (aCons (cCall G__law_splice (takes_of rfl rfl rfl rfl) (hr.mono (by decide)) (aCons (sv 5) (aCons (sv 2) aNil))) (aCons (sv 6) aNil))))) (pw_or1 (tNt (tVal (cCall (G__law_same 200) (takes_of rfl rfl rfl rfl) (hr.mono (by decide)) (aCons (sv 5) (aCons (sv 0) aNil))))))))
    (ssOne (sRet sBl))
    ssNil)
    (ssCons (sIte (tCmp op_notN op2_isnt (sv 3) sNon (nomark _))
    (ssOne (sSet 6 NoPin.none nd (sIf (tVal (cCall G__law_outline_good (takes_of rfl rfl rfl rfl) (hr.mono (by decide)) (aCons (sv 3) aNil))) (sTup (aCons sStr (aCons (cCall G__law_form (takes_of rfl rfl rfl rfl) (hr.mono (by decide)) (aCons (sv 3) aNil)) aNil))) (sTup (aCons sStr (aCons sBl aNil))))))
    ssNil)
    (ssCons (sIte (PW.pt (wOr (tNt (tVal (cCall (G__law_same 200) (takes_of rfl rfl rfl rfl) (hr.mono (by decide)) (aCons (cCall G__law_do (takes_of rfl rfl rfl rfl) (hr.mono (by decide)) (aCons (sv 4) (aCons (sv 2) aNil))) (aCons (sv 6) aNil))))) (pw_or1 (tNt (tVal (cCall (G__law_same 200) (takes_of rfl rfl rfl rfl) (hr.mono (by decide)) (aCons (sv 4) (aCons (cCall G__law_form (takes_of rfl rfl rfl rfl) (hr.mono (by decide)) (aCons (sv 0) aNil)) aNil))))))))
    (ssOne (sRet sBl))
    ssNil)
    (ssCons (sIte (tCmp op_isN op2_is (sv 3) sNon (nomark _))
    (ssOne (sRet sBl))
    ssNil)
    (ssOne (sRet (cCall (G__law_same 200) (takes_of rfl rfl rfl rfl) (hr.mono (by decide)) (aCons (cCall G__law_splice (takes_of rfl rfl rfl rfl) (hr.mono (by decide)) (aCons (sv 3) (aCons (cMeth0 T.c_Change G_Change_contrary fun Ca g fd T1 M1 F1 b1 => pe_meth0 (sv 2) T1 M1 F1 (hr.mono (by decide)) b1 .nil passL) aNil))) (aCons (sTup (aCons sStr (aCons (sv 0) aNil))) aNil))))))))))))))
abbrev s_law : Stmt := top 50
theorem sc_law : FnScope ["script", "draws", "rows", "count", "shape", "menus", "outline", "hunks", "new", "wild", "change", "at", "taken", "put", "end", "apart"] ["script"] (defScope s_law) := ⟨rfl, rfl, rfl, by decide +kernel, rfl, by decide +kernel, by decide +kernel⟩
theorem w_law {P : Program} {w : World} {K : PySem.W.Frag} {mg : Str → Option Value} {base : Heap} {cl : List Addr} (T : Txt K mg cl) (G__law_draws : Has P w K mg base cl 1 "_law_draws" ["script"] 1 m__law_draws) (G__law_book : Has P w K mg base cl 4 "_law_book" ["draws", "most"] 2 m__law_book) (G__law_count : Has P w K mg base cl 2 "_law_count" ["draws", "most"] 2 m__law_count) (G__law_shape : Has P w K mg base cl 2 "_law_shape" ["draws", "count"] 2 m__law_shape) (G__law_menus : Has P w K mg base cl 2 "_law_menus" ["rows", "kinds"] 2 m__law_menus) (G__law_kinds : Has P w K mg base cl 3 "_law_kinds" ["draws", "rows", "count"] 3 m__law_kinds) (G__law_leafs : Has P w K mg base cl 4 "_law_leafs" ["draws", "shape", "menus", "most"] 4 m__law_leafs) (G__law_edited : Has P w K mg base cl 4 "_law_edited" ["draws", "shape", "menus", "outline", "most"] 5 m__law_edited) (G__law_wild : Has P w K mg base cl 3 "_law_wild" ["draws", "outline"] 2 m__law_wild) (G__law_handed : Has P w K mg base cl 4 "_law_handed" ["hunks"] 1 m__law_handed) (G__law_right : Has P w K mg base cl 202 "_law_right" ["outline", "hunks", "change"] 3 m__law_right) (G__law_same : ∀ n, Has P w K mg base cl (0 + n) "_law_same" ["actual", "due"] 2 (m__law_same n)) (G_changed : Has P w K mg base cl 72 "changed" ["form", "change"] 2 m_changed) (G__law_form : Has P w K mg base cl 1 "_law_form" ["outline"] 1 m__law_form) (G_Change__init_ : HasI P w K mg base cl 40 2 "Change" ["self", "hunks"] 2 m_Change__init_) (G__law_refused : Has P w K mg base cl 4 "_law_refused" ["hunks"] 1 m__law_refused) (G__law_hunks_good : Has P w K mg base cl 1 "_law_hunks_good" ["hunks"] 1 m__law_hunks_good) (A : At K mg "law" s_law ["script"]) : Has P w K mg base cl 203 "law" ["script"] 1 m_law_k62 := by
  refine (has_def (P := P) (w := w) (base := base) (cl := cl) (k := 202) (N := ["script", "draws", "rows", "count", "shape", "menus", "outline", "hunks", "new", "wild", "change", "at", "taken", "put", "end", "apart"]) 16 A sc_law (body := b_law_k62) rfl rfl fun f cdv A outer s H E hr => ?_).frz.cut
  have nd : (["script", "draws", "rows", "count", "shape", "menus", "outline", "hunks", "new", "wild", "change", "at", "taken", "put", "end", "apart"] : List Str).Nodup := sc_law.nd
  let N : List Str := ["script", "draws", "rows", "count", "shape", "menus", "outline", "hunks", "new", "wild", "change", "at", "taken", "put", "end", "apart"]
  let sc := defScope s_law
  exact (ssCons (sSet 1 NoPin.none nd (cCall G__law_draws (takes_of rfl rfl rfl rfl) (hr.mono (by decide)) (aCons (sv 0) aNil)))
    (ssCons (sSet 2 NoPin.none nd (cCall G__law_book (takes_of rfl rfl rfl rfl) (hr.mono (by decide)) (aCons (sv 1) (aCons sInt aNil))))
    (ssCons (sSet 3 NoPin.none nd (cCall G__law_count (takes_of rfl rfl rfl rfl) (hr.mono (by decide)) (aCons (sv 1) (aCons sInt aNil))))
    (ssCons (sSet 4 NoPin.none nd (cCall G__law_shape (takes_of rfl rfl rfl rfl) (hr.mono (by decide)) (aCons (sv 1) (aCons (sv 3) aNil))))
    (ssCons (sSet 5 NoPin.none nd (cCall G__law_menus (takes_of rfl rfl rfl rfl) (hr.mono (by decide)) (aCons (sv 2) (aCons (cCall G__law_kinds (takes_of rfl rfl rfl rfl) (hr.mono (by decide)) (aCons (sv 1) (aCons (sv 2) (aCons (sv 3) aNil)))) aNil))))
    (ssCons (sSet 6 NoPin.none nd (cCall G__law_leafs (takes_of rfl rfl rfl rfl) (hr.mono (by decide)) (aCons (sv 1) (aCons (sv 4) (aCons (sv 5) (aCons sInt aNil))))))
    (ssCons (sAsg (.tup [(.name 7), (.name 8)]) NoPin.none (cCall G__law_edited (takes_of rfl rfl rfl rfl) (hr.mono (by decide)) (aCons (sv 1) (aCons (sv 4) (aCons (sv 5) (aCons (sv 6) (aCons sInt aNil)))))) (gT rfl (gsC (gN 7 nd) (gsC (gN 8 nd) gsN))))
    (ssCons (sSet 9 NoPin.none nd (cCall G__law_wild (takes_of rfl rfl rfl rfl) (hr.mono (by decide)) (aCons (sv 1) (aCons (sv 6) aNil))))
    (ssCons (sSet 10 NoPin.none nd (cCall G__law_handed (takes_of rfl rfl rfl rfl) (hr.mono (by decide)) (aCons (sv 7) aNil)))
    (ssCons (sIte (PW.pt (wOr (tNt (tVal (cCall G__law_right (takes_of rfl rfl rfl rfl) (hr.mono (by decide)) (aCons (sv 6) (aCons (sv 7) (aCons (sv 10) aNil)))))) (pw_or1 (tNt (tVal (cCall (G__law_same 200) (takes_of rfl rfl rfl rfl) (hr.mono (by decide)) (aCons (cCall G_changed (takes_of rfl rfl rfl rfl) (hr.mono (by decide)) (aCons (cCall G__law_form (takes_of rfl rfl rfl rfl) (hr.mono (by decide)) (aCons (sv 6) aNil)) (aCons (sv 10) aNil))) (aCons (cCall G__law_form (takes_of rfl rfl rfl rfl) (hr.mono (by decide)) (aCons (sv 8) aNil)) aNil))))))))
    (ssOne (sRet sBl))
    ssNil)
    (ssCons (sIte (PW.pt (wOr (tNt (tVal (cCall (G__law_same 200) (takes_of rfl rfl rfl rfl) (hr.mono (by decide)) (aCons (cFld T.f_Change_hunks (cMake0 T.d_Change G_Change__init_ (takes_of rfl rfl rfl rfl) (hr.mono (by decide)))) (aCons (sTup aNil) aNil))))) (pw_or1 (tNt (tVal (cCall (G__law_same 200) (takes_of rfl rfl rfl rfl) (hr.mono (by decide)) (aCons (cCall G_changed (takes_of rfl rfl rfl rfl) (hr.mono (by decide)) (aCons (cCall G__law_form (takes_of rfl rfl rfl rfl) (hr.mono (by decide)) (aCons (sv 8) aNil)) (aCons (cMake0 T.d_Change G_Change__init_ (takes_of rfl rfl rfl rfl) (hr.mono (by decide))) aNil))) (aCons (cCall G__law_form (takes_of rfl rfl rfl rfl) (hr.mono (by decide)) (aCons (sv 8) aNil)) aNil))))))))
    (ssOne (sRet sBl))
    ssNil)
    (ssCons (sIte (PW.pt (wOr (tNt (tVal (cCall G__law_refused (takes_of rfl rfl rfl rfl) (hr.mono (by decide)) (aCons (sLst (aCons (sTup (aCons (sUn un_neg op1_neg sInt) (aCons (sTup aNil) (aCons (sTup (aCons (sTup (aCons sInt (aCons (sTup (aCons (sTup (aCons (sTup (aCons sStr (aCons sInt aNil))) aNil)) aNil)) aNil))) aNil)) aNil)))) aNil)) aNil)))) (pw_or1 (tNt (tVal (cCall G__law_refused (takes_of rfl rfl rfl rfl) (hr.mono (by decide)) (aCons (sLst (aCons (sTup (aCons sInt (aCons (sTup aNil) (aCons (sTup aNil) aNil)))) aNil)) aNil)))))))
    (ssOne (sRet sBl))
    ssNil)
    (ssCons (sIte (tCmp op_gt op2_gt (sCB call_len opa_len T.b_len (by decide +kernel) (aCons (sv 7) aNil)) sInt (nomark _))
    (ssCons (sAsg (.tup [(.name 11), (.name 12), (.name 13)]) NoPin.none (sIx ix_seq op2_ix (sv 7) sInt) (gT rfl (gsC (gN 11 nd) (gsC (gN 12 nd) (gsC (gN 13 nd) gsN)))))
    (ssCons (sSet 14 NoPin.none nd (sOp op_addG op2_add (sv 11) (sCB call_len opa_len T.b_len (by decide +kernel) (aCons (sv 12) aNil))))
    (ssCons (sIte (tNt (tVal (cCall G__law_refused (takes_of rfl rfl rfl rfl) (hr.mono (by decide)) (aCons (sLst (aCons (sIx ix_seq op2_ix (sv 7) sInt) (aCons (sTup (aCons (sv 14) (aCons (sv 13) (aCons (sv 12) aNil)))) aNil))) aNil))))
    (ssOne (sRet sBl))
    ssNil)
    (ssCons (sSet 15 NoPin.none nd (sTup (aCons (sIx ix_seq op2_ix (sv 7) sInt) (aCons (sTup (aCons (sOp op_addG op2_add (sv 14) sInt) (aCons (sv 13) (aCons (sv 12) aNil)))) aNil))))
    (ssOne (sIte (tNt (tVal (cCall G__law_right (takes_of rfl rfl rfl rfl) (hr.mono (by decide)) (aCons (sv 6) (aCons (sv 15) (aCons (cMake G_Change__init_ (takes_of rfl rfl rfl rfl) (hr.mono (by decide)) (aCons (sv 15) aNil)) aNil))))))
    (ssOne (sRet sBl))
    ssNil))))))
    ssNil)
    (ssCons (sIte (tNt (tVal (cCall G__law_hunks_good (takes_of rfl rfl rfl rfl) (hr.mono (by decide)) (aCons (sv 9) aNil))))
    (ssOne (sRet (cCall G__law_refused (takes_of rfl rfl rfl rfl) (hr.mono (by decide)) (aCons (sv 9) aNil))))
    ssNil)
    (ssOne (sRet (cCall G__law_right (takes_of rfl rfl rfl rfl) (hr.mono (by decide)) (aCons (sv 6) (aCons (sv 9) (aCons (cMake G_Change__init_ (takes_of rfl rfl rfl rfl) (hr.mono (by decide)) (aCons (sv 9) aNil)) aNil))))))))))))))))))))
end K62
end

section
set_option Elab.async false
set_option linter.all false
set_option maxRecDepth 100000
set_option maxHeartbeats 4000000
namespace K62
open PySem L2 PyProof.Rows Mini PM
theorem all_mk {P : Program} {w : World} {K : PySem.W.Frag} {h : Heap} {mg : Str → Option Value} {fa : Addr} {C0 C1 C38 C39 C40 f1 f2 f3 f4 f5 f6 f7 f8 f9 f10 f11 f12 f13 f14 f15 f16 f17 f18 f19 f20 f21 f22 f23 f24 f25 f26 f27 f28 f29 f30 f31 f32 f33 f34 f35 f36 f37 f38 f39 f40 : Addr}
    {ode17 : Option Addr} {ne17 : Nat} {sle17 : Array (Option Value)}
    {od1 an1 : Option Addr} {sl1 : Array (Option Value)} {oc1 kV1 dc1 pm1 cd1 ct1 : Value}
    {od2 an2 : Option Addr} {sl2 : Array (Option Value)} {oc2 kV2 dc2 pm2 cd2 ct2 : Value}
    {od3 an3 : Option Addr} {sl3 : Array (Option Value)} {oc3 kV3 dc3 pm3 cd3 ct3 : Value}
    {od4 an4 : Option Addr} {sl4 : Array (Option Value)} {oc4 kV4 dc4 pm4 cd4 ct4 : Value}
    {od5 an5 : Option Addr} {sl5 : Array (Option Value)} {oc5 kV5 dc5 pm5 cd5 ct5 : Value}
    {od6 an6 : Option Addr} {sl6 : Array (Option Value)} {oc6 kV6 dc6 pm6 cd6 ct6 : Value}
    {od7 an7 : Option Addr} {sl7 : Array (Option Value)} {oc7 kV7 dc7 pm7 cd7 ct7 : Value}
    {od8 an8 : Option Addr} {sl8 : Array (Option Value)} {oc8 kV8 dc8 pm8 cd8 ct8 : Value}
    {od9 an9 : Option Addr} {sl9 : Array (Option Value)} {oc9 kV9 dc9 pm9 cd9 ct9 : Value}
    {od10 an10 : Option Addr} {sl10 : Array (Option Value)} {oc10 kV10 dc10 pm10 cd10 ct10 : Value}
    {od11 an11 : Option Addr} {sl11 : Array (Option Value)} {oc11 kV11 dc11 pm11 cd11 ct11 : Value}
    {od12 an12 : Option Addr} {sl12 : Array (Option Value)} {oc12 kV12 dc12 pm12 cd12 ct12 : Value}
    {od13 an13 : Option Addr} {sl13 : Array (Option Value)} {oc13 kV13 dc13 pm13 cd13 ct13 : Value}
    {od14 an14 : Option Addr} {sl14 : Array (Option Value)} {oc14 kV14 dc14 pm14 cd14 ct14 : Value}
    {od15 an15 : Option Addr} {sl15 : Array (Option Value)} {oc15 kV15 dc15 pm15 cd15 ct15 : Value}
    {od16 an16 : Option Addr} {sl16 : Array (Option Value)} {oc16 kV16 dc16 pm16 cd16 ct16 : Value}
    {od17 an17 : Option Addr} {sl17 : Array (Option Value)} {oc17 kV17 dc17 pm17 cd17 ct17 : Value}
    {T17 e17 : Addr} {ot17 : Value} {odt17 : Option Addr} {nt17 : Nat} {slt17 : Array (Option Value)}
    {od18 an18 : Option Addr} {sl18 : Array (Option Value)} {oc18 kV18 dc18 pm18 cd18 ct18 : Value}
    {od19 an19 : Option Addr} {sl19 : Array (Option Value)} {oc19 kV19 dc19 pm19 cd19 ct19 : Value}
    {od20 an20 : Option Addr} {sl20 : Array (Option Value)} {oc20 kV20 dc20 pm20 cd20 ct20 : Value}
    {od21 an21 : Option Addr} {sl21 : Array (Option Value)} {oc21 kV21 dc21 pm21 cd21 ct21 : Value}
    {od22 an22 : Option Addr} {sl22 : Array (Option Value)} {oc22 kV22 dc22 pm22 cd22 ct22 : Value}
    {od23 an23 : Option Addr} {sl23 : Array (Option Value)} {oc23 kV23 dc23 pm23 cd23 ct23 : Value}
    {od24 an24 : Option Addr} {sl24 : Array (Option Value)} {oc24 kV24 dc24 pm24 cd24 ct24 : Value}
    {od25 an25 : Option Addr} {sl25 : Array (Option Value)} {oc25 kV25 dc25 pm25 cd25 ct25 : Value}
    {od26 an26 : Option Addr} {sl26 : Array (Option Value)} {oc26 kV26 dc26 pm26 cd26 ct26 : Value}
    {od27 an27 : Option Addr} {sl27 : Array (Option Value)} {oc27 kV27 dc27 pm27 cd27 ct27 : Value}
    {od28 an28 : Option Addr} {sl28 : Array (Option Value)} {oc28 kV28 dc28 pm28 cd28 ct28 : Value}
    {od29 an29 : Option Addr} {sl29 : Array (Option Value)} {oc29 kV29 dc29 pm29 cd29 ct29 : Value}
    {od30 an30 : Option Addr} {sl30 : Array (Option Value)} {oc30 kV30 dc30 pm30 cd30 ct30 : Value}
    {od31 an31 : Option Addr} {sl31 : Array (Option Value)} {oc31 kV31 dc31 pm31 cd31 ct31 : Value}
    {od32 an32 : Option Addr} {sl32 : Array (Option Value)} {oc32 kV32 dc32 pm32 cd32 ct32 : Value}
    {od33 an33 : Option Addr} {sl33 : Array (Option Value)} {oc33 kV33 dc33 pm33 cd33 ct33 : Value}
    {od34 an34 : Option Addr} {sl34 : Array (Option Value)} {oc34 kV34 dc34 pm34 cd34 ct34 : Value}
    {od35 an35 : Option Addr} {sl35 : Array (Option Value)} {oc35 kV35 dc35 pm35 cd35 ct35 : Value}
    {od36 an36 : Option Addr} {sl36 : Array (Option Value)} {oc36 kV36 dc36 pm36 cd36 ct36 : Value}
    {od37 an37 : Option Addr} {sl37 : Array (Option Value)} {oc37 kV37 dc37 pm37 cd37 ct37 : Value}
    {od38 an38 : Option Addr} {sl38 : Array (Option Value)} {oc38 kV38 dc38 pm38 cd38 ct38 : Value}
    {od39 an39 : Option Addr} {sl39 : Array (Option Value)} {oc39 kV39 dc39 pm39 cd39 ct39 : Value}
    {od40 an40 : Option Addr} {sl40 : Array (Option Value)} {oc40 kV40 dc40 pm40 cd40 ct40 : Value}
    (X : K.In h) (G : h.Ns mainGlobals mg) (hfa : mg "law" = some (.ref fa))
    (z_bool : PySem.W.nsIn K mainGlobals "bool" = some none)
    (z_int : PySem.W.nsIn K mainGlobals "int" = some none)
    (z_isinstance : PySem.W.nsIn K mainGlobals "isinstance" = some none)
    (z_len : PySem.W.nsIn K mainGlobals "len" = some none)
    (z_list : PySem.W.nsIn K mainGlobals "list" = some none)
    (z_max : PySem.W.nsIn K mainGlobals "max" = some none)
    (z_min : PySem.W.nsIn K mainGlobals "min" = some none)
    (z_range : PySem.W.nsIn K mainGlobals "range" = some none)
    (z_str : PySem.W.nsIn K mainGlobals "str" = some none)
    (z_sum : PySem.W.nsIn K mainGlobals "sum" = some none)
    (z_tuple : PySem.W.nsIn K mainGlobals "tuple" = some none)
    (xa38 : PySem.W.nsIn K mainGlobals "InvalidChange" = some (some (.ref C38)))
    (xe38 : PySem.W.excIn K C38 [.type "ValueError", .type "Exception", .type "BaseException", .type "object"] "ValueError.__new__" = true)
    (xk38 : PySem.W.keepIn K (.ref C38) = true)
    (xb38 : PySem.W.subIn K (.ref C38) (.type "BaseException") = some true)
    (xt38 : PySem.W.typeIn K (.ref C38) = some (.type "type"))
    (xa1 : PySem.W.nsIn K mainGlobals "InvalidForm" = some (some (.ref C1)))
    (xe1 : PySem.W.excIn K C1 [.type "ValueError", .type "Exception", .type "BaseException", .type "object"] "ValueError.__new__" = true)
    (xk1 : PySem.W.keepIn K (.ref C1) = true)
    (xb1 : PySem.W.subIn K (.ref C1) (.type "BaseException") = some true)
    (xt1 : PySem.W.typeIn K (.ref C1) = some (.type "type"))
    (xa39 : PySem.W.nsIn K mainGlobals "Unfit" = some (some (.ref C39)))
    (xe39 : PySem.W.excIn K C39 [.type "ValueError", .type "Exception", .type "BaseException", .type "object"] "ValueError.__new__" = true)
    (xk39 : PySem.W.keepIn K (.ref C39) = true)
    (xb39 : PySem.W.subIn K (.ref C39) (.type "BaseException") = some true)
    (xt39 : PySem.W.typeIn K (.ref C39) = some (.type "type"))
    (xa0 : PySem.W.nsIn K mainGlobals "FormroadsError" = some (some (.ref C0)))
    (hb38 : PySem.W.subIn K (.ref C38) (.type "BaseException") = some true)
    (hd38 : PySem.W.hasDictIn K C38 = true)
    (ht38 : PySem.W.typeIn K (.ref C38) = some (.type "type"))
    (sb0_38 : PySem.W.subIn K (.ref C0) (.ref C38) = some false)
    (sb1_38 : PySem.W.subIn K (.ref C1) (.ref C38) = some false)
    (sb38_38 : PySem.W.subIn K (.ref C38) (.ref C38) = some true)
    (sb39_38 : PySem.W.subIn K (.ref C39) (.ref C38) = some false)
    (hb1 : PySem.W.subIn K (.ref C1) (.type "BaseException") = some true)
    (hd1 : PySem.W.hasDictIn K C1 = true)
    (ht1 : PySem.W.typeIn K (.ref C1) = some (.type "type"))
    (sb0_1 : PySem.W.subIn K (.ref C0) (.ref C1) = some false)
    (sb1_1 : PySem.W.subIn K (.ref C1) (.ref C1) = some true)
    (sb38_1 : PySem.W.subIn K (.ref C38) (.ref C1) = some false)
    (sb39_1 : PySem.W.subIn K (.ref C39) (.ref C1) = some false)
    (hb39 : PySem.W.subIn K (.ref C39) (.type "BaseException") = some true)
    (hd39 : PySem.W.hasDictIn K C39 = true)
    (ht39 : PySem.W.typeIn K (.ref C39) = some (.type "type"))
    (sb0_39 : PySem.W.subIn K (.ref C0) (.ref C39) = some false)
    (sb1_39 : PySem.W.subIn K (.ref C1) (.ref C39) = some false)
    (sb38_39 : PySem.W.subIn K (.ref C38) (.ref C39) = some false)
    (sb39_39 : PySem.W.subIn K (.ref C39) (.ref C39) = some true)
    (hb0 : PySem.W.subIn K (.ref C0) (.type "BaseException") = some true)
    (hd0 : PySem.W.hasDictIn K C0 = true)
    (ht0 : PySem.W.typeIn K (.ref C0) = some (.type "type"))
    (sb38_0 : PySem.W.subIn K (.ref C38) (.ref C0) = some true)
    (sb0_0 : PySem.W.subIn K (.ref C0) (.ref C0) = some true)
    (ec38_g : PySem.W.findIn K (.ref C38) "__getattribute__" = some (some (.builtin "BaseException.__getattribute__")))
    (ec38_k : PySem.W.findIn K (.ref C38) "__getattr__" = some none)
    (ec38_s : PySem.W.subIn K (.ref C38) (.type "BaseException") = some true)
    (ec38_d : PySem.W.hasDictIn K C38 = true)
    (ec38_a : PySem.W.findIn K (.ref C38) "__class__" = some (some (.builtin "object.__class__")))
    (ec38_n : PySem.W.specialIn K (.builtin "object.__class__") "__get__" = some (some (.builtin "getset_descriptor.__get__")))
    (ec38_t : PySem.W.takesIn K (.builtin "object.__class__") = some true)
    (ec38_m : PySem.W.mroIn K C38 (.type "object") = some true)
    (ec1_g : PySem.W.findIn K (.ref C1) "__getattribute__" = some (some (.builtin "BaseException.__getattribute__")))
    (ec1_k : PySem.W.findIn K (.ref C1) "__getattr__" = some none)
    (ec1_s : PySem.W.subIn K (.ref C1) (.type "BaseException") = some true)
    (ec1_d : PySem.W.hasDictIn K C1 = true)
    (ec1_a : PySem.W.findIn K (.ref C1) "__class__" = some (some (.builtin "object.__class__")))
    (ec1_n : PySem.W.specialIn K (.builtin "object.__class__") "__get__" = some (some (.builtin "getset_descriptor.__get__")))
    (ec1_t : PySem.W.takesIn K (.builtin "object.__class__") = some true)
    (ec1_m : PySem.W.mroIn K C1 (.type "object") = some true)
    (sb39_0 : PySem.W.subIn K (.ref C39) (.ref C0) = some true)
    (ec39_g : PySem.W.findIn K (.ref C39) "__getattribute__" = some (some (.builtin "BaseException.__getattribute__")))
    (ec39_k : PySem.W.findIn K (.ref C39) "__getattr__" = some none)
    (ec39_s : PySem.W.subIn K (.ref C39) (.type "BaseException") = some true)
    (ec39_d : PySem.W.hasDictIn K C39 = true)
    (ec39_a : PySem.W.findIn K (.ref C39) "__class__" = some (some (.builtin "object.__class__")))
    (ec39_n : PySem.W.specialIn K (.builtin "object.__class__") "__get__" = some (some (.builtin "getset_descriptor.__get__")))
    (ec39_t : PySem.W.takesIn K (.builtin "object.__class__") = some true)
    (ec39_m : PySem.W.mroIn K C39 (.type "object") = some true)
    (z_ValueError : PySem.W.nsIn K mainGlobals "ValueError" = some none)
    (ki38_v : PySem.W.subIn K (.ref C38) (.type "ValueError") = some true)
    (ki1_v : PySem.W.subIn K (.ref C1) (.type "ValueError") = some true)
    (ca40 : PySem.W.nsIn K mainGlobals "Change" = some (some (.ref C40)))
    (cp40 : PySem.W.plainGet K C40 Str.empty = true)
    (ch40 : PySem.W.hasDictIn K C40 = true)
    (co40 : PySem.W.plainOver K C40 = true)
    (cs40 : PySem.W.findIn K (.ref C40) "__setattr__" = some (some (.builtin "object.__setattr__")))
    (cn40_hunks : PySem.W.findIn K (.ref C40) "hunks" = some none)
    (a1 : PySem.W.nsIn K mainGlobals "_law_draws" = some (some (.ref f1)))
    (l1 : K.lookup f1 = some ⟨oc1, od1, .func (PySem.W.fnOf "_law_draws" "_law_draws" (defArgs s__law_draws) (defBody s__law_draws) (defScope s__law_draws) .none kV1 dc1 pm1 an1 cd1 ct1), sl1⟩)
    (c1 : PySem.W.codeIn K cd1 "_law_draws" = true)
    (k1 : PySem.W.keepIn K (.ref f1) = true)
    (a2 : PySem.W.nsIn K mainGlobals "_law_draw" = some (some (.ref f2)))
    (l2 : K.lookup f2 = some ⟨oc2, od2, .func (PySem.W.fnOf "_law_draw" "_law_draw" (defArgs s__law_draw) (defBody s__law_draw) (defScope s__law_draw) .none kV2 dc2 pm2 an2 cd2 ct2), sl2⟩)
    (c2 : PySem.W.codeIn K cd2 "_law_draw" = true)
    (k2 : PySem.W.keepIn K (.ref f2) = true)
    (a3 : PySem.W.nsIn K mainGlobals "_law_pick" = some (some (.ref f3)))
    (l3 : K.lookup f3 = some ⟨oc3, od3, .func (PySem.W.fnOf "_law_pick" "_law_pick" (defArgs s__law_pick) (defBody s__law_pick) (defScope s__law_pick) .none kV3 dc3 pm3 an3 cd3 ct3), sl3⟩)
    (c3 : PySem.W.codeIn K cd3 "_law_pick" = true)
    (k3 : PySem.W.keepIn K (.ref f3) = true)
    (a4 : PySem.W.nsIn K mainGlobals "_law_names" = some (some (.ref f4)))
    (l4 : K.lookup f4 = some ⟨oc4, od4, .func (PySem.W.fnOf "_law_names" "_law_names" (defArgs s__law_names) (defBody s__law_names) (defScope s__law_names) .none kV4 dc4 pm4 an4 cd4 ct4), sl4⟩)
    (c4 : PySem.W.codeIn K cd4 "_law_names" = true)
    (k4 : PySem.W.keepIn K (.ref f4) = true)
    (a5 : PySem.W.nsIn K mainGlobals "_law_book" = some (some (.ref f5)))
    (l5 : K.lookup f5 = some ⟨oc5, od5, .func (PySem.W.fnOf "_law_book" "_law_book" (defArgs s__law_book) (defBody s__law_book) (defScope s__law_book) .none kV5 dc5 pm5 an5 cd5 ct5), sl5⟩)
    (c5 : PySem.W.codeIn K cd5 "_law_book" = true)
    (k5 : PySem.W.keepIn K (.ref f5) = true)
    (a6 : PySem.W.nsIn K mainGlobals "_law_count" = some (some (.ref f6)))
    (l6 : K.lookup f6 = some ⟨oc6, od6, .func (PySem.W.fnOf "_law_count" "_law_count" (defArgs s__law_count) (defBody s__law_count) (defScope s__law_count) .none kV6 dc6 pm6 an6 cd6 ct6), sl6⟩)
    (c6 : PySem.W.codeIn K cd6 "_law_count" = true)
    (k6 : PySem.W.keepIn K (.ref f6) = true)
    (a7 : PySem.W.nsIn K mainGlobals "_law_shape" = some (some (.ref f7)))
    (l7 : K.lookup f7 = some ⟨oc7, od7, .func (PySem.W.fnOf "_law_shape" "_law_shape" (defArgs s__law_shape) (defBody s__law_shape) (defScope s__law_shape) .none kV7 dc7 pm7 an7 cd7 ct7), sl7⟩)
    (c7 : PySem.W.codeIn K cd7 "_law_shape" = true)
    (k7 : PySem.W.keepIn K (.ref f7) = true)
    (a8 : PySem.W.nsIn K mainGlobals "_law_members" = some (some (.ref f8)))
    (l8 : K.lookup f8 = some ⟨oc8, od8, .func (PySem.W.fnOf "_law_members" "_law_members" (defArgs s__law_members) (defBody s__law_members) (defScope s__law_members) .none kV8 dc8 pm8 an8 cd8 ct8), sl8⟩)
    (c8 : PySem.W.codeIn K cd8 "_law_members" = true)
    (k8 : PySem.W.keepIn K (.ref f8) = true)
    (a9 : PySem.W.nsIn K mainGlobals "_law_menus" = some (some (.ref f9)))
    (l9 : K.lookup f9 = some ⟨oc9, od9, .func (PySem.W.fnOf "_law_menus" "_law_menus" (defArgs s__law_menus) (defBody s__law_menus) (defScope s__law_menus) .none kV9 dc9 pm9 an9 cd9 ct9), sl9⟩)
    (c9 : PySem.W.codeIn K cd9 "_law_menus" = true)
    (k9 : PySem.W.keepIn K (.ref f9) = true)
    (a10 : PySem.W.nsIn K mainGlobals "_law_kinds" = some (some (.ref f10)))
    (l10 : K.lookup f10 = some ⟨oc10, od10, .func (PySem.W.fnOf "_law_kinds" "_law_kinds" (defArgs s__law_kinds) (defBody s__law_kinds) (defScope s__law_kinds) .none kV10 dc10 pm10 an10 cd10 ct10), sl10⟩)
    (c10 : PySem.W.codeIn K cd10 "_law_kinds" = true)
    (k10 : PySem.W.keepIn K (.ref f10) = true)
    (a11 : PySem.W.nsIn K mainGlobals "_law_leaf" = some (some (.ref f11)))
    (l11 : K.lookup f11 = some ⟨oc11, od11, .func (PySem.W.fnOf "_law_leaf" "_law_leaf" (defArgs s__law_leaf) (defBody s__law_leaf) (defScope s__law_leaf) .none kV11 dc11 pm11 an11 cd11 ct11), sl11⟩)
    (c11 : PySem.W.codeIn K cd11 "_law_leaf" = true)
    (k11 : PySem.W.keepIn K (.ref f11) = true)
    (a12 : PySem.W.nsIn K mainGlobals "_law_leafs" = some (some (.ref f12)))
    (l12 : K.lookup f12 = some ⟨oc12, od12, .func (PySem.W.fnOf "_law_leafs" "_law_leafs" (defArgs s__law_leafs) (defBody s__law_leafs) (defScope s__law_leafs) .none kV12 dc12 pm12 an12 cd12 ct12), sl12⟩)
    (c12 : PySem.W.codeIn K cd12 "_law_leafs" = true)
    (k12 : PySem.W.keepIn K (.ref f12) = true)
    (a13 : PySem.W.nsIn K mainGlobals "_law_mended" = some (some (.ref f13)))
    (l13 : K.lookup f13 = some ⟨oc13, od13, .func (PySem.W.fnOf "_law_mended" "_law_mended" (defArgs s__law_mended) (defBody s__law_mended) (defScope s__law_mended) .none kV13 dc13 pm13 an13 cd13 ct13), sl13⟩)
    (c13 : PySem.W.codeIn K cd13 "_law_mended" = true)
    (k13 : PySem.W.keepIn K (.ref f13) = true)
    (a14 : PySem.W.nsIn K mainGlobals "_law_edited" = some (some (.ref f14)))
    (l14 : K.lookup f14 = some ⟨oc14, od14, .func (PySem.W.fnOf "_law_edited" "_law_edited" (defArgs s__law_edited) (defBody s__law_edited) (defScope s__law_edited) .none kV14 dc14 pm14 an14 cd14 ct14), sl14⟩)
    (c14 : PySem.W.codeIn K cd14 "_law_edited" = true)
    (k14 : PySem.W.keepIn K (.ref f14) = true)
    (a15 : PySem.W.nsIn K mainGlobals "_law_wild" = some (some (.ref f15)))
    (l15 : K.lookup f15 = some ⟨oc15, od15, .func (PySem.W.fnOf "_law_wild" "_law_wild" (defArgs s__law_wild) (defBody s__law_wild) (defScope s__law_wild) .none kV15 dc15 pm15 an15 cd15 ct15), sl15⟩)
    (c15 : PySem.W.codeIn K cd15 "_law_wild" = true)
    (k15 : PySem.W.keepIn K (.ref f15) = true)
    (a16 : PySem.W.nsIn K mainGlobals "check_hunks" = some (some (.ref f16)))
    (l16 : K.lookup f16 = some ⟨oc16, od16, .func (PySem.W.fnOf "check_hunks" "check_hunks" (defArgs s_check_hunks) (defBody s_check_hunks) (defScope s_check_hunks) .none kV16 dc16 pm16 an16 cd16 ct16), sl16⟩)
    (c16 : PySem.W.codeIn K cd16 "check_hunks" = true)
    (k16 : PySem.W.keepIn K (.ref f16) = true)
    (mk17 : PySem.W.makesIn K C40 = true)
    (kc17 : PySem.W.keepIn K (.ref C40) = true)
    (a17 : PySem.W.findIn K (.ref C40) "__init__" = some (some (.ref f17)))
    (i17 : PySem.W.isFn K (.ref f17) = true)
    (l17 : K.lookup f17 = some ⟨oc17, od17, .func (PySem.W.fnOf "__init__" "Change.__init__" (defArgs s_Change__init_) (defBody s_Change__init_) (defScope s_Change__init_) (.ref T17) kV17 dc17 pm17 an17 cd17 ct17), sl17⟩)
    (c17 : PySem.W.codeIn K cd17 "Change.__init__" = true)
    (k17 : PySem.W.keepIn K (.ref f17) = true)
    (lT17 : K.lookup T17 = some ⟨ot17, odt17, .seq #[.ref e17] nt17, slt17⟩)
    (a18 : PySem.W.nsIn K mainGlobals "_law_handed" = some (some (.ref f18)))
    (l18 : K.lookup f18 = some ⟨oc18, od18, .func (PySem.W.fnOf "_law_handed" "_law_handed" (defArgs s__law_handed) (defBody s__law_handed) (defScope s__law_handed) .none kV18 dc18 pm18 an18 cd18 ct18), sl18⟩)
    (c18 : PySem.W.codeIn K cd18 "_law_handed" = true)
    (k18 : PySem.W.keepIn K (.ref f18) = true)
    (a19 : PySem.W.nsIn K mainGlobals "_law_same" = some (some (.ref f19)))
    (l19 : K.lookup f19 = some ⟨oc19, od19, .func (PySem.W.fnOf "_law_same" "_law_same" (defArgs s__law_same) (defBody s__law_same) (defScope s__law_same) .none kV19 dc19 pm19 an19 cd19 ct19), sl19⟩)
    (c19 : PySem.W.codeIn K cd19 "_law_same" = true)
    (k19 : PySem.W.keepIn K (.ref f19) = true)
    (a20 : PySem.W.findIn K (.ref C40) "growth" = some (some (.ref f20)))
    (i20 : PySem.W.isFn K (.ref f20) = true)
    (l20 : K.lookup f20 = some ⟨oc20, od20, .func (PySem.W.fnOf "growth" "Change.growth" (defArgs s_Change_growth) (defBody s_Change_growth) (defScope s_Change_growth) .none kV20 dc20 pm20 an20 cd20 ct20), sl20⟩)
    (c20 : PySem.W.codeIn K cd20 "Change.growth" = true)
    (k20 : PySem.W.keepIn K (.ref f20) = true)
    (a21 : PySem.W.findIn K (.ref C40) "touched" = some (some (.ref f21)))
    (i21 : PySem.W.isFn K (.ref f21) = true)
    (l21 : K.lookup f21 = some ⟨oc21, od21, .func (PySem.W.fnOf "touched" "Change.touched" (defArgs s_Change_touched) (defBody s_Change_touched) (defScope s_Change_touched) .none kV21 dc21 pm21 an21 cd21 ct21), sl21⟩)
    (c21 : PySem.W.codeIn K cd21 "Change.touched" = true)
    (k21 : PySem.W.keepIn K (.ref f21) = true)
    (a22 : PySem.W.findIn K (.ref C40) "contrary" = some (some (.ref f22)))
    (i22 : PySem.W.isFn K (.ref f22) = true)
    (l22 : K.lookup f22 = some ⟨oc22, od22, .func (PySem.W.fnOf "contrary" "Change.contrary" (defArgs s_Change_contrary) (defBody s_Change_contrary) (defScope s_Change_contrary) .none kV22 dc22 pm22 an22 cd22 ct22), sl22⟩)
    (c22 : PySem.W.codeIn K cd22 "Change.contrary" = true)
    (k22 : PySem.W.keepIn K (.ref f22) = true)
    (a23 : PySem.W.nsIn K mainGlobals "_law_contrary" = some (some (.ref f23)))
    (l23 : K.lookup f23 = some ⟨oc23, od23, .func (PySem.W.fnOf "_law_contrary" "_law_contrary" (defArgs s__law_contrary) (defBody s__law_contrary) (defScope s__law_contrary) .none kV23 dc23 pm23 an23 cd23 ct23), sl23⟩)
    (c23 : PySem.W.codeIn K cd23 "_law_contrary" = true)
    (k23 : PySem.W.keepIn K (.ref f23) = true)
    (a24 : PySem.W.nsIn K mainGlobals "_law_counted" = some (some (.ref f24)))
    (l24 : K.lookup f24 = some ⟨oc24, od24, .func (PySem.W.fnOf "_law_counted" "_law_counted" (defArgs s__law_counted) (defBody s__law_counted) (defScope s__law_counted) .none kV24 dc24 pm24 an24 cd24 ct24), sl24⟩)
    (c24 : PySem.W.codeIn K cd24 "_law_counted" = true)
    (k24 : PySem.W.keepIn K (.ref f24) = true)
    (a25 : PySem.W.nsIn K mainGlobals "_law_spliced" = some (some (.ref f25)))
    (l25 : K.lookup f25 = some ⟨oc25, od25, .func (PySem.W.fnOf "_law_spliced" "_law_spliced" (defArgs s__law_spliced) (defBody s__law_spliced) (defScope s__law_spliced) .none kV25 dc25 pm25 an25 cd25 ct25), sl25⟩)
    (c25 : PySem.W.codeIn K cd25 "_law_spliced" = true)
    (k25 : PySem.W.keepIn K (.ref f25) = true)
    (a26 : PySem.W.nsIn K mainGlobals "_law_form" = some (some (.ref f26)))
    (l26 : K.lookup f26 = some ⟨oc26, od26, .func (PySem.W.fnOf "_law_form" "_law_form" (defArgs s__law_form) (defBody s__law_form) (defScope s__law_form) .none kV26 dc26 pm26 an26 cd26 ct26), sl26⟩)
    (c26 : PySem.W.codeIn K cd26 "_law_form" = true)
    (k26 : PySem.W.keepIn K (.ref f26) = true)
    (a27 : PySem.W.nsIn K mainGlobals "replaced" = some (some (.ref f27)))
    (l27 : K.lookup f27 = some ⟨oc27, od27, .func (PySem.W.fnOf "replaced" "replaced" (defArgs s_replaced) (defBody s_replaced) (defScope s_replaced) .none kV27 dc27 pm27 an27 cd27 ct27), sl27⟩)
    (c27 : PySem.W.codeIn K cd27 "replaced" = true)
    (k27 : PySem.W.keepIn K (.ref f27) = true)
    (a28 : PySem.W.nsIn K mainGlobals "spliced" = some (some (.ref f28)))
    (l28 : K.lookup f28 = some ⟨oc28, od28, .func (PySem.W.fnOf "spliced" "spliced" (defArgs s_spliced) (defBody s_spliced) (defScope s_spliced) .none kV28 dc28 pm28 an28 cd28 ct28), sl28⟩)
    (c28 : PySem.W.codeIn K cd28 "spliced" = true)
    (k28 : PySem.W.keepIn K (.ref f28) = true)
    (a29 : PySem.W.nsIn K mainGlobals "_law_splice" = some (some (.ref f29)))
    (l29 : K.lookup f29 = some ⟨oc29, od29, .func (PySem.W.fnOf "_law_splice" "_law_splice" (defArgs s__law_splice) (defBody s__law_splice) (defScope s__law_splice) .none kV29 dc29 pm29 an29 cd29 ct29), sl29⟩)
    (c29 : PySem.W.codeIn K cd29 "_law_splice" = true)
    (k29 : PySem.W.keepIn K (.ref f29) = true)
    (a30 : PySem.W.nsIn K mainGlobals "_law_outline_good" = some (some (.ref f30)))
    (l30 : K.lookup f30 = some ⟨oc30, od30, .func (PySem.W.fnOf "_law_outline_good" "_law_outline_good" (defArgs s__law_outline_good) (defBody s__law_outline_good) (defScope s__law_outline_good) .none kV30 dc30 pm30 an30 cd30 ct30), sl30⟩)
    (c30 : PySem.W.codeIn K cd30 "_law_outline_good" = true)
    (k30 : PySem.W.keepIn K (.ref f30) = true)
    (a31 : PySem.W.nsIn K mainGlobals "check_outline" = some (some (.ref f31)))
    (l31 : K.lookup f31 = some ⟨oc31, od31, .func (PySem.W.fnOf "check_outline" "check_outline" (defArgs s_check_outline) (defBody s_check_outline) (defScope s_check_outline) .none kV31 dc31 pm31 an31 cd31 ct31), sl31⟩)
    (c31 : PySem.W.codeIn K cd31 "check_outline" = true)
    (k31 : PySem.W.keepIn K (.ref f31) = true)
    (a32 : PySem.W.nsIn K mainGlobals "form_of" = some (some (.ref f32)))
    (l32 : K.lookup f32 = some ⟨oc32, od32, .func (PySem.W.fnOf "form_of" "form_of" (defArgs s_form_of) (defBody s_form_of) (defScope s_form_of) .none kV32 dc32 pm32 an32 cd32 ct32), sl32⟩)
    (c32 : PySem.W.codeIn K cd32 "form_of" = true)
    (k32 : PySem.W.keepIn K (.ref f32) = true)
    (a33 : PySem.W.nsIn K mainGlobals "add_leaves" = some (some (.ref f33)))
    (l33 : K.lookup f33 = some ⟨oc33, od33, .func (PySem.W.fnOf "add_leaves" "add_leaves" (defArgs s_add_leaves) (defBody s_add_leaves) (defScope s_add_leaves) .none kV33 dc33 pm33 an33 cd33 ct33), sl33⟩)
    (c33 : PySem.W.codeIn K cd33 "add_leaves" = true)
    (k33 : PySem.W.keepIn K (.ref f33) = true)
    (a34 : PySem.W.nsIn K mainGlobals "outline_of" = some (some (.ref f34)))
    (l34 : K.lookup f34 = some ⟨oc34, od34, .func (PySem.W.fnOf "outline_of" "outline_of" (defArgs s_outline_of) (defBody s_outline_of) (defScope s_outline_of) .none kV34 dc34 pm34 an34 cd34 ct34), sl34⟩)
    (c34 : PySem.W.codeIn K cd34 "outline_of" = true)
    (k34 : PySem.W.keepIn K (.ref f34) = true)
    (a35 : PySem.W.nsIn K mainGlobals "changed" = some (some (.ref f35)))
    (l35 : K.lookup f35 = some ⟨oc35, od35, .func (PySem.W.fnOf "changed" "changed" (defArgs s_changed) (defBody s_changed) (defScope s_changed) .none kV35 dc35 pm35 an35 cd35 ct35), sl35⟩)
    (c35 : PySem.W.codeIn K cd35 "changed" = true)
    (k35 : PySem.W.keepIn K (.ref f35) = true)
    (a36 : PySem.W.nsIn K mainGlobals "_law_do" = some (some (.ref f36)))
    (l36 : K.lookup f36 = some ⟨oc36, od36, .func (PySem.W.fnOf "_law_do" "_law_do" (defArgs s__law_do) (defBody s__law_do) (defScope s__law_do) .none kV36 dc36 pm36 an36 cd36 ct36), sl36⟩)
    (c36 : PySem.W.codeIn K cd36 "_law_do" = true)
    (k36 : PySem.W.keepIn K (.ref f36) = true)
    (a37 : PySem.W.nsIn K mainGlobals "_law_right" = some (some (.ref f37)))
    (l37 : K.lookup f37 = some ⟨oc37, od37, .func (PySem.W.fnOf "_law_right" "_law_right" (defArgs s__law_right) (defBody s__law_right) (defScope s__law_right) .none kV37 dc37 pm37 an37 cd37 ct37), sl37⟩)
    (c37 : PySem.W.codeIn K cd37 "_law_right" = true)
    (k37 : PySem.W.keepIn K (.ref f37) = true)
    (a38 : PySem.W.nsIn K mainGlobals "_law_refused" = some (some (.ref f38)))
    (l38 : K.lookup f38 = some ⟨oc38, od38, .func (PySem.W.fnOf "_law_refused" "_law_refused" (defArgs s__law_refused) (defBody s__law_refused) (defScope s__law_refused) .none kV38 dc38 pm38 an38 cd38 ct38), sl38⟩)
    (c38 : PySem.W.codeIn K cd38 "_law_refused" = true)
    (k38 : PySem.W.keepIn K (.ref f38) = true)
    (a39 : PySem.W.nsIn K mainGlobals "_law_hunks_good" = some (some (.ref f39)))
    (l39 : K.lookup f39 = some ⟨oc39, od39, .func (PySem.W.fnOf "_law_hunks_good" "_law_hunks_good" (defArgs s__law_hunks_good) (defBody s__law_hunks_good) (defScope s__law_hunks_good) .none kV39 dc39 pm39 an39 cd39 ct39), sl39⟩)
    (c39 : PySem.W.codeIn K cd39 "_law_hunks_good" = true)
    (k39 : PySem.W.keepIn K (.ref f39) = true)
    (a40 : PySem.W.nsIn K mainGlobals "law" = some (some (.ref f40)))
    (l40 : K.lookup f40 = some ⟨oc40, od40, .func (PySem.W.fnOf "law" "law" (defArgs s_law) (defBody s_law) (defScope s_law) .none kV40 dc40 pm40 an40 cd40 ct40), sl40⟩)
    (c40 : PySem.W.codeIn K cd40 "law" = true)
    (k40 : PySem.W.keepIn K (.ref f40) = true)
    (le17 : K.lookup e17 = some ⟨.type "tuple", ode17, .seq #[] ne17, sle17⟩)
    (hp : ∀ ns : List Int, ns.length ≤ 63 → ∃ h', m_law_k62 [scriptM ns] [] = .ok (.bl true) h') :
    ∃ fd : FuncData, (∀ (s : Shared) (v : Value), BindsTo s fd ⟨[v], []⟩ [("script", v)]) ∧ ∀ base : Heap, K.In base → base.Ns mainGlobals mg → FnOk P w K mg base (L2.CX P w) 203 fa fd ["script"] (spLaw K) := by
  have e := hfa.symm.trans (PySem.W.mg_of X G a40)
  cases e
  refine ⟨PySem.W.fnOf "law" "law" (defArgs s_law) (defBody s_law) (defScope s_law) .none kV40 dc40 pm40 an40 cd40 ct40, fun s v => .of_eq rfl, fun base _ _ => ?_⟩
  have T : Txt K mg [C0, C1, C0, C0, C0, C0, C0, C0, C0, 0, 0, 0, C0, C0, C0, C0, C0, 0, C0, C0, C0, 0, C0, 0, C0, 0, 0, C0, C0, 0, C0, C0, C0, 0, 0, 0, C0, C0, C38, C39, C40, C0, 0, 0, 0, 0, 0, 0, 0] := ⟨PySem.W.mg_none_of X G z_bool, PySem.W.mg_none_of X G z_int, PySem.W.mg_none_of X G z_isinstance, PySem.W.mg_none_of X G z_len, PySem.W.mg_none_of X G z_list, PySem.W.mg_none_of X G z_max, PySem.W.mg_none_of X G z_min, PySem.W.mg_none_of X G z_range, PySem.W.mg_none_of X G z_str, PySem.W.mg_none_of X G z_sum, PySem.W.mg_none_of X G z_tuple, exc_mk X G rfl xa38 xe38 xk38 xb38 xt38, exc_mk X G rfl xa1 xe1 xk1 xb1 xt1, exc_mk X G rfl xa39 xe39 xk39 xb39 xt39, hdl_mk X G xa38 ⟨at_is (f := fun c => subG c 38) (c := 0) (v := false) (by decide) (exm_mk hb38 hd38 ht38 sb0_38), at_is (f := fun c => subG c 38) (c := 1) (v := false) (by decide) (exm_mk hb38 hd38 ht38 sb1_38), at_is (f := fun c => subG c 38) (c := 2) (v := false) (by decide) (exm_mk hb38 hd38 ht38 sb0_38), at_is (f := fun c => subG c 38) (c := 3) (v := false) (by decide) (exm_mk hb38 hd38 ht38 sb0_38), at_is (f := fun c => subG c 38) (c := 4) (v := false) (by decide) (exm_mk hb38 hd38 ht38 sb0_38), at_is (f := fun c => subG c 38) (c := 5) (v := false) (by decide) (exm_mk hb38 hd38 ht38 sb0_38), at_is (f := fun c => subG c 38) (c := 6) (v := false) (by decide) (exm_mk hb38 hd38 ht38 sb0_38), at_is (f := fun c => subG c 38) (c := 7) (v := false) (by decide) (exm_mk hb38 hd38 ht38 sb0_38), at_is (f := fun c => subG c 38) (c := 8) (v := false) (by decide) (exm_mk hb38 hd38 ht38 sb0_38), at_no (f := fun c => subG c 38) (c := 9) (by decide), at_no (f := fun c => subG c 38) (c := 10) (by decide), at_no (f := fun c => subG c 38) (c := 11) (by decide), at_is (f := fun c => subG c 38) (c := 12) (v := false) (by decide) (exm_mk hb38 hd38 ht38 sb0_38), at_is (f := fun c => subG c 38) (c := 13) (v := false) (by decide) (exm_mk hb38 hd38 ht38 sb0_38), at_is (f := fun c => subG c 38) (c := 14) (v := false) (by decide) (exm_mk hb38 hd38 ht38 sb0_38), at_is (f := fun c => subG c 38) (c := 15) (v := false) (by decide) (exm_mk hb38 hd38 ht38 sb0_38), at_is (f := fun c => subG c 38) (c := 16) (v := false) (by decide) (exm_mk hb38 hd38 ht38 sb0_38), at_no (f := fun c => subG c 38) (c := 17) (by decide), at_is (f := fun c => subG c 38) (c := 18) (v := false) (by decide) (exm_mk hb38 hd38 ht38 sb0_38), at_is (f := fun c => subG c 38) (c := 19) (v := false) (by decide) (exm_mk hb38 hd38 ht38 sb0_38), at_is (f := fun c => subG c 38) (c := 20) (v := false) (by decide) (exm_mk hb38 hd38 ht38 sb0_38), at_no (f := fun c => subG c 38) (c := 21) (by decide), at_is (f := fun c => subG c 38) (c := 22) (v := false) (by decide) (exm_mk hb38 hd38 ht38 sb0_38), at_no (f := fun c => subG c 38) (c := 23) (by decide), at_is (f := fun c => subG c 38) (c := 24) (v := false) (by decide) (exm_mk hb38 hd38 ht38 sb0_38), at_no (f := fun c => subG c 38) (c := 25) (by decide), at_no (f := fun c => subG c 38) (c := 26) (by decide), at_is (f := fun c => subG c 38) (c := 27) (v := false) (by decide) (exm_mk hb38 hd38 ht38 sb0_38), at_is (f := fun c => subG c 38) (c := 28) (v := false) (by decide) (exm_mk hb38 hd38 ht38 sb0_38), at_no (f := fun c => subG c 38) (c := 29) (by decide), at_is (f := fun c => subG c 38) (c := 30) (v := false) (by decide) (exm_mk hb38 hd38 ht38 sb0_38), at_is (f := fun c => subG c 38) (c := 31) (v := false) (by decide) (exm_mk hb38 hd38 ht38 sb0_38), at_is (f := fun c => subG c 38) (c := 32) (v := false) (by decide) (exm_mk hb38 hd38 ht38 sb0_38), at_no (f := fun c => subG c 38) (c := 33) (by decide), at_no (f := fun c => subG c 38) (c := 34) (by decide), at_no (f := fun c => subG c 38) (c := 35) (by decide), at_is (f := fun c => subG c 38) (c := 36) (v := false) (by decide) (exm_mk hb38 hd38 ht38 sb0_38), at_is (f := fun c => subG c 38) (c := 37) (v := false) (by decide) (exm_mk hb38 hd38 ht38 sb0_38), at_is (f := fun c => subG c 38) (c := 38) (v := true) (by decide) (exm_mk hb38 hd38 ht38 sb38_38), at_is (f := fun c => subG c 38) (c := 39) (v := false) (by decide) (exm_mk hb38 hd38 ht38 sb39_38), at_no (f := fun c => subG c 38) (c := 40) (by decide), at_is (f := fun c => subG c 38) (c := 41) (v := false) (by decide) (exm_mk hb38 hd38 ht38 sb0_38), at_no (f := fun c => subG c 38) (c := 42) (by decide), at_no (f := fun c => subG c 38) (c := 43) (by decide), at_no (f := fun c => subG c 38) (c := 44) (by decide), at_no (f := fun c => subG c 38) (c := 45) (by decide), at_no (f := fun c => subG c 38) (c := 46) (by decide), at_no (f := fun c => subG c 38) (c := 47) (by decide), at_no (f := fun c => subG c 38) (c := 48) (by decide), trivial⟩, hdl_mk X G xa1 ⟨at_is (f := fun c => subG c 1) (c := 0) (v := false) (by decide) (exm_mk hb1 hd1 ht1 sb0_1), at_is (f := fun c => subG c 1) (c := 1) (v := true) (by decide) (exm_mk hb1 hd1 ht1 sb1_1), at_is (f := fun c => subG c 1) (c := 2) (v := false) (by decide) (exm_mk hb1 hd1 ht1 sb0_1), at_is (f := fun c => subG c 1) (c := 3) (v := false) (by decide) (exm_mk hb1 hd1 ht1 sb0_1), at_is (f := fun c => subG c 1) (c := 4) (v := false) (by decide) (exm_mk hb1 hd1 ht1 sb0_1), at_is (f := fun c => subG c 1) (c := 5) (v := false) (by decide) (exm_mk hb1 hd1 ht1 sb0_1), at_is (f := fun c => subG c 1) (c := 6) (v := false) (by decide) (exm_mk hb1 hd1 ht1 sb0_1), at_is (f := fun c => subG c 1) (c := 7) (v := false) (by decide) (exm_mk hb1 hd1 ht1 sb0_1), at_is (f := fun c => subG c 1) (c := 8) (v := false) (by decide) (exm_mk hb1 hd1 ht1 sb0_1), at_no (f := fun c => subG c 1) (c := 9) (by decide), at_no (f := fun c => subG c 1) (c := 10) (by decide), at_no (f := fun c => subG c 1) (c := 11) (by decide), at_is (f := fun c => subG c 1) (c := 12) (v := false) (by decide) (exm_mk hb1 hd1 ht1 sb0_1), at_is (f := fun c => subG c 1) (c := 13) (v := false) (by decide) (exm_mk hb1 hd1 ht1 sb0_1), at_is (f := fun c => subG c 1) (c := 14) (v := false) (by decide) (exm_mk hb1 hd1 ht1 sb0_1), at_is (f := fun c => subG c 1) (c := 15) (v := false) (by decide) (exm_mk hb1 hd1 ht1 sb0_1), at_is (f := fun c => subG c 1) (c := 16) (v := false) (by decide) (exm_mk hb1 hd1 ht1 sb0_1), at_no (f := fun c => subG c 1) (c := 17) (by decide), at_is (f := fun c => subG c 1) (c := 18) (v := false) (by decide) (exm_mk hb1 hd1 ht1 sb0_1), at_is (f := fun c => subG c 1) (c := 19) (v := false) (by decide) (exm_mk hb1 hd1 ht1 sb0_1), at_is (f := fun c => subG c 1) (c := 20) (v := false) (by decide) (exm_mk hb1 hd1 ht1 sb0_1), at_no (f := fun c => subG c 1) (c := 21) (by decide), at_is (f := fun c => subG c 1) (c := 22) (v := false) (by decide) (exm_mk hb1 hd1 ht1 sb0_1), at_no (f := fun c => subG c 1) (c := 23) (by decide), at_is (f := fun c => subG c 1) (c := 24) (v := false) (by decide) (exm_mk hb1 hd1 ht1 sb0_1), at_no (f := fun c => subG c 1) (c := 25) (by decide), at_no (f := fun c => subG c 1) (c := 26) (by decide), at_is (f := fun c => subG c 1) (c := 27) (v := false) (by decide) (exm_mk hb1 hd1 ht1 sb0_1), at_is (f := fun c => subG c 1) (c := 28) (v := false) (by decide) (exm_mk hb1 hd1 ht1 sb0_1), at_no (f := fun c => subG c 1) (c := 29) (by decide), at_is (f := fun c => subG c 1) (c := 30) (v := false) (by decide) (exm_mk hb1 hd1 ht1 sb0_1), at_is (f := fun c => subG c 1) (c := 31) (v := false) (by decide) (exm_mk hb1 hd1 ht1 sb0_1), at_is (f := fun c => subG c 1) (c := 32) (v := false) (by decide) (exm_mk hb1 hd1 ht1 sb0_1), at_no (f := fun c => subG c 1) (c := 33) (by decide), at_no (f := fun c => subG c 1) (c := 34) (by decide), at_no (f := fun c => subG c 1) (c := 35) (by decide), at_is (f := fun c => subG c 1) (c := 36) (v := false) (by decide) (exm_mk hb1 hd1 ht1 sb0_1), at_is (f := fun c => subG c 1) (c := 37) (v := false) (by decide) (exm_mk hb1 hd1 ht1 sb0_1), at_is (f := fun c => subG c 1) (c := 38) (v := false) (by decide) (exm_mk hb1 hd1 ht1 sb38_1), at_is (f := fun c => subG c 1) (c := 39) (v := false) (by decide) (exm_mk hb1 hd1 ht1 sb39_1), at_no (f := fun c => subG c 1) (c := 40) (by decide), at_is (f := fun c => subG c 1) (c := 41) (v := false) (by decide) (exm_mk hb1 hd1 ht1 sb0_1), at_no (f := fun c => subG c 1) (c := 42) (by decide), at_no (f := fun c => subG c 1) (c := 43) (by decide), at_no (f := fun c => subG c 1) (c := 44) (by decide), at_no (f := fun c => subG c 1) (c := 45) (by decide), at_no (f := fun c => subG c 1) (c := 46) (by decide), at_no (f := fun c => subG c 1) (c := 47) (by decide), at_no (f := fun c => subG c 1) (c := 48) (by decide), trivial⟩, hdl_mk X G xa39 ⟨at_is (f := fun c => subG c 39) (c := 0) (v := false) (by decide) (exm_mk hb39 hd39 ht39 sb0_39), at_is (f := fun c => subG c 39) (c := 1) (v := false) (by decide) (exm_mk hb39 hd39 ht39 sb1_39), at_is (f := fun c => subG c 39) (c := 2) (v := false) (by decide) (exm_mk hb39 hd39 ht39 sb0_39), at_is (f := fun c => subG c 39) (c := 3) (v := false) (by decide) (exm_mk hb39 hd39 ht39 sb0_39), at_is (f := fun c => subG c 39) (c := 4) (v := false) (by decide) (exm_mk hb39 hd39 ht39 sb0_39), at_is (f := fun c => subG c 39) (c := 5) (v := false) (by decide) (exm_mk hb39 hd39 ht39 sb0_39), at_is (f := fun c => subG c 39) (c := 6) (v := false) (by decide) (exm_mk hb39 hd39 ht39 sb0_39), at_is (f := fun c => subG c 39) (c := 7) (v := false) (by decide) (exm_mk hb39 hd39 ht39 sb0_39), at_is (f := fun c => subG c 39) (c := 8) (v := false) (by decide) (exm_mk hb39 hd39 ht39 sb0_39), at_no (f := fun c => subG c 39) (c := 9) (by decide), at_no (f := fun c => subG c 39) (c := 10) (by decide), at_no (f := fun c => subG c 39) (c := 11) (by decide), at_is (f := fun c => subG c 39) (c := 12) (v := false) (by decide) (exm_mk hb39 hd39 ht39 sb0_39), at_is (f := fun c => subG c 39) (c := 13) (v := false) (by decide) (exm_mk hb39 hd39 ht39 sb0_39), at_is (f := fun c => subG c 39) (c := 14) (v := false) (by decide) (exm_mk hb39 hd39 ht39 sb0_39), at_is (f := fun c => subG c 39) (c := 15) (v := false) (by decide) (exm_mk hb39 hd39 ht39 sb0_39), at_is (f := fun c => subG c 39) (c := 16) (v := false) (by decide) (exm_mk hb39 hd39 ht39 sb0_39), at_no (f := fun c => subG c 39) (c := 17) (by decide), at_is (f := fun c => subG c 39) (c := 18) (v := false) (by decide) (exm_mk hb39 hd39 ht39 sb0_39), at_is (f := fun c => subG c 39) (c := 19) (v := false) (by decide) (exm_mk hb39 hd39 ht39 sb0_39), at_is (f := fun c => subG c 39) (c := 20) (v := false) (by decide) (exm_mk hb39 hd39 ht39 sb0_39), at_no (f := fun c => subG c 39) (c := 21) (by decide), at_is (f := fun c => subG c 39) (c := 22) (v := false) (by decide) (exm_mk hb39 hd39 ht39 sb0_39), at_no (f := fun c => subG c 39) (c := 23) (by decide), at_is (f := fun c => subG c 39) (c := 24) (v := false) (by decide) (exm_mk hb39 hd39 ht39 sb0_39), at_no (f := fun c => subG c 39) (c := 25) (by decide), at_no (f := fun c => subG c 39) (c := 26) (by decide), at_is (f := fun c => subG c 39) (c := 27) (v := false) (by decide) (exm_mk hb39 hd39 ht39 sb0_39), at_is (f := fun c => subG c 39) (c := 28) (v := false) (by decide) (exm_mk hb39 hd39 ht39 sb0_39), at_no (f := fun c => subG c 39) (c := 29) (by decide), at_is (f := fun c => subG c 39) (c := 30) (v := false) (by decide) (exm_mk hb39 hd39 ht39 sb0_39), at_is (f := fun c => subG c 39) (c := 31) (v := false) (by decide) (exm_mk hb39 hd39 ht39 sb0_39), at_is (f := fun c => subG c 39) (c := 32) (v := false) (by decide) (exm_mk hb39 hd39 ht39 sb0_39), at_no (f := fun c => subG c 39) (c := 33) (by decide), at_no (f := fun c => subG c 39) (c := 34) (by decide), at_no (f := fun c => subG c 39) (c := 35) (by decide), at_is (f := fun c => subG c 39) (c := 36) (v := false) (by decide) (exm_mk hb39 hd39 ht39 sb0_39), at_is (f := fun c => subG c 39) (c := 37) (v := false) (by decide) (exm_mk hb39 hd39 ht39 sb0_39), at_is (f := fun c => subG c 39) (c := 38) (v := false) (by decide) (exm_mk hb39 hd39 ht39 sb38_39), at_is (f := fun c => subG c 39) (c := 39) (v := true) (by decide) (exm_mk hb39 hd39 ht39 sb39_39), at_no (f := fun c => subG c 39) (c := 40) (by decide), at_is (f := fun c => subG c 39) (c := 41) (v := false) (by decide) (exm_mk hb39 hd39 ht39 sb0_39), at_no (f := fun c => subG c 39) (c := 42) (by decide), at_no (f := fun c => subG c 39) (c := 43) (by decide), at_no (f := fun c => subG c 39) (c := 44) (by decide), at_no (f := fun c => subG c 39) (c := 45) (by decide), at_no (f := fun c => subG c 39) (c := 46) (by decide), at_no (f := fun c => subG c 39) (c := 47) (by decide), at_no (f := fun c => subG c 39) (c := 48) (by decide), trivial⟩, isa_mk X G xa0 ⟨at_no (f := isaG 38 0) (c := 0) (by decide), at_no (f := isaG 38 0) (c := 1) (by decide), at_no (f := isaG 38 0) (c := 2) (by decide), at_no (f := isaG 38 0) (c := 3) (by decide), at_no (f := isaG 38 0) (c := 4) (by decide), at_no (f := isaG 38 0) (c := 5) (by decide), at_no (f := isaG 38 0) (c := 6) (by decide), at_no (f := isaG 38 0) (c := 7) (by decide), at_no (f := isaG 38 0) (c := 8) (by decide), at_no (f := isaG 38 0) (c := 9) (by decide), at_no (f := isaG 38 0) (c := 10) (by decide), at_no (f := isaG 38 0) (c := 11) (by decide), at_no (f := isaG 38 0) (c := 12) (by decide), at_no (f := isaG 38 0) (c := 13) (by decide), at_no (f := isaG 38 0) (c := 14) (by decide), at_no (f := isaG 38 0) (c := 15) (by decide), at_no (f := isaG 38 0) (c := 16) (by decide), at_no (f := isaG 38 0) (c := 17) (by decide), at_no (f := isaG 38 0) (c := 18) (by decide), at_no (f := isaG 38 0) (c := 19) (by decide), at_no (f := isaG 38 0) (c := 20) (by decide), at_no (f := isaG 38 0) (c := 21) (by decide), at_no (f := isaG 38 0) (c := 22) (by decide), at_no (f := isaG 38 0) (c := 23) (by decide), at_no (f := isaG 38 0) (c := 24) (by decide), at_no (f := isaG 38 0) (c := 25) (by decide), at_no (f := isaG 38 0) (c := 26) (by decide), at_no (f := isaG 38 0) (c := 27) (by decide), at_no (f := isaG 38 0) (c := 28) (by decide), at_no (f := isaG 38 0) (c := 29) (by decide), at_no (f := isaG 38 0) (c := 30) (by decide), at_no (f := isaG 38 0) (c := 31) (by decide), at_no (f := isaG 38 0) (c := 32) (by decide), at_no (f := isaG 38 0) (c := 33) (by decide), at_no (f := isaG 38 0) (c := 34) (by decide), at_no (f := isaG 38 0) (c := 35) (by decide), at_no (f := isaG 38 0) (c := 36) (by decide), at_no (f := isaG 38 0) (c := 37) (by decide), at_is (f := isaG 38 0) (c := 38) (v := true) (by decide) ⟨⟨ec38_g, ec38_k, ec38_s, ec38_d, ec38_a, ec38_n, ec38_t, ec38_m⟩, (kit_mk hb0 hd0 ht0 sb38_0 sb0_0)⟩, at_no (f := isaG 38 0) (c := 39) (by decide), at_no (f := isaG 38 0) (c := 40) (by decide), at_no (f := isaG 38 0) (c := 41) (by decide), at_no (f := isaG 38 0) (c := 42) (by decide), at_no (f := isaG 38 0) (c := 43) (by decide), at_no (f := isaG 38 0) (c := 44) (by decide), at_no (f := isaG 38 0) (c := 45) (by decide), at_no (f := isaG 38 0) (c := 46) (by decide), at_no (f := isaG 38 0) (c := 47) (by decide), at_no (f := isaG 38 0) (c := 48) (by decide), trivial⟩, isa_mk X G xa39 ⟨at_no (f := isaG 38 39) (c := 0) (by decide), at_no (f := isaG 38 39) (c := 1) (by decide), at_no (f := isaG 38 39) (c := 2) (by decide), at_no (f := isaG 38 39) (c := 3) (by decide), at_no (f := isaG 38 39) (c := 4) (by decide), at_no (f := isaG 38 39) (c := 5) (by decide), at_no (f := isaG 38 39) (c := 6) (by decide), at_no (f := isaG 38 39) (c := 7) (by decide), at_no (f := isaG 38 39) (c := 8) (by decide), at_no (f := isaG 38 39) (c := 9) (by decide), at_no (f := isaG 38 39) (c := 10) (by decide), at_no (f := isaG 38 39) (c := 11) (by decide), at_no (f := isaG 38 39) (c := 12) (by decide), at_no (f := isaG 38 39) (c := 13) (by decide), at_no (f := isaG 38 39) (c := 14) (by decide), at_no (f := isaG 38 39) (c := 15) (by decide), at_no (f := isaG 38 39) (c := 16) (by decide), at_no (f := isaG 38 39) (c := 17) (by decide), at_no (f := isaG 38 39) (c := 18) (by decide), at_no (f := isaG 38 39) (c := 19) (by decide), at_no (f := isaG 38 39) (c := 20) (by decide), at_no (f := isaG 38 39) (c := 21) (by decide), at_no (f := isaG 38 39) (c := 22) (by decide), at_no (f := isaG 38 39) (c := 23) (by decide), at_no (f := isaG 38 39) (c := 24) (by decide), at_no (f := isaG 38 39) (c := 25) (by decide), at_no (f := isaG 38 39) (c := 26) (by decide), at_no (f := isaG 38 39) (c := 27) (by decide), at_no (f := isaG 38 39) (c := 28) (by decide), at_no (f := isaG 38 39) (c := 29) (by decide), at_no (f := isaG 38 39) (c := 30) (by decide), at_no (f := isaG 38 39) (c := 31) (by decide), at_no (f := isaG 38 39) (c := 32) (by decide), at_no (f := isaG 38 39) (c := 33) (by decide), at_no (f := isaG 38 39) (c := 34) (by decide), at_no (f := isaG 38 39) (c := 35) (by decide), at_no (f := isaG 38 39) (c := 36) (by decide), at_no (f := isaG 38 39) (c := 37) (by decide), at_is (f := isaG 38 39) (c := 38) (v := false) (by decide) ⟨⟨ec38_g, ec38_k, ec38_s, ec38_d, ec38_a, ec38_n, ec38_t, ec38_m⟩, (kit_mk hb39 hd39 ht39 sb38_39 sb39_39)⟩, at_no (f := isaG 38 39) (c := 39) (by decide), at_no (f := isaG 38 39) (c := 40) (by decide), at_no (f := isaG 38 39) (c := 41) (by decide), at_no (f := isaG 38 39) (c := 42) (by decide), at_no (f := isaG 38 39) (c := 43) (by decide), at_no (f := isaG 38 39) (c := 44) (by decide), at_no (f := isaG 38 39) (c := 45) (by decide), at_no (f := isaG 38 39) (c := 46) (by decide), at_no (f := isaG 38 39) (c := 47) (by decide), at_no (f := isaG 38 39) (c := 48) (by decide), trivial⟩, isa_mk X G xa39 ⟨at_no (f := isaG 1 39) (c := 0) (by decide), at_is (f := isaG 1 39) (c := 1) (v := false) (by decide) ⟨⟨ec1_g, ec1_k, ec1_s, ec1_d, ec1_a, ec1_n, ec1_t, ec1_m⟩, (kit_mk hb39 hd39 ht39 sb1_39 sb39_39)⟩, at_no (f := isaG 1 39) (c := 2) (by decide), at_no (f := isaG 1 39) (c := 3) (by decide), at_no (f := isaG 1 39) (c := 4) (by decide), at_no (f := isaG 1 39) (c := 5) (by decide), at_no (f := isaG 1 39) (c := 6) (by decide), at_no (f := isaG 1 39) (c := 7) (by decide), at_no (f := isaG 1 39) (c := 8) (by decide), at_no (f := isaG 1 39) (c := 9) (by decide), at_no (f := isaG 1 39) (c := 10) (by decide), at_no (f := isaG 1 39) (c := 11) (by decide), at_no (f := isaG 1 39) (c := 12) (by decide), at_no (f := isaG 1 39) (c := 13) (by decide), at_no (f := isaG 1 39) (c := 14) (by decide), at_no (f := isaG 1 39) (c := 15) (by decide), at_no (f := isaG 1 39) (c := 16) (by decide), at_no (f := isaG 1 39) (c := 17) (by decide), at_no (f := isaG 1 39) (c := 18) (by decide), at_no (f := isaG 1 39) (c := 19) (by decide), at_no (f := isaG 1 39) (c := 20) (by decide), at_no (f := isaG 1 39) (c := 21) (by decide), at_no (f := isaG 1 39) (c := 22) (by decide), at_no (f := isaG 1 39) (c := 23) (by decide), at_no (f := isaG 1 39) (c := 24) (by decide), at_no (f := isaG 1 39) (c := 25) (by decide), at_no (f := isaG 1 39) (c := 26) (by decide), at_no (f := isaG 1 39) (c := 27) (by decide), at_no (f := isaG 1 39) (c := 28) (by decide), at_no (f := isaG 1 39) (c := 29) (by decide), at_no (f := isaG 1 39) (c := 30) (by decide), at_no (f := isaG 1 39) (c := 31) (by decide), at_no (f := isaG 1 39) (c := 32) (by decide), at_no (f := isaG 1 39) (c := 33) (by decide), at_no (f := isaG 1 39) (c := 34) (by decide), at_no (f := isaG 1 39) (c := 35) (by decide), at_no (f := isaG 1 39) (c := 36) (by decide), at_no (f := isaG 1 39) (c := 37) (by decide), at_no (f := isaG 1 39) (c := 38) (by decide), at_no (f := isaG 1 39) (c := 39) (by decide), at_no (f := isaG 1 39) (c := 40) (by decide), at_no (f := isaG 1 39) (c := 41) (by decide), at_no (f := isaG 1 39) (c := 42) (by decide), at_no (f := isaG 1 39) (c := 43) (by decide), at_no (f := isaG 1 39) (c := 44) (by decide), at_no (f := isaG 1 39) (c := 45) (by decide), at_no (f := isaG 1 39) (c := 46) (by decide), at_no (f := isaG 1 39) (c := 47) (by decide), at_no (f := isaG 1 39) (c := 48) (by decide), trivial⟩, isa_mk X G xa0 ⟨at_no (f := isaG 39 0) (c := 0) (by decide), at_no (f := isaG 39 0) (c := 1) (by decide), at_no (f := isaG 39 0) (c := 2) (by decide), at_no (f := isaG 39 0) (c := 3) (by decide), at_no (f := isaG 39 0) (c := 4) (by decide), at_no (f := isaG 39 0) (c := 5) (by decide), at_no (f := isaG 39 0) (c := 6) (by decide), at_no (f := isaG 39 0) (c := 7) (by decide), at_no (f := isaG 39 0) (c := 8) (by decide), at_no (f := isaG 39 0) (c := 9) (by decide), at_no (f := isaG 39 0) (c := 10) (by decide), at_no (f := isaG 39 0) (c := 11) (by decide), at_no (f := isaG 39 0) (c := 12) (by decide), at_no (f := isaG 39 0) (c := 13) (by decide), at_no (f := isaG 39 0) (c := 14) (by decide), at_no (f := isaG 39 0) (c := 15) (by decide), at_no (f := isaG 39 0) (c := 16) (by decide), at_no (f := isaG 39 0) (c := 17) (by decide), at_no (f := isaG 39 0) (c := 18) (by decide), at_no (f := isaG 39 0) (c := 19) (by decide), at_no (f := isaG 39 0) (c := 20) (by decide), at_no (f := isaG 39 0) (c := 21) (by decide), at_no (f := isaG 39 0) (c := 22) (by decide), at_no (f := isaG 39 0) (c := 23) (by decide), at_no (f := isaG 39 0) (c := 24) (by decide), at_no (f := isaG 39 0) (c := 25) (by decide), at_no (f := isaG 39 0) (c := 26) (by decide), at_no (f := isaG 39 0) (c := 27) (by decide), at_no (f := isaG 39 0) (c := 28) (by decide), at_no (f := isaG 39 0) (c := 29) (by decide), at_no (f := isaG 39 0) (c := 30) (by decide), at_no (f := isaG 39 0) (c := 31) (by decide), at_no (f := isaG 39 0) (c := 32) (by decide), at_no (f := isaG 39 0) (c := 33) (by decide), at_no (f := isaG 39 0) (c := 34) (by decide), at_no (f := isaG 39 0) (c := 35) (by decide), at_no (f := isaG 39 0) (c := 36) (by decide), at_no (f := isaG 39 0) (c := 37) (by decide), at_no (f := isaG 39 0) (c := 38) (by decide), at_is (f := isaG 39 0) (c := 39) (v := true) (by decide) ⟨⟨ec39_g, ec39_k, ec39_s, ec39_d, ec39_a, ec39_n, ec39_t, ec39_m⟩, (kit_mk hb0 hd0 ht0 sb39_0 sb0_0)⟩, at_no (f := isaG 39 0) (c := 40) (by decide), at_no (f := isaG 39 0) (c := 41) (by decide), at_no (f := isaG 39 0) (c := 42) (by decide), at_no (f := isaG 39 0) (c := 43) (by decide), at_no (f := isaG 39 0) (c := 44) (by decide), at_no (f := isaG 39 0) (c := 45) (by decide), at_no (f := isaG 39 0) (c := 46) (by decide), at_no (f := isaG 39 0) (c := 47) (by decide), at_no (f := isaG 39 0) (c := 48) (by decide), trivial⟩, isa_mk X G xa1 ⟨at_no (f := isaG 39 1) (c := 0) (by decide), at_no (f := isaG 39 1) (c := 1) (by decide), at_no (f := isaG 39 1) (c := 2) (by decide), at_no (f := isaG 39 1) (c := 3) (by decide), at_no (f := isaG 39 1) (c := 4) (by decide), at_no (f := isaG 39 1) (c := 5) (by decide), at_no (f := isaG 39 1) (c := 6) (by decide), at_no (f := isaG 39 1) (c := 7) (by decide), at_no (f := isaG 39 1) (c := 8) (by decide), at_no (f := isaG 39 1) (c := 9) (by decide), at_no (f := isaG 39 1) (c := 10) (by decide), at_no (f := isaG 39 1) (c := 11) (by decide), at_no (f := isaG 39 1) (c := 12) (by decide), at_no (f := isaG 39 1) (c := 13) (by decide), at_no (f := isaG 39 1) (c := 14) (by decide), at_no (f := isaG 39 1) (c := 15) (by decide), at_no (f := isaG 39 1) (c := 16) (by decide), at_no (f := isaG 39 1) (c := 17) (by decide), at_no (f := isaG 39 1) (c := 18) (by decide), at_no (f := isaG 39 1) (c := 19) (by decide), at_no (f := isaG 39 1) (c := 20) (by decide), at_no (f := isaG 39 1) (c := 21) (by decide), at_no (f := isaG 39 1) (c := 22) (by decide), at_no (f := isaG 39 1) (c := 23) (by decide), at_no (f := isaG 39 1) (c := 24) (by decide), at_no (f := isaG 39 1) (c := 25) (by decide), at_no (f := isaG 39 1) (c := 26) (by decide), at_no (f := isaG 39 1) (c := 27) (by decide), at_no (f := isaG 39 1) (c := 28) (by decide), at_no (f := isaG 39 1) (c := 29) (by decide), at_no (f := isaG 39 1) (c := 30) (by decide), at_no (f := isaG 39 1) (c := 31) (by decide), at_no (f := isaG 39 1) (c := 32) (by decide), at_no (f := isaG 39 1) (c := 33) (by decide), at_no (f := isaG 39 1) (c := 34) (by decide), at_no (f := isaG 39 1) (c := 35) (by decide), at_no (f := isaG 39 1) (c := 36) (by decide), at_no (f := isaG 39 1) (c := 37) (by decide), at_no (f := isaG 39 1) (c := 38) (by decide), at_is (f := isaG 39 1) (c := 39) (v := false) (by decide) ⟨⟨ec39_g, ec39_k, ec39_s, ec39_d, ec39_a, ec39_n, ec39_t, ec39_m⟩, (kit_mk hb1 hd1 ht1 sb39_1 sb1_1)⟩, at_no (f := isaG 39 1) (c := 40) (by decide), at_no (f := isaG 39 1) (c := 41) (by decide), at_no (f := isaG 39 1) (c := 42) (by decide), at_no (f := isaG 39 1) (c := 43) (by decide), at_no (f := isaG 39 1) (c := 44) (by decide), at_no (f := isaG 39 1) (c := 45) (by decide), at_no (f := isaG 39 1) (c := 46) (by decide), at_no (f := isaG 39 1) (c := 47) (by decide), at_no (f := isaG 39 1) (c := 48) (by decide), trivial⟩, dfl_mk (qual := "Change.__init__") (st := s_Change__init_) rfl a17 l17 c17 k17 lT17 le17 rfl fun _ _ _ _ _ _ _ us its hl h1 => match us, hl, its, h1 with | [_], _, [_], _ => ⟨_, rfl, rfl⟩, isb_mk (PySem.W.mg_none_of X G z_ValueError) (by decide +kernel) ⟨at_no (f := isbG 38) (c := 0) (by decide), at_no (f := isbG 38) (c := 1) (by decide), at_no (f := isbG 38) (c := 2) (by decide), at_no (f := isbG 38) (c := 3) (by decide), at_no (f := isbG 38) (c := 4) (by decide), at_no (f := isbG 38) (c := 5) (by decide), at_no (f := isbG 38) (c := 6) (by decide), at_no (f := isbG 38) (c := 7) (by decide), at_no (f := isbG 38) (c := 8) (by decide), at_no (f := isbG 38) (c := 9) (by decide), at_no (f := isbG 38) (c := 10) (by decide), at_no (f := isbG 38) (c := 11) (by decide), at_no (f := isbG 38) (c := 12) (by decide), at_no (f := isbG 38) (c := 13) (by decide), at_no (f := isbG 38) (c := 14) (by decide), at_no (f := isbG 38) (c := 15) (by decide), at_no (f := isbG 38) (c := 16) (by decide), at_no (f := isbG 38) (c := 17) (by decide), at_no (f := isbG 38) (c := 18) (by decide), at_no (f := isbG 38) (c := 19) (by decide), at_no (f := isbG 38) (c := 20) (by decide), at_no (f := isbG 38) (c := 21) (by decide), at_no (f := isbG 38) (c := 22) (by decide), at_no (f := isbG 38) (c := 23) (by decide), at_no (f := isbG 38) (c := 24) (by decide), at_no (f := isbG 38) (c := 25) (by decide), at_no (f := isbG 38) (c := 26) (by decide), at_no (f := isbG 38) (c := 27) (by decide), at_no (f := isbG 38) (c := 28) (by decide), at_no (f := isbG 38) (c := 29) (by decide), at_no (f := isbG 38) (c := 30) (by decide), at_no (f := isbG 38) (c := 31) (by decide), at_no (f := isbG 38) (c := 32) (by decide), at_no (f := isbG 38) (c := 33) (by decide), at_no (f := isbG 38) (c := 34) (by decide), at_no (f := isbG 38) (c := 35) (by decide), at_no (f := isbG 38) (c := 36) (by decide), at_no (f := isbG 38) (c := 37) (by decide), at_is (f := isbG 38) (c := 38) (v := true) (by decide) ⟨⟨ec38_g, ec38_k, ec38_s, ec38_d, ec38_a, ec38_n, ec38_t, ec38_m⟩, (kit_mkB ki38_v)⟩, at_no (f := isbG 38) (c := 39) (by decide), at_no (f := isbG 38) (c := 40) (by decide), at_no (f := isbG 38) (c := 41) (by decide), at_no (f := isbG 38) (c := 42) (by decide), at_no (f := isbG 38) (c := 43) (by decide), at_no (f := isbG 38) (c := 44) (by decide), at_no (f := isbG 38) (c := 45) (by decide), at_no (f := isbG 38) (c := 46) (by decide), at_no (f := isbG 38) (c := 47) (by decide), at_no (f := isbG 38) (c := 48) (by decide), trivial⟩, isb_mk (PySem.W.mg_none_of X G z_ValueError) (by decide +kernel) ⟨at_no (f := isbG 1) (c := 0) (by decide), at_is (f := isbG 1) (c := 1) (v := true) (by decide) ⟨⟨ec1_g, ec1_k, ec1_s, ec1_d, ec1_a, ec1_n, ec1_t, ec1_m⟩, (kit_mkB ki1_v)⟩, at_no (f := isbG 1) (c := 2) (by decide), at_no (f := isbG 1) (c := 3) (by decide), at_no (f := isbG 1) (c := 4) (by decide), at_no (f := isbG 1) (c := 5) (by decide), at_no (f := isbG 1) (c := 6) (by decide), at_no (f := isbG 1) (c := 7) (by decide), at_no (f := isbG 1) (c := 8) (by decide), at_no (f := isbG 1) (c := 9) (by decide), at_no (f := isbG 1) (c := 10) (by decide), at_no (f := isbG 1) (c := 11) (by decide), at_no (f := isbG 1) (c := 12) (by decide), at_no (f := isbG 1) (c := 13) (by decide), at_no (f := isbG 1) (c := 14) (by decide), at_no (f := isbG 1) (c := 15) (by decide), at_no (f := isbG 1) (c := 16) (by decide), at_no (f := isbG 1) (c := 17) (by decide), at_no (f := isbG 1) (c := 18) (by decide), at_no (f := isbG 1) (c := 19) (by decide), at_no (f := isbG 1) (c := 20) (by decide), at_no (f := isbG 1) (c := 21) (by decide), at_no (f := isbG 1) (c := 22) (by decide), at_no (f := isbG 1) (c := 23) (by decide), at_no (f := isbG 1) (c := 24) (by decide), at_no (f := isbG 1) (c := 25) (by decide), at_no (f := isbG 1) (c := 26) (by decide), at_no (f := isbG 1) (c := 27) (by decide), at_no (f := isbG 1) (c := 28) (by decide), at_no (f := isbG 1) (c := 29) (by decide), at_no (f := isbG 1) (c := 30) (by decide), at_no (f := isbG 1) (c := 31) (by decide), at_no (f := isbG 1) (c := 32) (by decide), at_no (f := isbG 1) (c := 33) (by decide), at_no (f := isbG 1) (c := 34) (by decide), at_no (f := isbG 1) (c := 35) (by decide), at_no (f := isbG 1) (c := 36) (by decide), at_no (f := isbG 1) (c := 37) (by decide), at_no (f := isbG 1) (c := 38) (by decide), at_no (f := isbG 1) (c := 39) (by decide), at_no (f := isbG 1) (c := 40) (by decide), at_no (f := isbG 1) (c := 41) (by decide), at_no (f := isbG 1) (c := 42) (by decide), at_no (f := isbG 1) (c := 43) (by decide), at_no (f := isbG 1) (c := 44) (by decide), at_no (f := isbG 1) (c := 45) (by decide), at_no (f := isbG 1) (c := 46) (by decide), at_no (f := isbG 1) (c := 47) (by decide), at_no (f := isbG 1) (c := 48) (by decide), trivial⟩, ⟨C40, rfl, ⟨cp40, ch40, co40, cs40⟩⟩, ⟨C40, rfl, ⟨cp40, ch40, co40, cs40⟩, cn40_hunks⟩⟩
  have A__law_draws : At K mg "_law_draws" s__law_draws ["script"] := at_mk X G a1 l1 c1 k1 fun _ _ _ _ _ _ us hl => match us, hl with | [_], _ => rfl
  have G__law_draws := w__law_draws (P := P) (w := w) (base := base) T  A__law_draws
  have A__law_draw : At K mg "_law_draw" s__law_draw ["draws", "many"] := at_mk X G a2 l2 c2 k2 fun _ _ _ _ _ _ us hl => match us, hl with | [_, _], _ => rfl
  have G__law_draw := w__law_draw (P := P) (w := w) (base := base) T  A__law_draw
  have A__law_pick : At K mg "_law_pick" s__law_pick ["draws", "things"] := at_mk X G a3 l3 c3 k3 fun _ _ _ _ _ _ us hl => match us, hl with | [_, _], _ => rfl
  have G__law_pick := w__law_pick (P := P) (w := w) (base := base) T G__law_draw A__law_pick
  have A__law_names : At K mg "_law_names" s__law_names ["draws", "many"] := at_mk X G a4 l4 c4 k4 fun _ _ _ _ _ _ us hl => match us, hl with | [_, _], _ => rfl
  have G__law_names := w__law_names (P := P) (w := w) (base := base) T G__law_draw G__law_pick A__law_names
  have A__law_book : At K mg "_law_book" s__law_book ["draws", "most"] := at_mk X G a5 l5 c5 k5 fun _ _ _ _ _ _ us hl => match us, hl with | [_, _], _ => rfl
  have G__law_book := w__law_book (P := P) (w := w) (base := base) T G__law_names G__law_draw G__law_pick A__law_book
  have A__law_count : At K mg "_law_count" s__law_count ["draws", "most"] := at_mk X G a6 l6 c6 k6 fun _ _ _ _ _ _ us hl => match us, hl with | [_, _], _ => rfl
  have G__law_count := w__law_count (P := P) (w := w) (base := base) T G__law_draw A__law_count
  have A__law_shape : At K mg "_law_shape" s__law_shape ["draws", "count"] := at_mk X G a7 l7 c7 k7 fun _ _ _ _ _ _ us hl => match us, hl with | [_, _], _ => rfl
  have G__law_shape := w__law_shape (P := P) (w := w) (base := base) T G__law_draw A__law_shape
  have A__law_members : At K mg "_law_members" s__law_members ["rows", "kind"] := at_mk X G a8 l8 c8 k8 fun _ _ _ _ _ _ us hl => match us, hl with | [_, _], _ => rfl
  have G__law_members := w__law_members (P := P) (w := w) (base := base) T  A__law_members
  have A__law_menus : At K mg "_law_menus" s__law_menus ["rows", "kinds"] := at_mk X G a9 l9 c9 k9 fun _ _ _ _ _ _ us hl => match us, hl with | [_, _], _ => rfl
  have G__law_menus := w__law_menus (P := P) (w := w) (base := base) T G__law_members A__law_menus
  have A__law_kinds : At K mg "_law_kinds" s__law_kinds ["draws", "rows", "count"] := at_mk X G a10 l10 c10 k10 fun _ _ _ _ _ _ us hl => match us, hl with | [_, _, _], _ => rfl
  have G__law_kinds := w__law_kinds (P := P) (w := w) (base := base) T G__law_pick A__law_kinds
  have A__law_leaf : At K mg "_law_leaf" s__law_leaf ["draws", "shape", "menus", "before"] := at_mk X G a11 l11 c11 k11 fun _ _ _ _ _ _ us hl => match us, hl with | [_, _, _, _], _ => rfl
  have G__law_leaf := w__law_leaf (P := P) (w := w) (base := base) T G__law_draw G__law_pick A__law_leaf
  have A__law_leafs : At K mg "_law_leafs" s__law_leafs ["draws", "shape", "menus", "most"] := at_mk X G a12 l12 c12 k12 fun _ _ _ _ _ _ us hl => match us, hl with | [_, _, _, _], _ => rfl
  have G__law_leafs := w__law_leafs (P := P) (w := w) (base := base) T G__law_draw G__law_leaf A__law_leafs
  have A__law_mended : At K mg "_law_mended" s__law_mended ["entry", "before"] := at_mk X G a13 l13 c13 k13 fun _ _ _ _ _ _ us hl => match us, hl with | [_, _], _ => rfl
  have G__law_mended := w__law_mended (P := P) (w := w) (base := base) T  A__law_mended
  have A__law_edited : At K mg "_law_edited" s__law_edited ["draws", "shape", "menus", "outline", "most"] := at_mk X G a14 l14 c14 k14 fun _ _ _ _ _ _ us hl => match us, hl with | [_, _, _, _, _], _ => rfl
  have G__law_edited := w__law_edited (P := P) (w := w) (base := base) T G__law_draw G__law_leaf G__law_mended A__law_edited
  have A__law_wild : At K mg "_law_wild" s__law_wild ["draws", "outline"] := at_mk X G a15 l15 c15 k15 fun _ _ _ _ _ _ us hl => match us, hl with | [_, _], _ => rfl
  have G__law_wild := w__law_wild (P := P) (w := w) (base := base) T G__law_draw G__law_pick A__law_wild
  have A_check_hunks : At K mg "check_hunks" s_check_hunks ["hunks"] := at_mk X G a16 l16 c16 k16 fun _ _ _ _ _ _ us hl => match us, hl with | [_], _ => rfl
  have G_check_hunks := w_check_hunks (P := P) (w := w) (base := base) T  A_check_hunks
  have A_Change__init_ : AtI K mg [C0, C1, C0, C0, C0, C0, C0, C0, C0, 0, 0, 0, C0, C0, C0, C0, C0, 0, C0, C0, C0, 0, C0, 0, C0, 0, 0, C0, C0, 0, C0, C0, C0, 0, 0, 0, C0, C0, C38, C39, C40, C0, 0, 0, 0, 0, 0, 0, 0] 40 "Change.__init__" "Change" s_Change__init_ ["self", "hunks"] [V.ref e17] := ati_mk X G rfl ca40 mk17 kc17 a17 i17 l17 c17 k17 lT17 (n := 2) rfl fun _ _ _ _ _ _ _ us its hl h1 => match us, hl, its, h1 with | [_, _], _, [_], _ => ⟨_, rfl, rfl⟩
  have G_Change__init_ := w_Change__init_ (P := P) (w := w) (base := base) T G_check_hunks A_Change__init_
  have A__law_handed : At K mg "_law_handed" s__law_handed ["hunks"] := at_mk X G a18 l18 c18 k18 fun _ _ _ _ _ _ us hl => match us, hl with | [_], _ => rfl
  have G__law_handed := w__law_handed (P := P) (w := w) (base := base) T G_Change__init_ A__law_handed
  have A__law_same : At K mg "_law_same" s__law_same ["actual", "due"] := at_mk X G a19 l19 c19 k19 fun _ _ _ _ _ _ us hl => match us, hl with | [_, _], _ => rfl
  have G__law_same := w__law_same (P := P) (w := w) (base := base) T  A__law_same
  have A_Change_growth : AtM K mg [C0, C1, C0, C0, C0, C0, C0, C0, C0, 0, 0, 0, C0, C0, C0, C0, C0, 0, C0, C0, C0, 0, C0, 0, C0, 0, 0, C0, C0, 0, C0, C0, C0, 0, 0, 0, C0, C0, C38, C39, C40, C0, 0, 0, 0, 0, 0, 0, 0] 40 "Change.growth" "growth" s_Change_growth ["self"] := atm_mk rfl a20 i20 l20 c20 k20 fun _ _ _ _ _ _ us hl => match us, hl with | [_], _ => rfl
  have G_Change_growth := w_Change_growth (P := P) (w := w) (base := base) T  A_Change_growth
  have A_Change_touched : AtM K mg [C0, C1, C0, C0, C0, C0, C0, C0, C0, 0, 0, 0, C0, C0, C0, C0, C0, 0, C0, C0, C0, 0, C0, 0, C0, 0, 0, C0, C0, 0, C0, C0, C0, 0, 0, 0, C0, C0, C38, C39, C40, C0, 0, 0, 0, 0, 0, 0, 0] 40 "Change.touched" "touched" s_Change_touched ["self"] := atm_mk rfl a21 i21 l21 c21 k21 fun _ _ _ _ _ _ us hl => match us, hl with | [_], _ => rfl
  have G_Change_touched := w_Change_touched (P := P) (w := w) (base := base) T  A_Change_touched
  have A_Change_contrary : AtM K mg [C0, C1, C0, C0, C0, C0, C0, C0, C0, 0, 0, 0, C0, C0, C0, C0, C0, 0, C0, C0, C0, 0, C0, 0, C0, 0, 0, C0, C0, 0, C0, C0, C0, 0, 0, 0, C0, C0, C38, C39, C40, C0, 0, 0, 0, 0, 0, 0, 0] 40 "Change.contrary" "contrary" s_Change_contrary ["self"] := atm_mk rfl a22 i22 l22 c22 k22 fun _ _ _ _ _ _ us hl => match us, hl with | [_], _ => rfl
  have G_Change_contrary := w_Change_contrary (P := P) (w := w) (base := base) T G_Change__init_ A_Change_contrary
  have A__law_contrary : At K mg "_law_contrary" s__law_contrary ["hunks"] := at_mk X G a23 l23 c23 k23 fun _ _ _ _ _ _ us hl => match us, hl with | [_], _ => rfl
  have G__law_contrary := w__law_contrary (P := P) (w := w) (base := base) T  A__law_contrary
  have A__law_counted : At K mg "_law_counted" s__law_counted ["hunks", "change"] := at_mk X G a24 l24 c24 k24 fun _ _ _ _ _ _ us hl => match us, hl with | [_, _], _ => rfl
  have G__law_counted := w__law_counted (P := P) (w := w) (base := base) T G__law_same G_Change_growth G_Change_touched G_Change_contrary G__law_contrary A__law_counted
  have A__law_spliced : At K mg "_law_spliced" s__law_spliced ["entries", "hunks"] := at_mk X G a25 l25 c25 k25 fun _ _ _ _ _ _ us hl => match us, hl with | [_, _], _ => rfl
  have G__law_spliced := w__law_spliced (P := P) (w := w) (base := base) T  A__law_spliced
  have A__law_form : At K mg "_law_form" s__law_form ["outline"] := at_mk X G a26 l26 c26 k26 fun _ _ _ _ _ _ us hl => match us, hl with | [_], _ => rfl
  have G__law_form := w__law_form (P := P) (w := w) (base := base) T  A__law_form
  have A_replaced : At K mg "replaced" s_replaced ["entries", "hunks", "low"] := at_mk X G a27 l27 c27 k27 fun _ _ _ _ _ _ us hl => match us, hl with | [_, _, _], _ => rfl
  have G_replaced := w_replaced (P := P) (w := w) (base := base) T  A_replaced
  have A_spliced : At K mg "spliced" s_spliced ["entries", "change"] := at_mk X G a28 l28 c28 k28 fun _ _ _ _ _ _ us hl => match us, hl with | [_, _], _ => rfl
  have G_spliced := w_spliced (P := P) (w := w) (base := base) T G_replaced A_spliced
  have A__law_splice : At K mg "_law_splice" s__law_splice ["entries", "change"] := at_mk X G a29 l29 c29 k29 fun _ _ _ _ _ _ us hl => match us, hl with | [_, _], _ => rfl
  have G__law_splice := w__law_splice (P := P) (w := w) (base := base) T G_spliced A__law_splice
  have A__law_outline_good : At K mg "_law_outline_good" s__law_outline_good ["entries"] := at_mk X G a30 l30 c30 k30 fun _ _ _ _ _ _ us hl => match us, hl with | [_], _ => rfl
  have G__law_outline_good := w__law_outline_good (P := P) (w := w) (base := base) T  A__law_outline_good
  have A_check_outline : At K mg "check_outline" s_check_outline ["outline"] := at_mk X G a31 l31 c31 k31 fun _ _ _ _ _ _ us hl => match us, hl with | [_], _ => rfl
  have G_check_outline := w_check_outline (P := P) (w := w) (base := base) T  A_check_outline
  have A_form_of : At K mg "form_of" s_form_of ["outline"] := at_mk X G a32 l32 c32 k32 fun _ _ _ _ _ _ us hl => match us, hl with | [_], _ => rfl
  have G_form_of := w_form_of (P := P) (w := w) (base := base) T G_check_outline A_form_of
  have A_add_leaves : At K mg "add_leaves" s_add_leaves ["rows", "upper", "shared", "outline"] := at_mk X G a33 l33 c33 k33 fun _ _ _ _ _ _ us hl => match us, hl with | [_, _, _, _], _ => rfl
  have G_add_leaves := w_add_leaves (P := P) (w := w) (base := base) T  A_add_leaves
  have A_outline_of : At K mg "outline_of" s_outline_of ["form"] := at_mk X G a34 l34 c34 k34 fun _ _ _ _ _ _ us hl => match us, hl with | [_], _ => rfl
  have G_outline_of := w_outline_of (P := P) (w := w) (base := base) T G_add_leaves A_outline_of
  have A_changed : At K mg "changed" s_changed ["form", "change"] := at_mk X G a35 l35 c35 k35 fun _ _ _ _ _ _ us hl => match us, hl with | [_, _], _ => rfl
  have G_changed := w_changed (P := P) (w := w) (base := base) T G_form_of G_spliced G_outline_of A_changed
  have A__law_do : At K mg "_law_do" s__law_do ["form", "change"] := at_mk X G a36 l36 c36 k36 fun _ _ _ _ _ _ us hl => match us, hl with | [_, _], _ => rfl
  have G__law_do := w__law_do (P := P) (w := w) (base := base) T G_changed A__law_do
  have A__law_right : At K mg "_law_right" s__law_right ["outline", "hunks", "change"] := at_mk X G a37 l37 c37 k37 fun _ _ _ _ _ _ us hl => match us, hl with | [_, _, _], _ => rfl
  have G__law_right := w__law_right (P := P) (w := w) (base := base) T G__law_same G__law_counted G__law_spliced G__law_form G__law_splice G__law_outline_good G__law_do G_Change_contrary A__law_right
  have A__law_refused : At K mg "_law_refused" s__law_refused ["hunks"] := at_mk X G a38 l38 c38 k38 fun _ _ _ _ _ _ us hl => match us, hl with | [_], _ => rfl
  have G__law_refused := w__law_refused (P := P) (w := w) (base := base) T G_Change__init_ A__law_refused
  have A__law_hunks_good : At K mg "_law_hunks_good" s__law_hunks_good ["hunks"] := at_mk X G a39 l39 c39 k39 fun _ _ _ _ _ _ us hl => match us, hl with | [_], _ => rfl
  have G__law_hunks_good := w__law_hunks_good (P := P) (w := w) (base := base) T  A__law_hunks_good
  have A_law : At K mg "law" s_law ["script"] := at_mk X G a40 l40 c40 k40 fun _ _ _ _ _ _ us hl => match us, hl with | [_], _ => rfl
  have G_law := w_law (P := P) (w := w) (base := base) T G__law_draws G__law_book G__law_count G__law_shape G__law_menus G__law_kinds G__law_leafs G__law_edited G__law_wild G__law_handed G__law_right G__law_same G_changed G__law_form G_Change__init_ G__law_refused G__law_hunks_good A_law
  obtain ⟨f2, fd2, F, e1, e2, e3, oc, od, sl, e4⟩ := G_law.ex
  have e5 := e1.symm.trans hfa
  cases e5
  have e6 := e4.symm.trans l40
  cases e6
  exact F.imp (law_sp hp)
end K62
end

section
set_option Elab.async false
namespace K62
open PySem L2 PyProof.Rows Mini PM
theorem walk {l : PySem.W.OpenLaw} {q : Program} {loose : List Str} {XP : (Str → Option Value) → Heap → Prop} {YP : World → Heap → Prop} {d : DefRec} {K : Params → PySem.W.Frag} (hn : l.most = some 63) (hdf : d.params.defaults = [])
    (hY : ∀ (w : World) (h : Heap), YP w h → (K w.params).In h)
    (F : ∀ (w : World) (mg : Str → Option Value) (fa : Addr) (h : Heap), (K w.params).In h → h.Ns mainGlobals mg → mg d.name = some (.ref fa) →
      ∃ fd : FuncData, (∀ (s : Shared) (u : Value), BindsTo s fd ⟨[u], []⟩ [("script", u)]) ∧ ∀ base : Heap, (K w.params).In base → base.Ns mainGlobals mg → FnOk l.prog w (K w.params) mg base (L2.CX l.prog w) 203 fa fd ["script"] (spLaw (K w.params))) :
    PySem.W.WalkO q loose XP YP l.row.toRowW d [] (fun f vs => PySem.call f vs) :=
  L2.walk_of (n := 63) (k := 203) (x := "script") (CX := fun w => L2.CX l.prog w) (sp := fun w => spLaw (K w.params)) hn (by decide) hdf ⟨rfl, by decide, by decide⟩ hY F (fun _ _ a ns hl _ hS => ⟨a, ns, rfl, hS, hl, fun _ => rfl⟩) fun _ _ _ _ _ z => cx_none z
end K62
open PySem PySem.W PyProof.Rows in
set_option maxRecDepth 100000 in
set_option maxHeartbeats 0 in
theorem PySem.Challenge.cw_changesalong_k62_changes_of_lists_holds : PySem.Challenge.rw_changesalong_k62_changes_of_lists.Holds := by
  w_on; o_law; k_head; (case hw => w_witness2)
  k_fill
  refine K62.walk (l := PySem.Challenge.rw_changesalong_k62_changes_of_lists) rfl rfl (fun w h Y => PySem.W.kIn_of Y) ?F
  case F =>
    intro w mg fa h KX G hmg
    refine' K62.all_mk KX G hmg ?z_bool ?z_int ?z_isinstance ?z_len ?z_list ?z_max ?z_min ?z_range ?z_str ?z_sum ?z_tuple ?xa38 ?xe38 ?xk38 ?xb38 ?xt38 ?xa1 ?xe1 ?xk1 ?xb1 ?xt1 ?xa39 ?xe39 ?xk39 ?xb39 ?xt39 ?xa0 ?hb38 ?hd38 ?ht38 ?sb0_38 ?sb1_38 ?sb38_38 ?sb39_38 ?hb1 ?hd1 ?ht1 ?sb0_1 ?sb1_1 ?sb38_1 ?sb39_1 ?hb39 ?hd39 ?ht39 ?sb0_39 ?sb1_39 ?sb38_39 ?sb39_39 ?hb0 ?hd0 ?ht0 ?sb38_0 ?sb0_0 ?ec38_g ?ec38_k ?ec38_s ?ec38_d ?ec38_a ?ec38_n ?ec38_t ?ec38_m ?ec1_g ?ec1_k ?ec1_s ?ec1_d ?ec1_a ?ec1_n ?ec1_t ?ec1_m ?sb39_0 ?ec39_g ?ec39_k ?ec39_s ?ec39_d ?ec39_a ?ec39_n ?ec39_t ?ec39_m ?z_ValueError ?ki38_v ?ki1_v ?ca40 ?cp40 ?ch40 ?co40 ?cs40 ?cn40_hunks ?a1 ?l1 ?c1 ?k1 ?a2 ?l2 ?c2 ?k2 ?a3 ?l3 ?c3 ?k3 ?a4 ?l4 ?c4 ?k4 ?a5 ?l5 ?c5 ?k5 ?a6 ?l6 ?c6 ?k6 ?a7 ?l7 ?c7 ?k7 ?a8 ?l8 ?c8 ?k8 ?a9 ?l9 ?c9 ?k9 ?a10 ?l10 ?c10 ?k10 ?a11 ?l11 ?c11 ?k11 ?a12 ?l12 ?c12 ?k12 ?a13 ?l13 ?c13 ?k13 ?a14 ?l14 ?c14 ?k14 ?a15 ?l15 ?c15 ?k15 ?a16 ?l16 ?c16 ?k16 ?mk17 ?kc17 ?a17 ?i17 ?l17 ?c17 ?k17 ?lT17 ?a18 ?l18 ?c18 ?k18 ?a19 ?l19 ?c19 ?k19 ?a20 ?i20 ?l20 ?c20 ?k20 ?a21 ?i21 ?l21 ?c21 ?k21 ?a22 ?i22 ?l22 ?c22 ?k22 ?a23 ?l23 ?c23 ?k23 ?a24 ?l24 ?c24 ?k24 ?a25 ?l25 ?c25 ?k25 ?a26 ?l26 ?c26 ?k26 ?a27 ?l27 ?c27 ?k27 ?a28 ?l28 ?c28 ?k28 ?a29 ?l29 ?c29 ?k29 ?a30 ?l30 ?c30 ?k30 ?a31 ?l31 ?c31 ?k31 ?a32 ?l32 ?c32 ?k32 ?a33 ?l33 ?c33 ?k33 ?a34 ?l34 ?c34 ?k34 ?a35 ?l35 ?c35 ?k35 ?a36 ?l36 ?c36 ?k36 ?a37 ?l37 ?c37 ?k37 ?a38 ?l38 ?c38 ?k38 ?a39 ?l39 ?c39 ?k39 ?a40 ?l40 ?c40 ?k40 ?le17 K62.law_pure
    (case z_bool => k_is)
    (case z_int => k_is)
    (case z_isinstance => k_is)
    (case z_len => k_is)
    (case z_list => k_is)
    (case z_max => k_is)
    (case z_min => k_is)
    (case z_range => k_is)
    (case z_str => k_is)
    (case z_sum => k_is)
    (case z_tuple => k_is)
    (case xa38 => k_is)
    (case xe38 => k_exc)
    (case xk38 => k_is)
    (case xb38 => k_is)
    (case xt38 => k_is)
    (case xa1 => k_is)
    (case xe1 => k_exc)
    (case xk1 => k_is)
    (case xb1 => k_is)
    (case xt1 => k_is)
    (case xa39 => k_is)
    (case xe39 => k_exc)
    (case xk39 => k_is)
    (case xb39 => k_is)
    (case xt39 => k_is)
    (case xa0 => k_is)
    (case hb38 => k_is)
    (case hd38 => k_is)
    (case ht38 => k_is)
    (case sb0_38 => k_is)
    (case sb1_38 => k_is)
    (case sb38_38 => k_is)
    (case sb39_38 => k_is)
    (case hb1 => k_is)
    (case hd1 => k_is)
    (case ht1 => k_is)
    (case sb0_1 => k_is)
    (case sb1_1 => k_is)
    (case sb38_1 => k_is)
    (case sb39_1 => k_is)
    (case hb39 => k_is)
    (case hd39 => k_is)
    (case ht39 => k_is)
    (case sb0_39 => k_is)
    (case sb1_39 => k_is)
    (case sb38_39 => k_is)
    (case sb39_39 => k_is)
    (case hb0 => k_is)
    (case hd0 => k_is)
    (case ht0 => k_is)
    (case sb38_0 => k_is)
    (case sb0_0 => k_is)
    (case ec38_g => k_is)
    (case ec38_k => k_is)
    (case ec38_s => k_is)
    (case ec38_d => k_is)
    (case ec38_a => k_is)
    (case ec38_n => k_is)
    (case ec38_t => k_is)
    (case ec38_m => k_is)
    (case ec1_g => k_is)
    (case ec1_k => k_is)
    (case ec1_s => k_is)
    (case ec1_d => k_is)
    (case ec1_a => k_is)
    (case ec1_n => k_is)
    (case ec1_t => k_is)
    (case ec1_m => k_is)
    (case sb39_0 => k_is)
    (case ec39_g => k_is)
    (case ec39_k => k_is)
    (case ec39_s => k_is)
    (case ec39_d => k_is)
    (case ec39_a => k_is)
    (case ec39_n => k_is)
    (case ec39_t => k_is)
    (case ec39_m => k_is)
    (case z_ValueError => k_is)
    (case ki38_v => k_is)
    (case ki1_v => k_is)
    (case ca40 => k_is)
    (case cp40 => k_is)
    (case ch40 => k_is)
    (case co40 => k_is)
    (case cs40 => k_is)
    (case cn40_hunks => k_is)
    (case a1 => k_is)
    (case l1 => k_is)
    (case c1 => k_is)
    (case k1 => k_is)
    (case a2 => k_is)
    (case l2 => k_is)
    (case c2 => k_is)
    (case k2 => k_is)
    (case a3 => k_is)
    (case l3 => k_is)
    (case c3 => k_is)
    (case k3 => k_is)
    (case a4 => k_is)
    (case l4 => k_is)
    (case c4 => k_is)
    (case k4 => k_is)
    (case a5 => k_is)
    (case l5 => k_is)
    (case c5 => k_is)
    (case k5 => k_is)
    (case a6 => k_is)
    (case l6 => k_is)
    (case c6 => k_is)
    (case k6 => k_is)
    (case a7 => k_is)
    (case l7 => k_is)
    (case c7 => k_is)
    (case k7 => k_is)
    (case a8 => k_is)
    (case l8 => k_is)
    (case c8 => k_is)
    (case k8 => k_is)
    (case a9 => k_is)
    (case l9 => k_is)
    (case c9 => k_is)
    (case k9 => k_is)
    (case a10 => k_is)
    (case l10 => k_is)
    (case c10 => k_is)
    (case k10 => k_is)
    (case a11 => k_is)
    (case l11 => k_is)
    (case c11 => k_is)
    (case k11 => k_is)
    (case a12 => k_is)
    (case l12 => k_is)
    (case c12 => k_is)
    (case k12 => k_is)
    (case a13 => k_is)
    (case l13 => k_is)
    (case c13 => k_is)
    (case k13 => k_is)
    (case a14 => k_is)
    (case l14 => k_is)
    (case c14 => k_is)
    (case k14 => k_is)
    (case a15 => k_is)
    (case l15 => k_is)
    (case c15 => k_is)
    (case k15 => k_is)
    (case a16 => k_is)
    (case l16 => k_is)
    (case c16 => k_is)
    (case k16 => k_is)
    (case mk17 => k_is)
    (case kc17 => k_is)
    (case a17 => k_is)
    (case i17 => k_is)
    (case l17 => k_is)
    (case c17 => k_is)
    (case k17 => k_is)
    (case lT17 => k_is)
    (case a18 => k_is)
    (case l18 => k_is)
    (case c18 => k_is)
    (case k18 => k_is)
    (case a19 => k_is)
    (case l19 => k_is)
    (case c19 => k_is)
    (case k19 => k_is)
    (case a20 => k_is)
    (case i20 => k_is)
    (case l20 => k_is)
    (case c20 => k_is)
    (case k20 => k_is)
    (case a21 => k_is)
    (case i21 => k_is)
    (case l21 => k_is)
    (case c21 => k_is)
    (case k21 => k_is)
    (case a22 => k_is)
    (case i22 => k_is)
    (case l22 => k_is)
    (case c22 => k_is)
    (case k22 => k_is)
    (case a23 => k_is)
    (case l23 => k_is)
    (case c23 => k_is)
    (case k23 => k_is)
    (case a24 => k_is)
    (case l24 => k_is)
    (case c24 => k_is)
    (case k24 => k_is)
    (case a25 => k_is)
    (case l25 => k_is)
    (case c25 => k_is)
    (case k25 => k_is)
    (case a26 => k_is)
    (case l26 => k_is)
    (case c26 => k_is)
    (case k26 => k_is)
    (case a27 => k_is)
    (case l27 => k_is)
    (case c27 => k_is)
    (case k27 => k_is)
    (case a28 => k_is)
    (case l28 => k_is)
    (case c28 => k_is)
    (case k28 => k_is)
    (case a29 => k_is)
    (case l29 => k_is)
    (case c29 => k_is)
    (case k29 => k_is)
    (case a30 => k_is)
    (case l30 => k_is)
    (case c30 => k_is)
    (case k30 => k_is)
    (case a31 => k_is)
    (case l31 => k_is)
    (case c31 => k_is)
    (case k31 => k_is)
    (case a32 => k_is)
    (case l32 => k_is)
    (case c32 => k_is)
    (case k32 => k_is)
    (case a33 => k_is)
    (case l33 => k_is)
    (case c33 => k_is)
    (case k33 => k_is)
    (case a34 => k_is)
    (case l34 => k_is)
    (case c34 => k_is)
    (case k34 => k_is)
    (case a35 => k_is)
    (case l35 => k_is)
    (case c35 => k_is)
    (case k35 => k_is)
    (case a36 => k_is)
    (case l36 => k_is)
    (case c36 => k_is)
    (case k36 => k_is)
    (case a37 => k_is)
    (case l37 => k_is)
    (case c37 => k_is)
    (case k37 => k_is)
    (case a38 => k_is)
    (case l38 => k_is)
    (case c38 => k_is)
    (case k38 => k_is)
    (case a39 => k_is)
    (case l39 => k_is)
    (case c39 => k_is)
    (case k39 => k_is)
    (case a40 => k_is)
    (case l40 => k_is)
    (case c40 => k_is)
    (case k40 => k_is)
    (case le17 => k_is)
#print axioms PySem.Challenge.cw_changesalong_k62_changes_of_lists_holds
end
