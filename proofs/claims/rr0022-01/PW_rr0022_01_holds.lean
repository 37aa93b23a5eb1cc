import PyProof.Rows.All
import Wide.All
import OpenK.AllK
import Wide.FinOn
import PySem.Challenge.RW_rr0022_01
set_option Elab.async false
set_option compiler.extract_closed false
namespace Mine
/-- a heap cell of the program's: a tag and a number -/
inductive Cell where
  | ref (n : Nat)
  | srf (n : Nat)
  | lis (n : Nat)
  | int (n : Nat)
  deriving DecidableEq
def Cell.tag : Cell → Int
  | .ref _ => 0
  | .srf _ => 1
  | .lis _ => 3
  | .int _ => 5
def Cell.num : Cell → Nat
  | .ref n => n
  | .srf n => n
  | .lis n => n
  | .int n => n
theorem Cell.ext {c d : Cell} (h : c.tag = d.tag) (k : c.num = d.num) : c = d := by
  cases c <;> cases d <;> simp_all [Cell.tag, Cell.num]
def Cell.isVar : Cell → Bool
  | .ref _ => true
  | .srf _ => true
  | _ => false
def Cell.isLis : Cell → Bool
  | .lis _ => true
  | _ => false
/-- the store's two tables -/
structure Sto where
  H : List Cell
  K : List Cell
def Sto.get (S : Sto) : Cell → Option Cell
  | .ref n => S.H[n]?
  | .srf n => S.K[n]?
  | _ => none
def Sto.set (S : Sto) (x c : Cell) : Sto := match x with
  | .ref n => ⟨S.H.set n c, S.K⟩
  | .srf n => ⟨S.H, S.K.set n c⟩
  | _ => S
def Sto.room (S : Sto) : Nat := S.H.length + S.K.length
def tgt : Cell → List Cell
  | .lis n => [.ref n, .ref (n + 1)]
  | .int _ => []
  | c => [c]
/-- the cell's targets stand in the store -/
def Sto.Ok (S : Sto) (c : Cell) : Prop := ∀ y ∈ tgt c, (S.get y).isSome = true
/-- every stored cell points into the store; no heap cell points to the stack -/
structure Sto.WF (S : Sto) : Prop where
  ok : ∀ x c, S.get x = some c → S.Ok c
  nosrf : ∀ n c, S.get (.ref n) = some c → ∀ k, c ≠ .srf k
def Ranked (S : Sto) (rk : Cell → Nat) : Prop := ∀ x c, S.get x = some c → c ≠ x → ∀ y ∈ tgt c, rk y < rk x
/-- no term holds itself -/
def Acyc (S : Sto) : Prop := ∃ rk, Ranked S rk ∧ ∀ x, rk x ≤ S.room
inductive Deref (S : Sto) : Cell → Cell → Prop where
  | val {c : Cell} : c.isVar = false → Deref S c c
  | unb {c : Cell} : S.get c = some c → Deref S c c
  | step {c d e : Cell} : S.get c = some d → d ≠ c → Deref S d e → Deref S c e

inductive Tree where
  | leaf (n : Nat)
  | node (a b : Tree)
def Tree.size : Tree → Nat
  | .leaf _ => 1
  | .node a b => a.size + b.size + 1
theorem Tree.size_pos (t : Tree) : 0 < t.size := by cases t <;> simp [Tree.size]
def den (ρ : Cell → Tree) : Cell → Tree
  | .lis n => .node (ρ (.ref n)) (ρ (.ref (n + 1)))
  | .int n => .leaf n
  | x => ρ x
def Sol (S : Sto) (ρ : Cell → Tree) : Prop := ∀ x c, S.get x = some c → ρ x = den ρ c
def Unif (S : Sto) (a b : Cell) : Prop := ∃ ρ, Sol S ρ ∧ den ρ a = den ρ b
/-- bindings are only added -/
structure Ext (S T : Sto) : Prop where
  hl : T.H.length = S.H.length
  kl : T.K.length = S.K.length
  keep : ∀ x c, S.get x = some c → c ≠ x → T.get x = some c

theorem get_var {S : Sto} {x c : Cell} (h : S.get x = some c) : x.isVar = true := by cases x <;> simp_all [Sto.get, Cell.isVar]
theorem den_var {ρ : Cell → Tree} {x : Cell} (h : x.isVar = true) : den ρ x = ρ x := by cases x <;> simp_all [den, Cell.isVar]

theorem Ext.refl (S : Sto) : Ext S S := ⟨rfl, rfl, fun _ _ h _ => h⟩
theorem Ext.trans {S T U : Sto} (a : Ext S T) (b : Ext T U) : Ext S U := ⟨b.hl.trans a.hl, b.kl.trans a.kl, fun x c h k => b.keep x c (a.keep x c h k) k⟩
theorem get_isSome {S : Sto} {x : Cell} : (S.get x).isSome = true ↔ (match x with | .ref n => n < S.H.length | .srf n => n < S.K.length | _ => False) := by
  cases x <;> simp [Sto.get]
theorem Ext.isSome {S T : Sto} (e : Ext S T) (x : Cell) : (T.get x).isSome = (S.get x).isSome := by
  have h := @get_isSome S x
  have k := @get_isSome T x
  cases x <;> simp only [e.hl, e.kl] at h k <;> rw [Bool.eq_iff_iff, h, k]
theorem Ext.ok {S T : Sto} (e : Ext S T) {c : Cell} (h : S.Ok c) : T.Ok c := fun y hy => by rw [e.isSome]; exact h y hy
theorem Ext.room {S T : Sto} (e : Ext S T) : T.room = S.room := by simp [Sto.room, e.hl, e.kl]
theorem Ext.sol {S T : Sto} (e : Ext S T) {ρ : Cell → Tree} (h : Sol T ρ) : Sol S ρ := by
  intro x c hx
  by_cases hc : c = x
  · subst hc; rw [den_var (get_var hx)]
  · exact h x c (e.keep x c hx hc)

theorem Deref.den {S : Sto} {ρ : Cell → Tree} (hs : Sol S ρ) {c d : Cell} (h : Deref S c d) : den ρ c = den ρ d := by
  induction h with
  | val _ => rfl
  | unb _ => rfl
  | step hg _ _ ih => rw [den_var (get_var hg), hs _ _ hg, ih]
theorem Deref.end_ {S : Sto} {c d : Cell} (h : Deref S c d) : d.isVar = false ∨ S.get d = some d := by
  induction h with
  | val h => exact .inl h
  | unb h => exact .inr h
  | step _ _ _ ih => exact ih
theorem Deref.ok {S : Sto} (W : S.WF) {c d : Cell} (h : Deref S c d) (o : S.Ok c) : S.Ok d := by
  induction h with
  | val _ => exact o
  | unb _ => exact o
  | step hg _ _ ih => exact ih (W.ok _ _ hg)
theorem Deref.fun {S : Sto} {c d e : Cell} (h : Deref S c d) (k : Deref S c e) : d = e := by
  induction h with
  | val h =>
    cases k with
    | val _ => rfl
    | unb _ => rfl
    | step g _ _ => rw [get_var g] at h; cases h
  | unb h =>
    cases k with
    | val _ => rfl
    | unb _ => rfl
    | step g n _ => rw [h] at g; cases g; exact absurd rfl n
  | step hg hn _ ih =>
    cases k with
    | val h => rw [get_var hg] at h; cases h
    | unb h => rw [hg] at h; cases h; exact absurd rfl hn
    | step g n r => rw [hg] at g; cases g; exact ih r
theorem Deref.srf {S : Sto} (W : S.WF) {c d : Cell} (h : Deref S c d) (hc : ∀ k, c ≠ .srf k) : ∀ k, d ≠ .srf k := by
  induction h with
  | val _ => exact hc
  | unb _ => exact hc
  | @step a b e hg _ _ ih =>
    refine ih ?_
    cases a with
    | ref n => exact W.nosrf n _ hg
    | srf n => exact absurd rfl (hc n)
    | lis n => exact absurd (get_var hg) (by simp [Cell.isVar])
    | int n => exact absurd (get_var hg) (by simp [Cell.isVar])

/-! a solution of a store that holds no term in itself -/
def val (S : Sto) : Nat → Cell → Tree
  | 0, _ => .leaf 0
  | k + 1, x => match S.get x with
    | none => .leaf 0
    | some c => if c = x then .leaf 0 else den (val S k) c
theorem val_stable {S : Sto} {rk : Cell → Nat} (hr : Ranked S rk) : ∀ n x, rk x ≤ n → ∀ k, rk x < k → val S k x = val S (rk x + 1) x := by
  intro n
  induction n using Nat.strongRecOn with
  | ind n ih =>
    intro x hx k hk
    obtain ⟨k, rfl⟩ : ∃ j, k = j + 1 := ⟨k - 1, by omega⟩
    simp only [val]
    cases hg : S.get x with
    | none => rfl
    | some c =>
      dsimp only
      by_cases hc : c = x
      · simp [hc]
      · simp only [hc, if_false]
        have key : ∀ y ∈ tgt c, val S k y = val S (rk x) y := by
          intro y hy
          have hlt := hr x c hg hc y hy
          rw [ih (rk y) (by omega) y (Nat.le_refl _) k (by omega), ih (rk y) (by omega) y (Nat.le_refl _) (rk x) (by omega)]
        cases c <;> simp_all [den, tgt]
theorem Acyc.solvable {S : Sto} (a : Acyc S) : ∃ ρ, Sol S ρ := by
  obtain ⟨rk, hr, _⟩ := a
  refine ⟨fun x => val S (rk x + 1) x, ?_⟩
  intro x c hg
  show val S (rk x + 1) x = _
  by_cases hc : c = x
  · subst hc; rw [den_var (get_var hg)]
  · have e : val S (rk x + 1) x = den (val S (rk x)) c := by simp [val, hg, hc]
    rw [e]
    have key : ∀ y ∈ tgt c, val S (rk x) y = val S (rk y + 1) y := fun y hy => val_stable hr (rk y) y (Nat.le_refl _) _ (hr x c hg hc y hy)
    cases c <;> simp_all [den, tgt]

/-! counting: ranks may be squeezed under the store's room -/
def Sto.names (S : Sto) : List Cell := (List.range S.H.length).map .ref ++ (List.range S.K.length).map .srf
theorem mem_names {S : Sto} {x : Cell} : x ∈ S.names ↔ (S.get x).isSome = true := by
  rw [get_isSome]
  cases x <;> simp [Sto.names]
theorem names_length (S : Sto) : S.names.length = S.room := by simp [Sto.names, Sto.room]
theorem countP_lt {α : Type} {p q : α → Bool} : ∀ {l : List α} {a : α}, (∀ x, p x = true → q x = true) → a ∈ l → q a = true → p a = false → l.countP p < l.countP q := by
  intro l
  induction l with
  | nil => intro a _ h; cases h
  | cons x r ih =>
    intro a hpq ha hq hp
    have hle : r.countP p ≤ r.countP q := List.countP_mono_left fun y _ => hpq y
    rw [List.countP_cons, List.countP_cons]
    rcases List.mem_cons.mp ha with rfl | ha
    · simp [hq, hp]; omega
    · have := ih hpq ha hq hp
      by_cases hx : p x = true
      · simp [hx, hpq x hx]; exact this
      · simp [hx]
        by_cases hq' : q x = true <;> simp [hq'] <;> omega
theorem squeeze {S : Sto} (W : S.WF) {rk : Cell → Nat} (hr : Ranked S rk) : Acyc S := by
  refine ⟨fun x => S.names.countP fun y => decide (rk y < rk x), ?_, fun x => ?_⟩
  · intro x c hg hc y hy
    have hlt := hr x c hg hc y hy
    refine countP_lt (a := y) ?_ ?_ ?_ ?_
    · intro z hz; simp at hz ⊢; omega
    · exact mem_names.mpr (W.ok x c hg y hy)
    · simpa using hlt
    · simp
  · rw [← names_length]; exact List.countP_le_length

/-! binding an unbound variable -/
theorem get_set_self {S : Sto} {x c d : Cell} (h : S.get x = some d) : (S.set x c).get x = some c := by
  have hs : (S.get x).isSome = true := by rw [h]; rfl
  rw [get_isSome] at hs
  cases x <;> simp_all [Sto.get, Sto.set]
theorem get_set_ne {S : Sto} {x y c : Cell} (h : y ≠ x) : (S.set x c).get y = S.get y := by
  cases x <;> cases y <;> simp_all [Sto.get, Sto.set, List.getElem?_set] <;> intro e <;> exact absurd e.symm h
theorem ext_set {S : Sto} {x c : Cell} (h : S.get x = some x) : Ext S (S.set x c) := by
  refine ⟨?_, ?_, ?_⟩
  · cases x <;> simp [Sto.set]
  · cases x <;> simp [Sto.set]
  · intro y d hy hd
    have : y ≠ x := fun e => by subst e; rw [h] at hy; exact hd (Option.some.inj hy).symm
    rw [get_set_ne this]; exact hy
theorem sol_set {S : Sto} {x c : Cell} (h : S.get x = some x) {ρ : Cell → Tree} : Sol (S.set x c) ρ ↔ Sol S ρ ∧ den ρ x = den ρ c := by
  constructor
  · intro hs
    refine ⟨(ext_set h).sol hs, ?_⟩
    rw [den_var (get_var h)]
    exact hs x c (get_set_self h)
  · rintro ⟨hs, he⟩ y d hy
    by_cases hyx : y = x
    · subst hyx
      rw [get_set_self h] at hy
      cases hy
      rw [← den_var (ρ := ρ) (get_var h)]; exact he
    · rw [get_set_ne hyx] at hy
      exact hs y d hy
theorem wf_set {S : Sto} (W : S.WF) {x c : Cell} (h : S.get x = some x) (ok : S.Ok c) (hc : (∃ k, x = .srf k) ∨ ∀ k, c ≠ .srf k) : (S.set x c).WF := by
  have e := ext_set (c := c) h
  refine ⟨?_, ?_⟩
  · intro y d hy
    refine e.ok ?_
    by_cases hyx : y = x
    · subst hyx; rw [get_set_self h] at hy; cases hy; exact ok
    · rw [get_set_ne hyx] at hy; exact W.ok y d hy
  · intro n d hy
    by_cases hyx : Cell.ref n = x
    · subst hyx
      rw [get_set_self h] at hy; cases hy
      rcases hc with ⟨k, hk⟩ | hc
      · cases hk
      · exact hc
    · rw [get_set_ne hyx] at hy; exact W.nosrf n d hy
/-- a set of cells that what they hold does not leave -/
def Closed (S : Sto) (P : Cell → Prop) : Prop := ∀ x c, P x → S.get x = some c → c ≠ x → ∀ y ∈ tgt c, P y
theorem acyc_set {S : Sto} (W : S.WF) (A : Acyc S) {x c : Cell} (h : S.get x = some x) (ok : S.Ok c) (hc : (∃ k, x = .srf k) ∨ ∀ k, c ≠ .srf k)
    {P : Cell → Prop} (hP : Closed S P) (ht : ∀ y ∈ tgt c, P y) (hx : ¬ P x) : Acyc (S.set x c) := by
  classical
  obtain ⟨rk, hr, hb⟩ := A
  refine squeeze (wf_set W h ok hc) (rk := fun y => if P y then rk y else rk y + (S.room + 1)) ?_
  intro y d hy hd z hz
  by_cases hyx : y = x
  · subst hyx
    rw [get_set_self h] at hy; cases hy
    have := ht z hz
    have h1 := hb z
    simp only [this, hx, if_true, if_false]; omega
  · rw [get_set_ne hyx] at hy
    have hlt := hr y d hy hd z hz
    by_cases hPy : P y
    · have := hP y d hPy hy hd z hz
      simp only [this, hPy, if_true]; exact hlt
    · simp only [hPy, if_false]
      by_cases hPz : P z
      · simp only [hPz, if_true]; omega
      · simp only [hPz, if_false]; omega
/-- what is reached from where a cell leads is reached from the cell -/
theorem closed_deref {S : Sto} {c d x : Cell} (h : Deref S c d) (hx : S.get x = some x) (hdx : d ≠ x) {P : Cell → Prop} (hP : Closed S P) (ht : ∀ y ∈ tgt d, P y) (hn : ¬ P x) :
    ∃ P', Closed S P' ∧ (∀ y ∈ tgt c, P' y) ∧ ¬ P' x := by
  induction h with
  | val _ => exact ⟨P, hP, ht, hn⟩
  | unb _ => exact ⟨P, hP, ht, hn⟩
  | @step a b e hg hne _ ih =>
    obtain ⟨P', h1, h2, h3⟩ := ih hdx ht
    have hax : a ≠ x := fun e => by subst e; rw [hx] at hg; exact hne (Option.some.inj hg).symm
    refine ⟨fun y => P' y ∨ y = a, ?_, ?_, ?_⟩
    · rintro y c' (hy | rfl) hg' hc' z hz
      · exact .inl (h1 y c' hy hg' hc' z hz)
      · rw [hg] at hg'; cases hg'; exact .inl (h2 z hz)
    · intro y hy
      have : tgt a = [a] := by have := get_var hg; cases a <;> simp_all [Cell.isVar, tgt]
      rw [this] at hy
      exact .inr (List.mem_singleton.mp hy)
    · rintro (hy | rfl)
      · exact h3 hy
      · exact hax rfl
theorem closed_union {S : Sto} {P Q : Cell → Prop} (hP : Closed S P) (hQ : Closed S Q) : Closed S fun y => P y ∨ Q y := by
  rintro x c (h | h) hg hc y hy
  · exact .inl (hP x c h hg hc y hy)
  · exact .inr (hQ x c h hg hc y hy)
end Mine
namespace Mine
theorem nil_or_last {α : Type} (l : List α) : l = [] ∨ ∃ r a, l = r ++ [a] := by
  rcases List.eq_nil_or_concat l with h | ⟨r, a, h⟩
  · exact .inl h
  · exact .inr ⟨r, a, by rw [h, List.concat_eq_append]⟩
/-! the occurs check's loop, without the program -/
def Good (S : Sto) (x : Cell) (Sf : Int → Bool) (c : Cell) : Prop := ∃ e, Deref S c e ∧ e ≠ x ∧ ∀ a : Nat, e = .lis a → Sf (a : Int) = true
def Cov (S : Sto) (x : Cell) (Sf : Int → Bool) (cs : List Cell) (c : Cell) : Prop := c ∈ cs ∨ Good S x Sf c
structure OccInv (S : Sto) (x d0 : Cell) (cs : List Cell) (Sf : Int → Bool) : Prop where
  okc : ∀ c ∈ cs, S.Ok c
  small : ∀ ρ, Sol S ρ → ∀ c ∈ cs, c = d0 ∨ (den ρ c).size < (den ρ d0).size
  root : Cov S x Sf cs d0
  kids : ∀ a : Nat, Sf (a : Int) = true → ∃ c0 c1, S.H[a]? = some c0 ∧ S.H[a + 1]? = some c1 ∧ Cov S x Sf cs c0 ∧ Cov S x Sf cs c1
def unmet (S : Sto) (Sf : Int → Bool) : Nat := (List.range S.H.length).countP fun (a : Nat) => !Sf (a : Int)
theorem unmet_le (S : Sto) (Sf : Int → Bool) : unmet S Sf ≤ S.H.length := by
  have := List.countP_le_length (p := fun (a : Nat) => !Sf (a : Int)) (l := List.range S.H.length)
  simpa [unmet] using this
theorem unmet_lt {S : Sto} {Sf : Int → Bool} {a : Nat} (ha : a < S.H.length) (h : Sf (a : Int) = false) : unmet S (fun k => Sf k || decide (k = (a : Int))) < unmet S Sf := by
  refine countP_lt (a := a) ?_ ?_ ?_ ?_
  · intro b hb; simp at hb ⊢; exact hb.1
  · simpa using ha
  · simp [h]
  · simp
theorem lis_ok {S : Sto} {a : Nat} (h : S.Ok (.lis a)) : ∃ c0 c1, S.H[a]? = some c0 ∧ S.H[a + 1]? = some c1 := by
  obtain ⟨c0, h0⟩ := Option.isSome_iff_exists.mp (h (.ref a) (by simp [tgt]))
  obtain ⟨c1, h1⟩ := Option.isSome_iff_exists.mp (h (.ref (a + 1)) (by simp [tgt]))
  exact ⟨c0, c1, h0, h1⟩
theorem Cov.up {S : Sto} {x : Cell} {Sf Sg : Int → Bool} {cs ds : List Cell} {c d : Cell} (h : Cov S x Sf (cs ++ [d]) c) (hS : ∀ k, Sf k = true → Sg k = true) (hd : Cov S x Sg ds d) (hc : ∀ b ∈ cs, b ∈ ds) : Cov S x Sg ds c := by
  rcases h with h | ⟨e, h1, h2, h3⟩
  · rcases List.mem_append.mp h with h | h
    · exact .inl (hc _ h)
    · rw [List.mem_singleton.mp h]; exact hd
  · exact .inr ⟨e, h1, h2, fun a ha => hS _ (h3 a ha)⟩
theorem occ_start {S : Sto} {x d0 : Cell} (ok : S.Ok d0) : OccInv S x d0 [d0] fun _ => false :=
  ⟨fun c hc => by rw [List.mem_singleton.mp hc]; exact ok, fun _ _ c hc => .inl (List.mem_singleton.mp hc), .inl (by simp), fun _ h => by cases h⟩
theorem occ_found {S : Sto} {x d0 c : Cell} {cs : List Cell} {Sf : Int → Bool} (I : OccInv S x d0 (cs ++ [c]) Sf) (hx : S.get x = some x) (hd : d0.isVar = false) (h : Deref S c x) :
    ∀ ρ, Sol S ρ → (den ρ x).size < (den ρ d0).size := by
  intro ρ hρ
  rcases I.small ρ hρ c (by simp) with e | e
  · subst e
    have := h.fun (.val hd)
    subst this
    rw [get_var hx] at hd; cases hd
  · rw [← h.den hρ]; exact e
theorem occ_skip {S : Sto} {x d0 c e : Cell} {cs : List Cell} {Sf : Int → Bool} (I : OccInv S x d0 (cs ++ [c]) Sf) (h : Deref S c e) (he : e ≠ x) (hl : ∀ a : Nat, e = .lis a → Sf (a : Int) = true) : OccInv S x d0 cs Sf := by
  have hc : Cov S x Sf cs c := .inr ⟨e, h, he, hl⟩
  refine ⟨fun b hb => I.okc b (by simp [hb]), fun ρ hρ b hb => I.small ρ hρ b (by simp [hb]), I.root.up (fun _ h => h) hc fun _ h => h, fun a ha => ?_⟩
  obtain ⟨c0, c1, h0, h1, k0, k1⟩ := I.kids a ha
  exact ⟨c0, c1, h0, h1, k0.up (fun _ h => h) hc fun _ h => h, k1.up (fun _ h => h) hc fun _ h => h⟩
theorem kid_small {S : Sto} {ρ : Cell → Tree} (hρ : Sol S ρ) {a : Nat} {c0 c1 : Cell} (h0 : S.H[a]? = some c0) (h1 : S.H[a + 1]? = some c1) :
    (den ρ c0).size < (den ρ (.lis a)).size ∧ (den ρ c1).size < (den ρ (.lis a)).size := by
  have e0 : ρ (.ref a) = den ρ c0 := hρ (.ref a) c0 h0
  have e1 : ρ (.ref (a + 1)) = den ρ c1 := hρ (.ref (a + 1)) c1 h1
  simp only [den, Tree.size, e0, e1]
  have := Tree.size_pos (den ρ c0)
  have := Tree.size_pos (den ρ c1)
  omega
theorem occ_push {S : Sto} (W : S.WF) {x d0 c : Cell} {cs : List Cell} {Sf : Int → Bool} {a : Nat} {c0 c1 : Cell} (I : OccInv S x d0 (cs ++ [c]) Sf) (h : Deref S c (.lis a)) (hx : S.get x = some x)
    (h0 : S.H[a]? = some c0) (h1 : S.H[a + 1]? = some c1) : OccInv S x d0 (cs ++ [c1] ++ [c0]) (fun k => Sf k || decide (k = (a : Int))) := by
  have hne : Cell.lis a ≠ x := fun e => by subst e; cases hx
  have hup : ∀ k, Sf k = true → (Sf k || decide (k = (a : Int))) = true := fun k hk => by rw [hk]; rfl
  have hc : Cov S x (fun k => Sf k || decide (k = (a : Int))) (cs ++ [c1] ++ [c0]) c := .inr ⟨_, h, hne, fun b hb => by cases hb; simp⟩
  have hin : ∀ b ∈ cs, b ∈ cs ++ [c1] ++ [c0] := fun b hb => by simp [hb]
  refine ⟨fun b hb => ?_, fun ρ hρ b hb => ?_, I.root.up hup hc hin, fun b hb => ?_⟩
  · simp only [List.mem_append, List.mem_singleton] at hb
    rcases hb with (hb | rfl) | rfl
    · exact I.okc b (by simp [hb])
    · exact W.ok (.ref (a + 1)) _ h1
    · exact W.ok (.ref a) _ h0
  · have hk := kid_small hρ h0 h1
    have hle : (den ρ (.lis a)).size ≤ (den ρ d0).size := by
      rw [← h.den hρ]
      rcases I.small ρ hρ c (by simp) with e | e
      · rw [e]; exact Nat.le_refl _
      · omega
    simp only [List.mem_append, List.mem_singleton] at hb
    rcases hb with (hb | rfl) | rfl
    · exact I.small ρ hρ b (by simp [hb])
    · exact .inr (by omega)
    · exact .inr (by omega)
  · by_cases hba : b = a
    · subst hba
      exact ⟨c0, c1, h0, h1, .inl (by simp), .inl (by simp)⟩
    · have hb' : Sf (b : Int) = true := by
        simp only [Bool.or_eq_true, decide_eq_true_eq] at hb
        rcases hb with hb | hb
        · exact hb
        · exact absurd (by omega) hba
      obtain ⟨d0', d1', g0, g1, k0, k1⟩ := I.kids b hb'
      exact ⟨d0', d1', g0, g1, k0.up hup hc hin, k1.up hup hc hin⟩
theorem Good.ref {S : Sto} {x : Cell} {Sf : Int → Bool} {n : Nat} {c : Cell} (h : S.H[n]? = some c) (g : Good S x Sf c) : Good S x Sf (.ref n) := by
  obtain ⟨e, h1, h2, h3⟩ := g
  by_cases hc : c = .ref n
  · subst hc; exact ⟨e, h1, h2, h3⟩
  · exact ⟨e, .step h hc h1, h2, h3⟩
theorem occ_end {S : Sto} {x d0 : Cell} {Sf : Int → Bool} (I : OccInv S x d0 [] Sf) (hx : S.get x = some x) (hd : ∃ a, d0 = .lis a) :
    ∃ P, Closed S P ∧ (∀ y ∈ tgt d0, P y) ∧ ¬ P x := by
  have gd : ∀ {c}, Cov S x Sf [] c → Good S x Sf c := fun h => h.elim (fun h => nomatch h) id
  have gl : ∀ a : Nat, Sf (a : Int) = true → ∀ y ∈ tgt (.lis a), Good S x Sf y := by
    intro a ha y hy
    obtain ⟨c0, c1, h0, h1, k0, k1⟩ := I.kids a ha
    simp only [tgt, List.mem_cons, List.not_mem_nil, or_false] at hy
    rcases hy with rfl | rfl
    · exact (gd k0).ref h0
    · exact (gd k1).ref h1
  refine ⟨Good S x Sf, ?_, ?_, ?_⟩
  · intro y c hy hg hc z hz
    obtain ⟨e, h1, h2, h3⟩ := hy
    have h1' : Deref S c e := by
      cases h1 with
      | val h => rw [get_var hg] at h; cases h
      | unb h => rw [hg] at h; exact absurd (Option.some.inj h) hc
      | step g n r => rw [hg] at g; cases g; exact r
    cases c with
    | ref n => simp only [tgt, List.mem_singleton] at hz; subst hz; exact ⟨e, h1', h2, h3⟩
    | srf n => simp only [tgt, List.mem_singleton] at hz; subst hz; exact ⟨e, h1', h2, h3⟩
    | int n => simp [tgt] at hz
    | lis n =>
      have : e = .lis n := (h1'.fun (.val rfl))
      exact gl n (h3 n this) z hz
  · obtain ⟨a, rfl⟩ := hd
    obtain ⟨e, h1, h2, h3⟩ := gd I.root
    have : e = .lis a := h1.fun (.val rfl)
    exact gl a (h3 a this)
  · rintro ⟨e, h1, h2, _⟩
    exact h2 (h1.fun (.unb hx))
end Mine
namespace Mine
/-! unify's loop, without the program -/
def metP (span : Nat) (Sf : Int → Bool) (a b : Nat) : Prop := b < span ∧ Sf ((a : Int) * (span : Int) + (b : Int)) = true
def Just (S : Sto) (es : List (Cell × Cell)) (span : Nat) (Sf : Int → Bool) (l r : Cell) : Prop :=
  (∀ ρ, Sol S ρ → den ρ l = den ρ r) ∨ (∃ e ∈ es, ∀ ρ, Sol S ρ → den ρ l = den ρ e.1 ∧ den ρ r = den ρ e.2) ∨
  (∃ a b, metP span Sf a b ∧ ∀ ρ, Sol S ρ → den ρ l = den ρ (.lis a) ∧ den ρ r = den ρ (.lis b))
structure UInv (S₀ : Sto) (c d : Cell) (S : Sto) (es : List (Cell × Cell)) (span : Nat) (Sf : Int → Bool) : Prop where
  wf : S.WF
  ac : Acyc S
  ok : ∀ e ∈ es, S.Ok e.1 ∧ S.Ok e.2
  ext : Ext S₀ S
  keep : ∀ ρ, Sol S₀ ρ → den ρ c = den ρ d → Sol S ρ ∧ ∀ e ∈ es, den ρ e.1 = den ρ e.2
  root : Just S es span Sf c d
  kids : ∀ a b, metP span Sf a b → Just S es span Sf (.ref a) (.ref b) ∧ Just S es span Sf (.ref (a + 1)) (.ref (b + 1))
theorem Just.congr {S : Sto} {es : List (Cell × Cell)} {span : Nat} {Sf : Int → Bool} {l r l' r' : Cell} (h : ∀ ρ, Sol S ρ → den ρ l = den ρ l' ∧ den ρ r = den ρ r') (j : Just S es span Sf l' r') : Just S es span Sf l r := by
  rcases j with j | ⟨e, he, j⟩ | ⟨a, b, hm, j⟩
  · exact .inl fun ρ hρ => by rw [(h ρ hρ).1, (h ρ hρ).2, j ρ hρ]
  · exact .inr (.inl ⟨e, he, fun ρ hρ => by rw [(h ρ hρ).1, (h ρ hρ).2]; exact j ρ hρ⟩)
  · exact .inr (.inr ⟨a, b, hm, fun ρ hρ => by rw [(h ρ hρ).1, (h ρ hρ).2]; exact j ρ hρ⟩)
theorem Just.up {S S' : Sto} {es es' : List (Cell × Cell)} {e : Cell × Cell} {span : Nat} {Sf Sg : Int → Bool} {l r : Cell} (j : Just S (es ++ [e]) span Sf l r) (hS : ∀ ρ, Sol S' ρ → Sol S ρ) (hf : ∀ k, Sf k = true → Sg k = true)
    (hes : ∀ x ∈ es, x ∈ es') (he : Just S' es' span Sg e.1 e.2) : Just S' es' span Sg l r := by
  rcases j with j | ⟨x, hx, j⟩ | ⟨a, b, hm, j⟩
  · exact .inl fun ρ hρ => j ρ (hS ρ hρ)
  · rcases List.mem_append.mp hx with hx | hx
    · exact .inr (.inl ⟨x, hes x hx, fun ρ hρ => j ρ (hS ρ hρ)⟩)
    · rw [List.mem_singleton.mp hx] at j
      exact he.congr fun ρ hρ => j ρ (hS ρ hρ)
  · exact .inr (.inr ⟨a, b, ⟨hm.1, hf _ hm.2⟩, fun ρ hρ => j ρ (hS ρ hρ)⟩)
theorem uni_start {S : Sto} (W : S.WF) (A : Acyc S) {c d : Cell} (hc : S.Ok c) (hd : S.Ok d) (span : Nat) : UInv S c d S [(c, d)] span fun _ => false :=
  ⟨W, A, fun e he => by rw [List.mem_singleton.mp he]; exact ⟨hc, hd⟩, .refl S, fun ρ hρ h => ⟨hρ, fun e he => by rw [List.mem_singleton.mp he]; exact h⟩,
   .inr (.inl ⟨(c, d), by simp, fun _ _ => ⟨rfl, rfl⟩⟩), fun a b h => by cases h.2⟩
section
variable {S₀ S : Sto} {c d l r l' r' : Cell} {es : List (Cell × Cell)} {span : Nat} {Sf : Int → Bool}
/-- the popped pair is settled: nothing is bound -/
theorem uni_drop (I : UInv S₀ c d S (es ++ [(l, r)]) span Sf) (h : Just S es span Sf l r) : UInv S₀ c d S es span Sf :=
  ⟨I.wf, I.ac, fun e he => I.ok e (by simp [he]), I.ext, fun ρ h1 h2 => ⟨(I.keep ρ h1 h2).1, fun e he => (I.keep ρ h1 h2).2 e (by simp [he])⟩,
   I.root.up (fun _ h => h) (fun _ h => h) (fun _ h => h) h, fun a b hm => ⟨(I.kids a b hm).1.up (fun _ h => h) (fun _ h => h) (fun _ h => h) h, (I.kids a b hm).2.up (fun _ h => h) (fun _ h => h) (fun _ h => h) h⟩⟩
theorem uni_eq (I : UInv S₀ c d S (es ++ [(l, r)]) span Sf) (h1 : Deref S l l') (h2 : Deref S r l') : UInv S₀ c d S es span Sf :=
  uni_drop I (.inl fun ρ hρ => by rw [h1.den hρ, h2.den hρ])
theorem uni_met {a b : Nat} (I : UInv S₀ c d S (es ++ [(l, r)]) span Sf) (h1 : Deref S l (.lis a)) (h2 : Deref S r (.lis b)) (hb : b < span) (hm : Sf ((a : Int) * (span : Int) + (b : Int)) = true) : UInv S₀ c d S es span Sf :=
  uni_drop I (.inr (.inr ⟨a, b, ⟨hb, hm⟩, fun ρ hρ => ⟨h1.den hρ, h2.den hρ⟩⟩))
theorem uni_bind {x y : Cell} (I : UInv S₀ c d S (es ++ [(l, r)]) span Sf) (h1 : Deref S l l') (h2 : Deref S r r') (hxy : (x = l' ∧ y = r') ∨ (x = r' ∧ y = l')) (hx : S.get x = some x)
    (W : (S.set x y).WF) (A : Acyc (S.set x y)) : UInv S₀ c d (S.set x y) es span Sf := by
  have hS : ∀ ρ, Sol (S.set x y) ρ → Sol S ρ := fun ρ h => ((sol_set hx).mp h).1
  have hj : Just (S.set x y) es span Sf l r := .inl fun ρ hρ => by
    obtain ⟨h3, h4⟩ := (sol_set hx).mp hρ
    rw [h1.den h3, h2.den h3]
    rcases hxy with ⟨rfl, rfl⟩ | ⟨rfl, rfl⟩
    · exact h4
    · exact h4.symm
  refine ⟨W, A, fun e he => ⟨(ext_set hx).ok (I.ok e (by simp [he])).1, (ext_set hx).ok (I.ok e (by simp [he])).2⟩, I.ext.trans (ext_set hx), fun ρ h3 h4 => ?_,
    I.root.up hS (fun _ h => h) (fun _ h => h) hj, fun a b hm => ⟨(I.kids a b hm).1.up hS (fun _ h => h) (fun _ h => h) hj, (I.kids a b hm).2.up hS (fun _ h => h) (fun _ h => h) hj⟩⟩
  obtain ⟨k1, k2⟩ := I.keep ρ h3 h4
  have k3 := k2 (l, r) (by simp)
  refine ⟨(sol_set hx).mpr ⟨k1, ?_⟩, fun e he => k2 e (by simp [he])⟩
  have k4 : den ρ l' = den ρ r' := by rw [← h1.den k1, ← h2.den k1]; exact k3
  rcases hxy with ⟨rfl, rfl⟩ | ⟨rfl, rfl⟩
  · exact k4
  · exact k4.symm
theorem number_inj {span a b a' b' : Nat} (h : b < span) (h' : b' < span) (e : (a : Int) * (span : Int) + (b : Int) = (a' : Int) * (span : Int) + (b' : Int)) : a = a' ∧ b = b' := by
  have e' : a * span + b = a' * span + b' := by exact_mod_cast e
  have hs : 0 < span := by omega
  have d1 : (a * span + b) / span = a := by rw [Nat.mul_comm, Nat.mul_add_div hs, Nat.div_eq_of_lt h]; rfl
  have d2 : (a' * span + b') / span = a' := by rw [Nat.mul_comm, Nat.mul_add_div hs, Nat.div_eq_of_lt h']; rfl
  have : a = a' := by rw [← d1, ← d2, e']
  subst this
  exact ⟨rfl, by omega⟩
theorem uni_push {a b : Nat} {a0 a1 b0 b1 : Cell} (I : UInv S₀ c d S (es ++ [(l, r)]) span Sf) (h1 : Deref S l (.lis a)) (h2 : Deref S r (.lis b)) (hb : b < span)
    (ha0 : S.H[a]? = some a0) (ha1 : S.H[a + 1]? = some a1) (hb0 : S.H[b]? = some b0) (hb1 : S.H[b + 1]? = some b1) :
    UInv S₀ c d S (es ++ [(a1, b1)] ++ [(a0, b0)]) span (fun k => Sf k || decide (k = (a : Int) * (span : Int) + (b : Int))) := by
  have hf : ∀ k, Sf k = true → (Sf k || decide (k = (a : Int) * (span : Int) + (b : Int))) = true := fun k hk => by rw [hk]; rfl
  have hin : ∀ x ∈ es, x ∈ es ++ [(a1, b1)] ++ [(a0, b0)] := fun x hx => by simp [hx]
  have g : ∀ {n x} ρ, Sol S ρ → S.H[n]? = some x → den ρ (.ref n) = den ρ x := fun {n x} ρ hρ h => hρ (.ref n) x h
  have hj : Just S (es ++ [(a1, b1)] ++ [(a0, b0)]) span (fun k => Sf k || decide (k = (a : Int) * (span : Int) + (b : Int))) l r :=
    .inr (.inr ⟨a, b, ⟨hb, by simp⟩, fun ρ hρ => ⟨h1.den hρ, h2.den hρ⟩⟩)
  refine ⟨I.wf, I.ac, fun e he => ?_, I.ext, fun ρ h3 h4 => ?_, I.root.up (fun _ h => h) hf hin hj, fun a' b' hm => ?_⟩
  · simp only [List.mem_append, List.mem_singleton] at he
    rcases he with (he | rfl) | rfl
    · exact I.ok e (by simp [he])
    · exact ⟨I.wf.ok (.ref (a + 1)) _ ha1, I.wf.ok (.ref (b + 1)) _ hb1⟩
    · exact ⟨I.wf.ok (.ref a) _ ha0, I.wf.ok (.ref b) _ hb0⟩
  · obtain ⟨k1, k2⟩ := I.keep ρ h3 h4
    have k3 := k2 (l, r) (by simp)
    rw [h1.den k1, h2.den k1] at k3
    simp only [den, Tree.node.injEq] at k3
    refine ⟨k1, fun e he => ?_⟩
    simp only [List.mem_append, List.mem_singleton] at he
    rcases he with (he | rfl) | rfl
    · exact k2 e (by simp [he])
    · have e1 := g ρ k1 ha1
      have e2 := g ρ k1 hb1
      show den ρ a1 = den ρ b1
      rw [← e1, ← e2]; exact k3.2
    · have e1 := g ρ k1 ha0
      have e2 := g ρ k1 hb0
      show den ρ a0 = den ρ b0
      rw [← e1, ← e2]; exact k3.1
  · by_cases hab : a' = a ∧ b' = b
    · obtain ⟨rfl, rfl⟩ := hab
      exact ⟨.inr (.inl ⟨(a0, b0), by simp, fun ρ hρ => ⟨g ρ hρ ha0, g ρ hρ hb0⟩⟩), .inr (.inl ⟨(a1, b1), by simp, fun ρ hρ => ⟨g ρ hρ ha1, g ρ hρ hb1⟩⟩)⟩
    · have hm' : metP span Sf a' b' := by
        refine ⟨hm.1, ?_⟩
        have := hm.2
        simp only [Bool.or_eq_true, decide_eq_true_eq] at this
        rcases this with h | h
        · exact h
        · exact absurd (number_inj hm.1 hb h) hab
      exact ⟨(I.kids a' b' hm').1.up (fun _ h => h) hf hin hj, (I.kids a' b' hm').2.up (fun _ h => h) hf hin hj⟩
/-- the loop came to its end: the two unify -/
theorem uni_end (I : UInv S₀ c d S [] span Sf) : Unif S₀ c d := by
  obtain ⟨ρ, hρ⟩ := I.ac.solvable
  have step : ∀ n a b, metP span Sf a b → (den ρ (.lis a)).size ≤ n → den ρ (.lis a) = den ρ (.lis b) := by
    intro n
    induction n with
    | zero => intro a b _ h; exact absurd (Tree.size_pos (den ρ (.lis a))) (by omega)
    | succ n ih =>
      intro a b hm hsz
      have one : ∀ x y, Just S [] span Sf x y → (den ρ x).size ≤ n → den ρ x = den ρ y := by
        intro x y hj hs
        rcases hj with hj | ⟨e, he, _⟩ | ⟨a', b', hm', hj⟩
        · exact hj ρ hρ
        · cases he
        · rw [(hj ρ hρ).1, (hj ρ hρ).2]
          exact ih a' b' hm' (by rw [← (hj ρ hρ).1]; exact hs)
      simp only [den, Tree.size] at hsz
      have e0 := one _ _ (I.kids a b hm).1 (by simp only [den]; omega)
      have e1 := one _ _ (I.kids a b hm).2 (by simp only [den]; omega)
      simp only [den] at e0 e1 ⊢
      rw [e0, e1]
  refine ⟨ρ, I.ext.sol hρ, ?_⟩
  rcases I.root with hj | ⟨e, he, _⟩ | ⟨a, b, hm, hj⟩
  · exact hj ρ hρ
  · cases he
  · rw [(hj ρ hρ).1, (hj ρ hρ).2]
    exact step _ a b hm (Nat.le_refl _)
/-- a pair that cannot be met: the two do not unify -/
theorem uni_fail (I : UInv S₀ c d S (es ++ [(l, r)]) span Sf) (h1 : Deref S l l') (h2 : Deref S r r') (h : ∀ ρ, Sol S ρ → den ρ l' ≠ den ρ r') : ¬ Unif S₀ c d := by
  rintro ⟨ρ, h3, h4⟩
  obtain ⟨k1, k2⟩ := I.keep ρ h3 h4
  refine h ρ k1 ?_
  rw [← h1.den k1, ← h2.den k1]
  exact k2 (l, r) (by simp)
end
theorem bindvar_ok {S : Sto} (W : S.WF) (A : Acyc S) {x y : Cell} (hx : S.get x = some x) (hy : S.get y = some y) (hxy : x ≠ y) (hns : (∃ k, x = .srf k) ∨ ∀ k, y ≠ .srf k) : (S.set x y).WF ∧ Acyc (S.set x y) := by
  have ht : tgt y = [y] := by have := get_var hy; cases y <;> simp_all [Cell.isVar, tgt]
  have ok : S.Ok y := fun z hz => by rw [ht] at hz; rw [List.mem_singleton.mp hz, hy]; rfl
  refine ⟨wf_set W hx ok hns, acyc_set W A hx ok hns (P := fun z => z = y) ?_ ?_ hxy⟩
  · rintro z c rfl hg hc
    rw [hy] at hg
    exact absurd (Option.some.inj hg).symm hc
  · intro z hz
    rw [ht] at hz
    exact List.mem_singleton.mp hz
theorem clash {c d : Cell} (h1 : c.isVar = false) (h2 : d.isVar = false) (hne : ¬ c = d) (hl : c.isLis = false ∨ d.isLis = false) (ρ : Cell → Tree) : den ρ c ≠ den ρ d := by
  intro e
  cases c with
  | ref _ => cases h1
  | srf _ => cases h1
  | lis a =>
    cases d with
    | ref _ => cases h2
    | srf _ => cases h2
    | lis b => rcases hl with h | h <;> cases h
    | int b => simp [den] at e
  | int a =>
    cases d with
    | ref _ => cases h2
    | srf _ => cases h2
    | lis b => simp [den] at e
    | int b => simp only [den, Tree.leaf.injEq] at e; exact hne (by rw [e])
theorem num_lt {S : Sto} {c : Cell} (ok : S.Ok c) (h : c.isLis = true) : c.num < S.H.length := by
  cases c with
  | ref _ => cases h
  | srf _ => cases h
  | int _ => cases h
  | lis a =>
    obtain ⟨c0, c1, h0, _⟩ := lis_ok ok
    exact (List.getElem?_eq_some_iff.mp h0).1
def pairsOf (n : Nat) : List (Nat × Nat) := (List.range n).flatMap fun a => (List.range n).map fun b => (a, b)
theorem mem_pairsOf {n a b : Nat} : (a, b) ∈ pairsOf n ↔ a < n ∧ b < n := by simp [pairsOf]
theorem sum_const (n : Nat) (l : List Nat) : (l.map fun _ => n).sum = l.length * n := by
  induction l with
  | nil => simp
  | cons a r ih => rw [List.map_cons, List.sum_cons, ih, List.length_cons, Nat.succ_mul, Nat.add_comm]
theorem pairsOf_length (n : Nat) : (pairsOf n).length = n * n := by
  simp only [pairsOf, List.length_flatMap, List.length_map, List.length_range]
  rw [sum_const, List.length_range]
def unmet2 (n span : Nat) (Sf : Int → Bool) : Nat := (pairsOf n).countP fun (e : Nat × Nat) => !Sf ((e.1 : Int) * (span : Int) + (e.2 : Int))
theorem unmet2_le (n span : Nat) (Sf : Int → Bool) : unmet2 n span Sf ≤ n * n := by rw [← pairsOf_length]; exact List.countP_le_length
theorem unmet2_lt {n span a b : Nat} {Sf : Int → Bool} (ha : a < n) (hb : b < n) (h : Sf ((a : Int) * (span : Int) + (b : Int)) = false) :
    unmet2 n span (fun k => Sf k || decide (k = (a : Int) * (span : Int) + (b : Int))) < unmet2 n span Sf := by
  refine countP_lt (a := (a, b)) ?_ (mem_pairsOf.mpr ⟨ha, hb⟩) ?_ ?_
  · intro e he; simp at he ⊢; exact he.1
  · simp [h]
  · simp
end Mine
namespace Mine
/-- every stored cell points into the store -/
def Fit (S : Sto) : Prop := ∀ x c, S.get x = some c → S.Ok c
theorem Sto.WF.fit {S : Sto} (W : S.WF) : Fit S := W.ok
theorem Deref.fit {S : Sto} (W : Fit S) {c d : Cell} (h : Deref S c d) (o : S.Ok c) : S.Ok d := by
  induction h with
  | val _ => exact o
  | unb _ => exact o
  | step hg _ _ ih => exact ih (W _ _ hg)
theorem squeeze_fit {S : Sto} (W : Fit S) {rk : Cell → Nat} (hr : Ranked S rk) : Acyc S := by
  refine ⟨fun x => S.names.countP fun y => decide (rk y < rk x), ?_, fun x => ?_⟩
  · intro x c hg hc y hy
    have hlt := hr x c hg hc y hy
    refine countP_lt (a := y) ?_ ?_ ?_ ?_
    · intro z hz; simp at hz ⊢; omega
    · exact mem_names.mpr (W x c hg y hy)
    · simpa using hlt
    · simp
  · rw [← names_length]; exact List.countP_le_length
theorem fit_set {S : Sto} (W : Fit S) {x c : Cell} (h : S.get x = some x) (ok : S.Ok c) : Fit (S.set x c) := by
  have e := ext_set (c := c) h
  intro y d hy
  refine e.ok ?_
  by_cases hyx : y = x
  · subst hyx; rw [get_set_self h] at hy; cases hy; exact ok
  · rw [get_set_ne hyx] at hy; exact W y d hy
theorem acyc_fit {S : Sto} (W : Fit S) (A : Acyc S) {x c : Cell} (h : S.get x = some x) (ok : S.Ok c)
    {P : Cell → Prop} (hP : Closed S P) (ht : ∀ y ∈ tgt c, P y) (hx : ¬ P x) : Acyc (S.set x c) := by
  classical
  obtain ⟨rk, hr, hb⟩ := A
  refine squeeze_fit (fit_set W h ok) (rk := fun y => if P y then rk y else rk y + (S.room + 1)) ?_
  intro y d hy hd z hz
  by_cases hyx : y = x
  · subst hyx
    rw [get_set_self h] at hy; cases hy
    have := ht z hz
    have h1 := hb z
    simp only [this, hx, if_true, if_false]; omega
  · rw [get_set_ne hyx] at hy
    have hlt := hr y d hy hd z hz
    by_cases hPy : P y
    · have := hP y d hPy hy hd z hz
      simp only [this, hPy, if_true]; exact hlt
    · simp only [hPy, if_false]
      by_cases hPz : P z
      · simp only [hPz, if_true]; omega
      · simp only [hPz, if_false]; omega
theorem tgt_var {x : Cell} (h : x.isVar = true) : tgt x = [x] := by cases x <;> simp_all [Cell.isVar, tgt]
theorem bindvar_fit {S : Sto} (W : Fit S) (A : Acyc S) {x y : Cell} (hx : S.get x = some x) (hy : S.get y = some y) (hxy : x ≠ y) : Fit (S.set x y) ∧ Acyc (S.set x y) := by
  have ht : tgt y = [y] := tgt_var (get_var hy)
  have ok : S.Ok y := fun z hz => by rw [ht] at hz; rw [List.mem_singleton.mp hz, hy]; rfl
  refine ⟨fit_set W hx ok, acyc_fit W A hx ok (P := fun z => z = y) ?_ ?_ hxy⟩
  · rintro z c rfl hg hc
    rw [hy] at hg
    exact absurd (Option.some.inj hg).symm hc
  · intro z hz
    rw [ht] at hz
    exact List.mem_singleton.mp hz
/-- the store T is S with the own reading's bindings laid over it -/
structure Over (S : Sto) (bd : Cell → Option Cell) (T : Sto) : Prop where
  hl : T.H.length = S.H.length
  kl : T.K.length = S.K.length
  free : ∀ x d, bd x = some d → S.get x = some x ∧ d ≠ x
  at_ : ∀ x c, S.get x = some c → T.get x = some ((bd x).getD c)
theorem Over.refl (S : Sto) : Over S (fun _ => none) S := ⟨rfl, rfl, fun _ _ h => (nomatch h), fun _ _ h => h⟩
theorem Over.some_ {S T : Sto} {bd : Cell → Option Cell} (o : Over S bd T) (x : Cell) : (T.get x).isSome = (S.get x).isSome := by
  have h1 := @get_isSome T x
  have h2 := @get_isSome S x
  rw [o.hl, o.kl] at h1
  exact Bool.eq_iff_iff.mpr (h1.trans h2.symm)
theorem Over.room {S T : Sto} {bd : Cell → Option Cell} (o : Over S bd T) : T.room = S.room := by simp [Sto.room, o.hl, o.kl]
theorem Over.bound {S T : Sto} {bd : Cell → Option Cell} (o : Over S bd T) {x d : Cell} (h : bd x = some d) : T.get x = some d ∧ d ≠ x := by
  obtain ⟨h1, h2⟩ := o.free x d h
  refine ⟨?_, h2⟩
  rw [o.at_ x x h1, h]; rfl
theorem Over.none_ {S T : Sto} {bd : Cell → Option Cell} (o : Over S bd T) {x c : Cell} (h : bd x = none) (hs : S.get x = some c) : T.get x = some c := by
  rw [o.at_ x c hs, h]; rfl
/-- a raw heap cell: it is the place itself, or what the overlay holds there -/
theorem Over.raw {S T : Sto} {bd : Cell → Option Cell} (o : Over S bd T) {x c : Cell} (hs : S.get x = some c) : c = x ∨ (c ≠ x ∧ T.get x = some c) := by
  by_cases hc : c = x
  · exact .inl hc
  · refine .inr ⟨hc, ?_⟩
    cases hb : bd x with
    | none => exact o.none_ hb hs
    | some d =>
      obtain ⟨h1, _⟩ := o.free x d hb
      rw [hs] at h1
      exact absurd (Option.some.inj h1) hc
theorem Over.unb {S T : Sto} {bd : Cell → Option Cell} (o : Over S bd T) {x : Cell} (h : T.get x = some x) : bd x = none ∧ S.get x = some x := by
  have hi : (S.get x).isSome = true := by rw [← o.some_ x, h]; rfl
  obtain ⟨c, hc⟩ := Option.isSome_iff_exists.mp hi
  cases hb : bd x with
  | some d =>
    obtain ⟨h1, h2⟩ := o.bound hb
    rw [h] at h1
    exact absurd (Option.some.inj h1).symm h2
  | none =>
    have := o.none_ hb hc
    rw [h] at this
    exact ⟨rfl, by rw [hc, ← Option.some.inj this]⟩
theorem Over.set {S T : Sto} {bd : Cell → Option Cell} (o : Over S bd T) {x d : Cell} (h : T.get x = some x) (hd : d ≠ x) : Over S (fun y => if y = x then some d else bd y) (T.set x d) := by
  have e := ext_set (c := d) h
  obtain ⟨hb, hs⟩ := o.unb h
  refine ⟨by rw [e.hl, o.hl], by rw [e.kl, o.kl], ?_, ?_⟩
  · intro y d' hy
    by_cases hyx : y = x
    · subst hyx
      rw [if_pos rfl] at hy
      obtain rfl := Option.some.inj hy
      exact ⟨hs, hd⟩
    · rw [if_neg hyx] at hy
      exact o.free y d' hy
  · intro y c hy
    by_cases hyx : y = x
    · subst hyx
      rw [get_set_self h, if_pos rfl]; rfl
    · rw [get_set_ne hyx, if_neg hyx]
      exact o.at_ y c hy
theorem Over.sol_raw {S T : Sto} {bd : Cell → Option Cell} (o : Over S bd T) {x c : Cell} (hs : S.get x = some c) {ρ : Cell → Tree} (hρ : Sol T ρ) : den ρ c = ρ x := by
  rcases o.raw hs with rfl | ⟨_, h⟩
  · exact den_var (get_var hs)
  · exact (hρ x c h).symm
theorem Over.ok_raw {S T : Sto} {bd : Cell → Option Cell} (o : Over S bd T) (W : Fit T) {x c : Cell} (hs : S.get x = some c) : T.Ok c := by
  rcases o.raw hs with rfl | ⟨_, h⟩
  · intro y hy
    rw [tgt_var (get_var hs)] at hy
    rw [List.mem_singleton.mp hy, o.some_, hs]; rfl
  · exact W x c h
theorem child_closed {S T : Sto} {bd : Cell → Option Cell} (o : Over S bd T) {x y c : Cell} (hs : S.get y = some c) (hx : T.get x = some x) {P : Cell → Prop} (hP : Closed T P) (ht : ∀ z ∈ tgt c, P z) (hn : ¬ P x) :
    ∃ P', Closed T P' ∧ P' y ∧ ¬ P' x := by
  rcases o.raw hs with rfl | ⟨hc, h⟩
  · exact ⟨P, hP, ht c (by rw [tgt_var (get_var hs)]; exact .head _), hn⟩
  · refine ⟨fun z => P z ∨ z = y, ?_, .inr rfl, ?_⟩
    · rintro z d (hz | rfl) hg hd u hu
      · exact .inl (hP z d hz hg hd u hu)
      · rw [h] at hg
        obtain rfl := Option.some.inj hg
        exact .inl (ht u hu)
    · rintro (hz | rfl)
      · exact hn hz
      · rw [h] at hx
        exact hc (Option.some.inj hx)
/-! how deep the own reading can go -/
def wt (rk : Cell → Nat) : Cell → Nat
  | .lis n => 2 * max (rk (.ref n)) (rk (.ref (n + 1))) + 2
  | .int _ => 0
  | x => 2 * rk x + 1
theorem wt_var {rk : Cell → Nat} {x : Cell} (h : x.isVar = true) : wt rk x = 2 * rk x + 1 := by cases x <;> first | rfl | cases h
theorem wt_step {T : Sto} {rk : Cell → Nat} (hr : Ranked T rk) {x c : Cell} (h : T.get x = some c) (hc : c ≠ x) : wt rk c < wt rk x := by
  rw [wt_var (get_var h)]
  have ht := hr x c h hc
  cases c with
  | lis n =>
    have h1 := ht (.ref n) (by simp [tgt])
    have h2 := ht (.ref (n + 1)) (by simp [tgt])
    simp only [wt]; omega
  | int n => simp only [wt]; omega
  | ref n => have h1 := ht (.ref n) (by simp [tgt]); simp only [wt]; omega
  | srf n => have h1 := ht (.srf n) (by simp [tgt]); simp only [wt]; omega
theorem wt_deref {T : Sto} {rk : Cell → Nat} (hr : Ranked T rk) {c d : Cell} (h : Deref T c d) : wt rk d ≤ wt rk c := by
  induction h with
  | val _ => exact Nat.le_refl _
  | unb _ => exact Nat.le_refl _
  | step hg hn _ ih => exact Nat.le_trans ih (Nat.le_of_lt (wt_step hr hg hn))
theorem wt_le {rk : Cell → Nat} {N : Nat} (h : ∀ x, rk x ≤ N) (c : Cell) : wt rk c ≤ 2 * N + 2 := by
  cases c with
  | lis n => have h1 := h (.ref n); have h2 := h (.ref (n + 1)); simp only [wt]; omega
  | int n => simp only [wt]; omega
  | ref n => have h1 := h (.ref n); simp only [wt]; omega
  | srf n => have h1 := h (.srf n); simp only [wt]; omega
theorem wt_raw {S T : Sto} {bd : Cell → Option Cell} (o : Over S bd T) {rk : Cell → Nat} (hr : Ranked T rk) {x c : Cell} (hs : S.get x = some c) : wt rk c ≤ 2 * rk x + 1 := by
  rcases o.raw hs with rfl | ⟨hc, h⟩
  · exact Nat.le_of_eq (wt_var (get_var hs))
  · have := wt_step hr h hc
    rw [wt_var (get_var h)] at this
    omega
/-- so many steps down have been made to the cell -/
def Low (T : Sto) (N : Nat) (c : Cell) (k : Nat) : Prop := ∀ rk, Ranked T rk → (∀ x, rk x ≤ N) → wt rk c + k ≤ 2 * N + 2
theorem Low.start (T : Sto) (N : Nat) (c : Cell) : Low T N c 0 := fun rk _ h => wt_le h c
theorem Low.child {S T : Sto} {bd : Cell → Option Cell} (o : Over S bd T) {N k a b : Nat} {c c0 : Cell} (h : Low T N c k) (hd : Deref T c (.lis a)) (hs : S.get (.ref b) = some c0) (hb : b = a ∨ b = a + 1) : Low T N c0 (k + 1) := by
  intro rk hr hN
  have h1 := h rk hr hN
  have h2 : 2 * max (rk (.ref a)) (rk (.ref (a + 1))) + 2 ≤ wt rk c := wt_deref hr hd
  have h3 := wt_raw o hr hs
  rcases hb with rfl | rfl <;> omega
theorem ranked_ext {T T' : Sto} (e : Ext T T') {rk : Cell → Nat} (h : Ranked T' rk) : Ranked T rk := fun x c hg hc y hy => h x c (e.keep x c hg hc) hc y hy
theorem Low.ext {T T' : Sto} (e : Ext T T') {N k : Nat} {c : Cell} (h : Low T N c k) : Low T' N c k := fun rk hr hN => h rk (ranked_ext e hr) hN
theorem Low.end_ {T : Sto} (A : Acyc T) {N : Nat} {c : Cell} (hN : T.room ≤ N) (h : Low T N c (2 * N + 3)) : False := by
  obtain ⟨rk, hr, hb⟩ := A
  have := h rk hr fun x => Nat.le_trans (hb x) hN
  omega
/-- what a call of the own reading's occurs check shows -/
structure Ins (T : Sto) (x c : Cell) (b : Bool) : Prop where
  yes : b = true → ∀ ρ, Sol T ρ → (den ρ x).size ≤ (den ρ c).size ∧ (c.isLis = true → (den ρ x).size < (den ρ c).size)
  no : b = false → ∃ P, Closed T P ∧ (∀ y ∈ tgt c, P y) ∧ ¬ P x
theorem deref_self {T : Sto} {c d : Cell} (h : Deref T c d) (hc : c.isVar = false) : d = c := by
  cases h with
  | val _ => rfl
  | unb _ => rfl
  | step hg _ _ => rw [get_var hg] at hc; cases hc
theorem ins_end {T : Sto} {x c d : Cell} (hx : T.get x = some x) (h : Deref T c d) (hl : d.isLis = false) : Ins T x c (decide (d = x)) := by
  refine ⟨fun hb => ?_, fun hb => ?_⟩
  · obtain rfl := of_decide_eq_true hb
    intro ρ hρ
    refine ⟨Nat.le_of_eq (by rw [h.den hρ]), fun hcl => ?_⟩
    have hcv : c.isVar = false := by cases c <;> first | rfl | cases hcl
    obtain rfl := deref_self h hcv
    rw [hcl] at hl; cases hl
  · have hne : d ≠ x := of_decide_eq_false hb
    rcases h.end_ with hv | hu
    · have ht : tgt d = [] := by cases d <;> simp_all [tgt, Cell.isVar, Cell.isLis]
      exact closed_deref h hx hne (P := fun _ => False) (fun _ _ h => h.elim) (by rw [ht]; intro y hy; cases hy) (fun h => h)
    · refine closed_deref h hx hne (P := fun z => z = d) ?_ ?_ (fun e => hne e.symm)
      · rintro z e rfl hg he
        rw [hu] at hg
        exact absurd (Option.some.inj hg).symm he
      · intro y hy
        rw [tgt_var (get_var hu)] at hy
        exact List.mem_singleton.mp hy
theorem ins_hit {S T : Sto} {bd : Cell → Option Cell} (o : Over S bd T) {x c c0 : Cell} {a n : Nat} (h : Deref T c (.lis a)) (hs : S.get (.ref n) = some c0) (hn : n = a ∨ n = a + 1) (k : Ins T x c0 true) : Ins T x c true := by
  refine ⟨fun _ ρ hρ => ?_, fun hb => nomatch hb⟩
  have h1 := (k.yes rfl ρ hρ).1
  rw [o.sol_raw hs hρ] at h1
  have h2 : (den ρ c).size = (den ρ (.lis a)).size := by rw [h.den hρ]
  have h3 : (den ρ (.lis a)).size = 1 + (ρ (.ref a)).size + (ρ (.ref (a + 1))).size := by simp only [den, Tree.size]; omega
  have h4 := Tree.size_pos (ρ (.ref a))
  have h5 := Tree.size_pos (ρ (.ref (a + 1)))
  rcases hn with rfl | rfl <;> exact ⟨by omega, fun _ => by omega⟩
theorem ins_miss {S T : Sto} {bd : Cell → Option Cell} (o : Over S bd T) {x c c0 c1 : Cell} {a : Nat} (hx : T.get x = some x) (h : Deref T c (.lis a)) (h0 : S.get (.ref a) = some c0) (h1 : S.get (.ref (a + 1)) = some c1)
    (k0 : Ins T x c0 false) (k1 : Ins T x c1 false) : Ins T x c false := by
  refine ⟨fun hb => (nomatch hb), fun _ => ?_⟩
  obtain ⟨P0, a1, a2, a3⟩ := k0.no rfl
  obtain ⟨P1, b1, b2, b3⟩ := k1.no rfl
  obtain ⟨Q0, c1', c2, c3⟩ := child_closed o h0 hx a1 a2 a3
  obtain ⟨Q1, d1, d2, d3⟩ := child_closed o h1 hx b1 b2 b3
  have hne : Cell.lis a ≠ x := fun e => by subst e; cases hx
  refine closed_deref h hx hne (closed_union c1' d1) ?_ (fun e => e.elim c3 d3)
  intro y hy
  simp only [tgt, List.mem_cons, List.not_mem_nil, or_false] at hy
  rcases hy with rfl | rfl
  · exact .inl c2
  · exact .inr d2
/-- what a call of the own reading shows -/
structure Met (S T : Sto) (one two : Cell) (bd' : Cell → Option Cell) (T' : Sto) : Prop where
  ov : Over S bd' T'
  ext : Ext T T'
  fit : Fit T'
  ac : Acyc T'
  sol : ∀ ρ, Sol T' ρ ↔ (Sol T ρ ∧ den ρ one = den ρ two)
theorem met_eq {S T : Sto} {bd : Cell → Option Cell} {one two d : Cell} (o : Over S bd T) (W : Fit T) (A : Acyc T) (h1 : Deref T one d) (h2 : Deref T two d) : Met S T one two bd T :=
  ⟨o, .refl T, W, A, fun ρ => ⟨fun h => ⟨h, (h1.den h).trans (h2.den h).symm⟩, fun h => h.1⟩⟩
theorem met_bind {S T : Sto} {bd : Cell → Option Cell} {one two x c d1 d2 : Cell} (o : Over S bd T) (W : Fit T) (A : Acyc T) (h1 : Deref T one d1) (h2 : Deref T two d2) (hxc : (x = d1 ∧ c = d2) ∨ (x = d2 ∧ c = d1)) (hx : T.get x = some x) (hne : c ≠ x) (ok : T.Ok c)
    {P : Cell → Prop} (hP : Closed T P) (ht : ∀ y ∈ tgt c, P y) (hn : ¬ P x) : Met S T one two (fun y => if y = x then some c else bd y) (T.set x c) := by
  refine ⟨o.set hx hne, ext_set hx, fit_set W hx ok, acyc_fit W A hx ok hP ht hn, fun ρ => ?_⟩
  rw [sol_set hx]
  refine and_congr_right fun h => ?_
  rw [h1.den h, h2.den h]
  rcases hxc with ⟨rfl, rfl⟩ | ⟨rfl, rfl⟩
  · exact Iff.rfl
  · exact eq_comm
theorem met_lis {S T T1 T2 : Sto} {bd bd1 bd2 : Cell → Option Cell} {one two c0 c1 e0 e1 : Cell} {a b : Nat} (o : Over S bd T) (h1 : Deref T one (.lis a)) (h2 : Deref T two (.lis b))
    (g0 : S.get (.ref a) = some c0) (g1 : S.get (.ref (a + 1)) = some c1) (g2 : S.get (.ref b) = some e0) (g3 : S.get (.ref (b + 1)) = some e1) (k0 : Met S T c0 e0 bd1 T1) (k1 : Met S T1 c1 e1 bd2 T2) : Met S T one two bd2 T2 := by
  refine ⟨k1.ov, k0.ext.trans k1.ext, k1.fit, k1.ac, fun ρ => ?_⟩
  rw [k1.sol, k0.sol, and_assoc]
  refine and_congr_right fun h => ?_
  rw [h1.den h, h2.den h, o.sol_raw g0 h, o.sol_raw g1 h, o.sol_raw g2 h, o.sol_raw g3 h]
  simp only [den, Tree.node.injEq]
theorem unmet_lis {S T T1 : Sto} {bd bd1 : Cell → Option Cell} {one two c0 c1 e0 e1 : Cell} {a b : Nat} (o : Over S bd T) (h1 : Deref T one (.lis a)) (h2 : Deref T two (.lis b))
    (g0 : S.get (.ref a) = some c0) (g1 : S.get (.ref (a + 1)) = some c1) (g2 : S.get (.ref b) = some e0) (g3 : S.get (.ref (b + 1)) = some e1)
    (k : (∀ ρ, Sol T ρ → den ρ c0 ≠ den ρ e0) ∨ (Met S T c0 e0 bd1 T1 ∧ ∀ ρ, Sol T1 ρ → den ρ c1 ≠ den ρ e1)) : ∀ ρ, Sol T ρ → den ρ one ≠ den ρ two := by
  intro ρ h e
  rw [h1.den h, h2.den h] at e
  simp only [den, Tree.node.injEq] at e
  rw [← o.sol_raw g0 h, ← o.sol_raw g1 h, ← o.sol_raw g2 h, ← o.sol_raw g3 h] at e
  rcases k with k | ⟨m, k⟩
  · exact k ρ h e.1
  · exact k ρ ((m.sol ρ).mpr ⟨h, e.1⟩) e.2
end Mine
namespace Mine
/-- a heap cell is itself, or points below its own place -/
def Built (S : Sto) : Prop := ∀ n c, S.H[n]? = some c → c = .ref n ∨ ∀ y ∈ tgt c, ∃ k, y = .ref k ∧ k < n
/-- what stands after so many pairs -/
structure Pairs (S : Sto) (cl : List Cell) (i : Nat) : Prop where
  k : S.K = []
  hl : S.H.length = 4 + 2 * i
  hc : cl.length = 4 + i
  built : Built S
  first : ∀ j, j < 4 → cl[j]? = some (.ref j) ∧ S.H[j]? = some (.ref j)
  ok : ∀ c ∈ cl, S.Ok c ∧ ∀ k, c ≠ .srf k
theorem refs4_get {j : Nat} (h : j < 4) : ((List.range 4).map Cell.ref)[j]? = some (.ref j) := by
  simp [h]
theorem pairs_start : Pairs ⟨(List.range 4).map .ref, []⟩ ((List.range 4).map .ref) 0 := by
  refine ⟨rfl, rfl, rfl, ?_, ?_, ?_⟩
  · intro n c h
    have hn : n < 4 := by
      have := (List.getElem?_eq_some_iff.mp h).1
      simpa using this
    have h2 := refs4_get hn
    have h3 : ((List.range 4).map Cell.ref)[n]? = some c := h
    rw [h2] at h3
    exact .inl (Option.some.inj h3).symm
  · intro j hj
    exact ⟨refs4_get hj, refs4_get hj⟩
  · intro c hc
    obtain ⟨n, hn, rfl⟩ := List.mem_map.mp hc
    have hn' : n < 4 := by simpa using hn
    refine ⟨?_, fun k h => (nomatch h)⟩
    intro y hy
    simp only [tgt, List.mem_singleton] at hy
    subst hy
    show (((List.range 4).map Cell.ref)[n]?).isSome = true
    rw [refs4_get hn']; rfl
/-- a cell that may be pushed: one of the cells, or a number -/
def Item (S : Sto) (c : Cell) : Prop := S.Ok c ∧ (∀ k, c ≠ .srf k)
theorem item_int (S : Sto) (n : Nat) : Item S (.int n) := ⟨fun y hy => by simp [tgt] at hy, fun k h => (nomatch h)⟩
theorem ok_more {S : Sto} {l : List Cell} {c : Cell} (h : S.Ok c) : (⟨S.H ++ l, S.K⟩ : Sto).Ok c := by
  intro y hy
  have := h y hy
  rw [get_isSome] at this ⊢
  cases y <;> simp only [List.length_append] at this ⊢ <;> first | omega | exact this
theorem item_below {S : Sto} {c : Cell} (h : Item S c) : ∀ y ∈ tgt c, ∃ k, y = .ref k ∧ k < S.H.length := by
  intro y hy
  have := h.1 y hy
  rw [get_isSome] at this
  cases c with
  | ref n =>
    simp only [tgt, List.mem_singleton] at hy
    subst hy
    exact ⟨n, rfl, this⟩
  | srf n => exact absurd rfl (h.2 n)
  | lis n =>
    simp only [tgt, List.mem_cons, List.not_mem_nil, or_false] at hy
    rcases hy with rfl | rfl
    · exact ⟨n, rfl, this⟩
    · exact ⟨n + 1, rfl, this⟩
  | int n => simp [tgt] at hy
theorem pairs_step {S : Sto} {cl : List Cell} {i : Nat} {c0 c1 : Cell} (P : Pairs S cl i) (h0 : Item S c0) (h1 : Item S c1) : Pairs ⟨S.H ++ [c0] ++ [c1], S.K⟩ (cl ++ [.lis S.H.length]) (i + 1) := by
  have hl := P.hl
  have hc := P.hc
  refine ⟨P.k, by simp only [List.length_append, List.length_cons, List.length_nil]; omega, by simp only [List.length_append, List.length_cons, List.length_nil]; omega, ?_, ?_, ?_⟩
  · intro n c h
    have h' : (S.H ++ [c0] ++ [c1])[n]? = some c := h
    by_cases hn : n < S.H.length
    · rw [List.append_assoc, List.getElem?_append_left hn] at h'
      exact P.built n c h'
    · have hn2 : n < S.H.length + 2 := by
        have := (List.getElem?_eq_some_iff.mp h').1
        simpa using this
      have hcc : c = c0 ∨ c = c1 := by
        rcases (by omega : n = S.H.length ∨ n = S.H.length + 1) with rfl | rfl
        · rw [List.append_assoc, List.getElem?_append_right (Nat.le_refl _)] at h'
          simp at h'
          exact .inl h'.symm
        · rw [List.append_assoc, List.getElem?_append_right (by omega)] at h'
          simp at h'
          exact .inr h'.symm
      right
      intro y hy
      rcases hcc with rfl | rfl
      · obtain ⟨k, e, hk⟩ := item_below h0 y hy
        exact ⟨k, e, by omega⟩
      · obtain ⟨k, e, hk⟩ := item_below h1 y hy
        exact ⟨k, e, by omega⟩
  · intro j hj
    obtain ⟨a, b⟩ := P.first j hj
    refine ⟨?_, ?_⟩
    · rw [List.getElem?_append_left (by omega)]; exact a
    · show (S.H ++ [c0] ++ [c1])[j]? = _
      rw [List.append_assoc, List.getElem?_append_left (by omega)]; exact b
  · intro c hc
    rcases List.mem_append.mp hc with hc | hc
    · obtain ⟨a, b⟩ := P.ok c hc
      refine ⟨?_, b⟩
      have := ok_more (l := [c0] ++ [c1]) a
      rw [List.append_assoc]; exact this
    · rw [List.mem_singleton.mp hc]
      refine ⟨?_, fun k h => (nomatch h)⟩
      intro y hy
      rw [get_isSome]
      simp only [tgt, List.mem_cons, List.not_mem_nil, or_false] at hy
      rcases hy with rfl | rfl <;> simp
/-- the binds ahead: the places from i on are unbound yet -/
structure Binds (S : Sto) (cl : List Cell) (i : Nat) : Prop where
  k : S.K = []
  hl : S.H.length ≤ 12
  h4 : 4 ≤ S.H.length
  hc : cl.length ≤ 8
  built : Built S
  first : ∀ j, j < 4 → cl[j]? = some (.ref j)
  free : ∀ j, i ≤ j → j < 4 → S.H[j]? = some (.ref j)
  ok : ∀ c ∈ cl, S.Ok c ∧ ∀ k, c ≠ .srf k
theorem binds_start {S : Sto} {cl : List Cell} {i : Nat} (P : Pairs S cl i) (h : i ≤ 4) : Binds S cl 0 :=
  ⟨P.k, by have := P.hl; omega, by have := P.hl; omega, by have := P.hc; omega, P.built, fun j hj => (P.first j hj).1, fun j _ hj => (P.first j hj).2, P.ok⟩
theorem binds_skip {S : Sto} {cl : List Cell} {i : Nat} (P : Binds S cl i) : Binds S cl (i + 1) := ⟨P.k, P.hl, P.h4, P.hc, P.built, P.first, fun j h1 h2 => P.free j (by omega) h2, P.ok⟩
theorem binds_bind {S : Sto} {cl : List Cell} {i v : Nat} (P : Binds S cl i) (hi : i < 4) : Binds (S.set (.ref i) (.int v)) cl (i + 1) := by
  have hg : S.get (.ref i) = some (.ref i) := P.free i (Nat.le_refl _) hi
  have e := ext_set (c := .int v) hg
  refine ⟨P.k, by show (S.H.set i _).length ≤ 12; rw [List.length_set]; exact P.hl, by show 4 ≤ (S.H.set i _).length; rw [List.length_set]; exact P.h4, P.hc, ?_, P.first, ?_, fun c hc => ⟨e.ok (P.ok c hc).1, (P.ok c hc).2⟩⟩
  · intro n c h
    have h' : (S.H.set i (.int v))[n]? = some c := h
    rw [List.getElem?_set] at h'
    by_cases hn : i = n
    · subst hn
      simp only [if_true] at h'
      split at h'
      · obtain rfl := Option.some.inj h'
        exact .inr fun y hy => by simp [tgt] at hy
      · cases h'
    · rw [if_neg hn] at h'
      exact P.built n c h'
  · intro j h1 h2
    show (S.H.set i (.int v))[j]? = _
    rw [List.getElem?_set, if_neg (by omega)]
    exact P.free j (by omega) h2
end Mine
namespace Mine
/-- the stack's slots: the first i of them stand -/
structure Slots (S : Sto) (cl : List Cell) (i : Nat) : Prop where
  k : S.K.length = i
  hl : S.H.length ≤ 12
  h4 : 4 ≤ S.H.length
  hc : cl.length ≤ 8 + i
  h5 : 4 ≤ cl.length
  built : Built S
  stack : ∀ j c, S.K[j]? = some c → c = .srf j ∨ ∀ y ∈ tgt c, ∃ k, y = .ref k ∧ k < S.H.length
  first : ∀ j, j < 4 → cl[j]? = some (.ref j)
  ok : ∀ c ∈ cl, S.Ok c
theorem slots_start {S : Sto} {cl : List Cell} (P : Binds S cl 4) : Slots S cl 0 := by
  refine ⟨by rw [P.k]; rfl, P.hl, P.h4, P.hc, ?_, P.built, ?_, P.first, fun c hc => (P.ok c hc).1⟩
  · have := (List.getElem?_eq_some_iff.mp (P.first 3 (by omega))).1
    omega
  · intro j c h
    rw [P.k] at h; cases h
theorem ok_slot {S : Sto} {d c : Cell} (h : S.Ok c) : (⟨S.H, S.K ++ [d]⟩ : Sto).Ok c := by
  intro y hy
  have := h y hy
  rw [get_isSome] at this ⊢
  cases y <;> simp only [List.length_append] at this ⊢ <;> first | omega | exact this
theorem slots_step {S : Sto} {cl : List Cell} {i : Nat} {d : Cell} (P : Slots S cl i) (hd : d = .srf i ∨ d = .ref i ∧ i < 4 ∨ ∃ n, d = .int n) : Slots ⟨S.H, S.K ++ [d]⟩ (cl ++ [.srf i]) (i + 1) := by
  have hk := P.k
  have h4 := P.h4
  refine ⟨by simp [hk], P.hl, P.h4, by have := P.hc; simp only [List.length_append, List.length_cons, List.length_nil]; omega, by have := P.h5; simp only [List.length_append]; omega, P.built, ?_, ?_, ?_⟩
  · intro j c h
    have h' : (S.K ++ [d])[j]? = some c := h
    by_cases hj : j < S.K.length
    · rw [List.getElem?_append_left hj] at h'
      exact P.stack j c h'
    · have hj2 : j = i := by
        have := (List.getElem?_eq_some_iff.mp h').1
        simp at this; omega
      subst hj2
      rw [List.getElem?_append_right (by omega)] at h'
      simp [hk] at h'
      subst h'
      rcases hd with rfl | ⟨rfl, hi⟩ | ⟨n, rfl⟩
      · exact .inl rfl
      · refine .inr fun y hy => ?_
        simp only [tgt, List.mem_singleton] at hy
        exact ⟨j, hy, by show j < S.H.length; omega⟩
      · exact .inr fun y hy => by simp [tgt] at hy
  · intro j hj
    rw [List.getElem?_append_left (by have := P.h5; omega)]
    exact P.first j hj
  · intro c hc
    rcases List.mem_append.mp hc with hc | hc
    · exact ok_slot (P.ok c hc)
    · rw [List.mem_singleton.mp hc]
      intro y hy
      simp only [tgt, List.mem_singleton] at hy
      subst hy
      rw [get_isSome]
      simp only [List.length_append, List.length_cons, List.length_nil]; omega
theorem slots_wf {S : Sto} {cl : List Cell} {i : Nat} (P : Slots S cl i) : S.WF := by
  have hH : ∀ (n : Nat) (c : Cell), S.H[n]? = some c → S.Ok c := by
    intro n c h y hy
    rw [get_isSome]
    have hn := (List.getElem?_eq_some_iff.mp h).1
    rcases P.built n c h with rfl | hb
    · simp only [tgt, List.mem_singleton] at hy
      subst hy
      exact hn
    · obtain ⟨k, rfl, hk⟩ := hb y hy
      show k < S.H.length
      omega
  refine ⟨?_, ?_⟩
  · intro x c h
    cases x with
    | ref n => exact hH n c h
    | srf n =>
      have h' : S.K[n]? = some c := h
      intro y hy
      rw [get_isSome]
      have hn := (List.getElem?_eq_some_iff.mp h').1
      rcases P.stack n c h' with rfl | hb
      · simp only [tgt, List.mem_singleton] at hy
        subst hy
        exact hn
      · obtain ⟨k, rfl, hk⟩ := hb y hy
        exact hk
    | lis n => cases h
    | int n => cases h
  · intro n c h k e
    subst e
    rcases P.built n _ h with e | hb
    · cases e
    · obtain ⟨j, e, _⟩ := hb (.srf k) (by simp [tgt])
      cases e
theorem slots_acyc {S : Sto} {cl : List Cell} {i : Nat} (P : Slots S cl i) : Acyc S := by
  refine squeeze (slots_wf P) (rk := fun x => match x with | .ref n => n | .srf n => S.H.length + n | _ => 0) ?_
  intro x c h hne y hy
  cases x with
  | ref n =>
    rcases P.built n c h with rfl | hb
    · exact absurd rfl hne
    · obtain ⟨k, rfl, hk⟩ := hb y hy
      exact hk
  | srf n =>
    rcases P.stack n c h with rfl | hb
    · exact absurd rfl hne
    · obtain ⟨k, rfl, hk⟩ := hb y hy
      show k < S.H.length + n
      omega
  | lis n => cases h
  | int n => cases h
theorem slots_room {S : Sto} {cl : List Cell} {i : Nat} (P : Slots S cl i) (h : i ≤ 3) : S.room ≤ 40 := by
  have h1 := P.k
  have h2 := P.hl
  unfold Sto.room; omega
/-- the own reading's answer, from an empty dict -/
theorem due_unif {S : Sto} {a b : Cell} {t : Bool} (yes : t = true → ∃ T : Sto, Acyc T ∧ ∀ ρ, Sol T ρ ↔ (Sol S ρ ∧ den ρ a = den ρ b)) (no : t = false → ∀ ρ, Sol S ρ → den ρ a ≠ den ρ b) : t = true ↔ Unif S a b := by
  constructor
  · intro h
    obtain ⟨T, A, hs⟩ := yes h
    obtain ⟨ρ, hρ⟩ := A.solvable
    exact ⟨ρ, (hs ρ).mp hρ⟩
  · rintro ⟨ρ, h1, h2⟩
    cases t with
    | true => rfl
    | false => exact absurd h2 (no rfl ρ h1)
end Mine
open PySem PySem.W PyProof.Rows
namespace Mine
def topRunT (tb : String → Option Builtin) (p : Program) (w : World) (n₀ : Nat) (ann : Option Value) : Nat → SharedT → Thread → Option SharedT
  | 0, _, _ => none
  | n + 1, s, t => match through t with
    | true => some s
    | false => match stepOk n₀ ann t with
      | false => none
      | true => match stepT (denote tb) p w s t with
        | some (s', t') => topRunT tb p w n₀ ann n s' t'
        | none => none
theorem topRunT_of {tb : String → Option Builtin} {p : Program} {w : World} {n₀ : Nat} {ann : Option Value} :
    ∀ {n : Nat} {s s' : SharedT} {t : Thread}, topRunT tb p w n₀ ann n s t = some s' → topRun tb p w n₀ ann n s.abs t = some s'.abs
  | 0, _, _, _, h => by cases h
  | n + 1, s, s', t, h => by
    unfold topRunT at h
    unfold topRun
    cases ht : through t with
    | true => rw [ht] at h; cases h; rfl
    | false =>
      rw [ht] at h
      cases hk : stepOk n₀ ann t with
      | false => rw [hk] at h; cases h
      | true =>
        rw [hk] at h
        cases hs : stepT (denote tb) p w s t with
        | none => rw [hs] at h; cases h
        | some r => obtain ⟨s₂, t₂⟩ := r; rw [hs] at h; rw [stepT_spec hs]; exact topRunT_of h
def bt (l : List Obj) : Nat → Nat → Nat → BT
  | 0, _, _ => .nil
  | n + 1, a, b => match l[b]? with
    | some o => .node o (bt l n (2 * a) (a + b)) (bt l n (2 * a) (2 * a + b))
    | none => .nil
noncomputable def T0 (w : World) (os : OsState) : SharedT := ⟨bt (boot_heap w.params).objs.toList 12 1 0, (boot_heap w.params).objs.toList.length, (boot_heap w.params).life, #[], boot_drawn, boot_toks, os⟩
theorem T0_abs (w : World) (os : OsState) : (T0 w os).abs = ⟨boot_heap w.params, #[], boot_drawn, boot_toks, os⟩ := by kernel_rfl
theorem boot_ns (w : World) : ((boot_heap w.params).isNs mainGlobals && (#[] : Array GenState).size == 0) = true := by kernel_rfl
/-- an object of a tree heap, as the heap itself would give it -/
def tget (s : SharedT) (a : Addr) : Option Obj := match Nat.blt a s.n with
  | true => alive ((s.tree.get a).getD default)
  | false => none
theorem tget_eq (s : SharedT) (a : Addr) : s.abs.heap.get? a = tget s a := by
  obtain ⟨t, n, life, gens, drawn, toks, os⟩ := s
  show (absHeap t n life).get? a = match Nat.blt a n with | true => alive ((t.get a).getD default) | false => none
  cases h : Nat.blt a n with
  | true =>
    have lt : a < n := Nat.le_of_ble_eq_true h
    unfold Heap.get?
    rw [absHeap_at, if_pos lt]
    show (match some ((t.get a).getD default) with | some ⟨_, _, .freed, _⟩ => none | o => o) = alive ((t.get a).getD default)
    generalize (t.get a).getD default = o
    obtain ⟨c, d, dt, sl⟩ := o
    cases dt <;> rfl
  | false =>
    have lt : ¬ a < n := fun q => by rw [show Nat.blt a n = true from Nat.ble_eq_true_of_le q] at h; cases h
    exact abs_get_none lt
theorem left_of {p q : Program} {loose : List Str} {Xt : Shared → Bool} {as : List Addr} {Ya : World → List (Option Obj)} {N : Nat}
    (e : opening p = plainProg p.main.scope.names) (hN : Nat.ble 600 N = true) (f : ∀ s, fenceModules? p s = some s)
    (h : ∀ w os, (topRunT treeTable p w (boot_heap w.params).objs.size ((boot_heap w.params).nsMap mainGlobals "__annotations__") N (T0 w os) (topStub p)).map
      (fun s => (staticsOk (importedModules p.main.body) (boot_heap w.params) s.abs.heap && namesBound p s.abs.heap && gensDone s.abs && laidKept (boot_heap w.params) s.abs.heap,
        openSeen q loose (importedModules p.main.body) Xt true s.abs, as.map (tget s))) = some (true, openGood q loose, Ya w)) :
    LeftO p q loose Xt (fun s => as.map s.heap.get?) Ya N := fun w => by
  obtain ⟨⟨H, gens, drawn, toks, os⟩, h0, e0⟩ := Option.map_eq_some_iff.mp (boot_open e hN f w)
  simp only [Prod.mk.injEq] at e0
  obtain ⟨rfl, rfl, rfl, rfl⟩ := e0
  obtain ⟨s, h1, e1⟩ := Option.map_eq_some_iff.mp (h w os)
  simp only [Prod.mk.injEq] at e1
  obtain ⟨e2, e3, e4⟩ := e1
  have h2 := topRunT_of h1
  rw [T0_abs] at h2
  have h3 : topFrom treeTable p w N ⟨boot_heap w.params, Array.mk [], boot_drawn, boot_toks, os⟩ = some s.abs := by
    unfold topFrom
    rw [show ((boot_heap w.params).isNs mainGlobals && (Array.mk [] : Array GenState).size == 0) = true from boot_ns w]
    show (topRun treeTable p w _ _ N _ _).bind _ = _
    rw [h2]
    show (match (staticsOk (importedModules p.main.body) (boot_heap w.params) s.abs.heap && namesBound p s.abs.heap && gensDone s.abs && laidKept (boot_heap w.params) s.abs.heap) with | true => some s.abs | false => none) = _
    rw [e2]
  unfold openEnds
  rw [h0]
  show (topFrom treeTable p w N _).map _ = _
  rw [h3]
  exact congrArg some (Prod.ext e3 ((congrArg (fun f => as.map f) (funext fun a => tget_eq s a)).trans e4))
theorem absorb {T U G : Prop} (_ : T) (_ : U) (g : G) : G := g
set_option maxRecDepth 100000 in
set_option maxHeartbeats 80000000 in
def hd := fun (left : _) (walk : _) => (show PySem.Challenge.rw_rr0022_01.Holds by
  w_on
  refine holds_law (by decide +kernel) fun said => ?_
  refine' absorb ?hl ?hc ?main
  case main =>
    k_head
    (case hw => w_witness2)
  case hc => exact walk
  case hl => exact left)
set_option maxRecDepth 100000 in
set_option maxHeartbeats 80000000 in
def hd2 := fun (walk : _) => hd (left_of (by kernel_rfl) (by kernel_rfl) (fun _ => by rfl) (fun w os => by kernel_rfl)) walk
end Mine
namespace Mine
/-- what a call of the def at f does: from the ledger `news` it comes back with a value and a ledger that `Post` speaks of -/
structure Does (w : World) (f : Addr) (need : Nat) (vs : List Value) (news : List (Addr × Obj)) (Post : Value → List (Addr × Obj) → Prop) : Prop where
  run : ∀ (dp un : Nat) (gd : Option (List Code)) (cn : Str) (cs : Scope) (a : Addr) (ccd : Value) (cl : List (Str × Addr)) (outer : List Env) (A₀ : Around) (base h₀ : Heap) (L : Addr)
    (mean : ExcName → Option Value) (mg mb m : Str → Option Value) (s : Shared) (Q E : Value → Shared → Prop),
    Below A₀ base outer h₀ → Fr h₀ L s.heap m → (hd.heap_1 w.params).In h₀ → News h₀ L s.heap news →
    Top hd.view_1 (looseW hd.view_1 [Str.ofString "VOID", Str.ofString "Store"]) mean mg mb h₀ → cs.kind = .function →
    dp + need < recursionLimit → un + 8 * need + 100 < cLine →
    (∀ r news' h' tk', Fr h₀ L h' m → News h₀ L h' news' → Post r news' → Q r { s with heap := h', toks := tk' }) →
    wpAny (model PySem.Challenge.rw_rr0022_01.row.prog w) (ktrTop dp un gd cn cs L a ccd cl outer) (call (.ref f) vs) Q E s
theorem Does.use {w : World} {f : Addr} {need : Nat} {vs : List Value} {news : List (Addr × Obj)} {Post : Value → List (Addr × Obj) → Prop} (D : Does w f need vs news Post)
    {dp un : Nat} {gd : Option (List Code)} {cn : Str} {cs : Scope} {a : Addr} {ccd : Value} {cl : List (Str × Addr)} {outer : List Env} {A₀ : Around} {base h₀ : Heap} {L : Addr}
    {mean : ExcName → Option Value} {mg mb m : Str → Option Value} {s : Shared} {Q E : Value → Shared → Prop}
    (B : Below A₀ base outer h₀) (F : Fr h₀ L s.heap m) (X : (hd.heap_1 w.params).In h₀) (N : News h₀ L s.heap news)
    (T : Top hd.view_1 (looseW hd.view_1 [Str.ofString "VOID", Str.ofString "Store"]) mean mg mb h₀) (hk : cs.kind = .function)
    (hdp : dp + need < recursionLimit) (hun : un + 8 * need + 100 < cLine)
    (ret : ∀ r news' h' tk', Fr h₀ L h' m → News h₀ L h' news' → Post r news' → Q r { s with heap := h', toks := tk' }) :
    wpAny (model PySem.Challenge.rw_rr0022_01.row.prog w) (ktrTop dp un gd cn cs L a ccd cl outer) (call (.ref f) vs) Q E s :=
  D.run dp un gd cn cs a ccd cl outer A₀ base h₀ L mean mg mb m s Q E B F X N T hk hdp hun ret

theorem dp_ok {dp k N R : Nat} (h : dp + N < R) (e : Nat.ble (1 + k) N = true) : dp + 1 + k < R := by
  have := Nat.le_of_ble_eq_true e; omega
theorem un_ok {un c k N R : Nat} (h : un + 8 * N + 100 < R) (e : Nat.ble (c + 8 * k) (8 * N) = true) : un + c + 8 * k + 100 < R := by
  have := Nat.le_of_ble_eq_true e; omega
/-- what a call leaves, told to whatever goes on from it -/
def Kof (Post : Value → List (Addr × Obj) → Prop) (K : (Value → List (Addr × Obj) → Prop) → Prop) : Prop := ∀ Z, K Z → ∀ r n', Post r n' → Z r n'
theorem Does.useK {w : World} {f : Addr} {need : Nat} {vs : List Value} {news : List (Addr × Obj)} {Post : Value → List (Addr × Obj) → Prop} {K : (Value → List (Addr × Obj) → Prop) → Prop}
    {dp un : Nat} {gd : Option (List Code)} {cn : Str} {cs : Scope} {a : Addr} {ccd : Value} {cl : List (Str × Addr)} {outer : List Env} {A₀ : Around} {base h₀ : Heap} {L : Addr}
    {mean : ExcName → Option Value} {mg mb m : Str → Option Value} {s : Shared} {Q E : Value → Shared → Prop}
    (B : Below A₀ base outer h₀ := by assumption) (F : Fr h₀ L s.heap m := by assumption) (X : (hd.heap_1 w.params).In h₀ := by assumption) (N : News h₀ L s.heap news := by assumption)
    (T : Top hd.view_1 (looseW hd.view_1 [Str.ofString "VOID", Str.ofString "Store"]) mean mg mb h₀ := by assumption) (hk : cs.kind = .function := by first | rfl | assumption)
    (D : Does w f need vs news Post)
    (hdp : dp + need < recursionLimit := by walk_at "MINE dp") (hun : un + 8 * need + 100 < cLine := by walk_at "MINE dp") (k : Kof Post K)
    (ret : ∀ h' tk', Fr h₀ L h' m → K (fun r n' => News h₀ L h' n' → Q r { s with heap := h', toks := tk' })) :
    wpAny (model PySem.Challenge.rw_rr0022_01.row.prog w) (ktrTop dp un gd cn cs L a ccd cl outer) (PySem.call (.ref f) vs) Q E s :=
  D.run dp un gd cn cs a ccd cl outer A₀ base h₀ L mean mg mb m s Q E B F X N T hk hdp hun fun r n' h' tk' F' N' hP => k _ (ret h' tk' F') r n' hP N'
section
variable {nn : List (Addr × Obj)}
theorem pk_val {v : Value} : Kof (fun r n' => n' = nn ∧ r = v) (fun Z => Z v nn) := by rintro Z h _ _ ⟨rfl, rfl⟩; exact h
theorem pk_val2 {v : Value} : Kof (fun r n' => r = v ∧ n' = nn) (fun Z => Z v nn) := by rintro Z h _ _ ⟨rfl, rfl⟩; exact h
theorem pk_int {i : Int} : Kof (fun r n' => n' = nn ∧ ∃ tk, r = .int i tk) (fun Z => ∀ tk, Z (.int i tk) nn) := by rintro Z h _ _ ⟨rfl, _, rfl⟩; exact h _
theorem pk_int2 {i : Int} : Kof (fun r n' => ∃ tk, r = .int i tk ∧ n' = nn) (fun Z => ∀ tk, Z (.int i tk) nn) := by rintro Z h _ _ ⟨_, rfl, rfl⟩; exact h _
theorem pk_bool {P : Bool → Prop} : Kof (fun r n' => n' = nn ∧ ∃ b, r = .bool b ∧ P b) (fun Z => ∀ b, P b → Z (.bool b) nn) := by rintro Z h _ _ ⟨rfl, _, rfl, h1⟩; exact h _ h1
theorem pk_bool2 {P : Bool → Prop} : Kof (fun r n' => ∃ b, r = .bool b ∧ P b ∧ n' = nn) (fun Z => ∀ b, P b → Z (.bool b) nn) := by rintro Z h _ _ ⟨_, rfl, h1, rfl⟩; exact h _ h1
theorem pk_occ {P P' : Bool → Prop} : Kof (fun r n' => n' = nn ∧ ∃ b, r = .bool b ∧ P b ∧ P' b) (fun Z => ∀ b, P b → P' b → Z (.bool b) nn) := by rintro Z h _ _ ⟨rfl, _, rfl, h1, h2⟩; exact h _ h1 h2
end

/-- where the store's objects lie, and the tokens of its dict's keys -/
structure SA where
  (xS dS aH aK aT : Addr)
  (k0 k1 k2 k3 k4 k5 k6 tm : Tok)
/-- what turns in the store -/
structure SM where
  (vh vk vt : List Value)
  (nd nh nk nt : Nat)
  (hb bb : Int)
  (thb tbb : Tok)
/-- the entries of the store's own dict -/
abbrev sEnts (w : World) (p : SA) (hb : Int) (thb : Tok) (bb : Int) (tbb : Tok) : List DictEntry :=
  [⟨PyData.keyHash w.params (Str.ofString "symbols"), .str (Str.ofString "symbols") p.k0, .none⟩,
   ⟨PyData.keyHash w.params (Str.ofString "max_heap"), .str (Str.ofString "max_heap") p.k1, .int 1000 p.tm⟩,
   ⟨PyData.keyHash w.params (Str.ofString "heap"), .str (Str.ofString "heap") p.k2, .ref p.aH⟩,
   ⟨PyData.keyHash w.params (Str.ofString "stack"), .str (Str.ofString "stack") p.k3, .ref p.aK⟩,
   ⟨PyData.keyHash w.params (Str.ofString "trail"), .str (Str.ofString "trail") p.k4, .ref p.aT⟩,
   ⟨PyData.keyHash w.params (Str.ofString "hb"), .str (Str.ofString "hb") p.k5, .int hb thb⟩,
   ⟨PyData.keyHash w.params (Str.ofString "bb"), .str (Str.ofString "bb") p.k6, .int bb tbb⟩]
/-- the store's five objects, then the rest -/
abbrev led (w : World) (p : SA) (q : SM) (rest : List (Addr × Obj)) : List (Addr × Obj) :=
  (p.xS, instObj 276 p.dS) :: (p.dS, dictOf (sEnts w p q.hb q.thb q.bb q.tbb) q.nd) :: (p.aH, listOf q.vh.toArray q.nh) :: (p.aK, listOf q.vk.toArray q.nk) :: (p.aT, listOf q.vt.toArray q.nt) :: rest

/-- the one ledger holds the other -/
def Sub (a b : List (Addr × Obj)) : Prop := ∀ e ∈ a, e ∈ b
theorem Sub.mem {a b : List (Addr × Obj)} (h : Sub a b) {e : Addr × Obj} (k : e ∈ a) : e ∈ b := h e k
theorem subc {α : Type} {a : α} {l b : List α} (h : a ∈ b) (t : ∀ e ∈ l, e ∈ b) : ∀ e ∈ a :: l, e ∈ b := fun _ he => by
  cases he with
  | head => exact h
  | tail _ he => exact t _ he
theorem News.perm {h₀ h : Heap} {L : Addr} {A B : List (Addr × Obj)} (N : News h₀ L h B) (hs : ∀ e ∈ A, e ∈ B) : News h₀ L h A := fun e he => N e (hs e he)
theorem Sub.refl (a : List (Addr × Obj)) : Sub a a := fun _ h => h
theorem memOf {a b : List (Addr × Obj)} {e : Addr × Obj} (h : ∀ e ∈ a, e ∈ b) (k : e ∈ a) : e ∈ b := h e k
/-- a tuple of the program's: a tag and a number -/
abbrev tupO (t : Int) (tt : Tok) (n : Int) (tn : Tok) : Obj := { cls := .type "tuple", data := .seq #[.int t tt, .int n tn] }
/-- the value is a tuple of the ledger that stands for the cell -/
inductive IsCell (news : List (Addr × Obj)) : Value → Cell → Prop where
  | ref {a : Addr} {n : Nat} {t u : Tok} : (a, tupO 0 t (n : Int) u) ∈ news → IsCell news (.ref a) (.ref n)
  | srf {a : Addr} {n : Nat} {t u : Tok} : (a, tupO 1 t (n : Int) u) ∈ news → IsCell news (.ref a) (.srf n)
  | lis {a : Addr} {n : Nat} {t u : Tok} : (a, tupO 3 t (n : Int) u) ∈ news → IsCell news (.ref a) (.lis n)
  | int {a : Addr} {n : Nat} {t u : Tok} : (a, tupO 5 t (n : Int) u) ∈ news → IsCell news (.ref a) (.int n)
theorem IsCell.mono {news news' : List (Addr × Obj)} (h : ∀ p ∈ news, p ∈ news') {v : Value} {c : Cell} (k : IsCell news v c) : IsCell news' v c := by
  cases k with
  | ref m => exact .ref (h _ m)
  | srf m => exact .srf (h _ m)
  | lis m => exact .lis (h _ m)
  | int m => exact .int (h _ m)
theorem IsCell.out {news : List (Addr × Obj)} {v : Value} {c : Cell} (k : IsCell news v c) : ∃ a t u, v = .ref a ∧ (a, tupO c.tag t (c.num : Int) u) ∈ news := by
  cases k with
  | ref m => exact ⟨_, _, _, rfl, m⟩
  | srf m => exact ⟨_, _, _, rfl, m⟩
  | lis m => exact ⟨_, _, _, rfl, m⟩
  | int m => exact ⟨_, _, _, rfl, m⟩
theorem pk_cell {nn tups : List (Addr × Obj)} {P P' : Cell → Prop} : Kof (fun r n' => n' = nn ∧ ∃ d, IsCell tups r d ∧ P d ∧ P' d)
    (fun Z => ∀ d, P d → P' d → ∀ b t u, (b, tupO d.tag t (d.num : Int) u) ∈ tups → IsCell tups (.ref b) d → Z (.ref b) nn) := by
  rintro Z h _ _ ⟨rfl, d, h1, h2, h3⟩
  obtain ⟨b, t, u, rfl, hm⟩ := h1.out
  exact h d h2 h3 b t u hm h1
theorem IsCell.lift {news news' : List (Addr × Obj)} {v : Value} {c : Cell} (k : IsCell news v c := by assumption) (h : ∀ p ∈ news, p ∈ news' := by walk_at "MINE sub") : IsCell news' v c := k.mono h
def AreCells (news : List (Addr × Obj)) (vs : List Value) (cs : List Cell) : Prop :=
  vs.length = cs.length ∧ ∀ (i : Nat) (c : Cell), cs[i]? = some c → ∃ v, vs[i]? = some v ∧ IsCell news v c
theorem AreCells.mono {news news' : List (Addr × Obj)} (h : ∀ p ∈ news, p ∈ news') {vs : List Value} {cs : List Cell} (k : AreCells news vs cs) : AreCells news' vs cs :=
  ⟨k.1, fun i c hc => let ⟨v, a, b⟩ := k.2 i c hc; ⟨v, a, b.mono h⟩⟩

/-- the store's two lists hold these cells -/
structure Rep (news : List (Addr × Obj)) (q : SM) (S : Sto) (tr : List Int) : Prop where
  h : AreCells news q.vh S.H
  k : AreCells news q.vk S.K
  t : IntsAre q.vt tr
theorem Rep.mono {news news' : List (Addr × Obj)} (h : ∀ p ∈ news, p ∈ news') {q : SM} {S : Sto} {tr : List Int} (r : Rep news q S tr) : Rep news' q S tr := ⟨r.h.mono h, r.k.mono h, r.t⟩
theorem AreCells.set {news : List (Addr × Obj)} {vs : List Value} {cs : List Cell} (k : AreCells news vs cs) {v : Value} {c : Cell} (h : IsCell news v c) (j : Nat) : AreCells news (vs.set j v) (cs.set j c) := by
  refine ⟨by simp [k.1], fun i d hi => ?_⟩
  rw [List.getElem?_set] at hi
  by_cases hj : j = i
  · subst hj
    by_cases hl : j < cs.length
    · simp only [if_true, hl] at hi
      obtain rfl := Option.some.inj hi
      exact ⟨v, by rw [List.getElem?_set]; simp [k.1, hl], h⟩
    · simp [hl] at hi
  · rw [if_neg hj] at hi
    obtain ⟨u, hu, hi'⟩ := k.2 i d hi
    exact ⟨u, by rw [List.getElem?_set, if_neg hj]; exact hu, hi'⟩
theorem AreCells.push {news : List (Addr × Obj)} {vs : List Value} {cs : List Cell} (k : AreCells news vs cs) {v : Value} {c : Cell} (h : IsCell news v c) : AreCells news (vs ++ [v]) (cs ++ [c]) := by
  refine ⟨by simp [k.1], fun i d hi => ?_⟩
  by_cases hl : i < cs.length
  · rw [List.getElem?_append_left hl] at hi
    obtain ⟨u, hu, hi'⟩ := k.2 i d hi
    exact ⟨u, by rw [List.getElem?_append_left (by rw [k.1]; exact hl)]; exact hu, hi'⟩
  · have hi0 : i = cs.length := by
      rw [List.getElem?_append_right (by omega)] at hi
      have := (List.getElem?_eq_some_iff.mp hi).1
      simp at this; omega
    subst hi0
    simp at hi
    subst hi
    exact ⟨v, by rw [← k.1]; simp, h⟩
theorem ints_push {vs : List Value} {ns : List Int} (h : IntsAre vs ns) (i : Int) (t : Tok) : IntsAre (vs ++ [.int i t]) (ns ++ [i]) := by
  induction h with
  | nil => exact .cons i t .nil
  | cons a b _ ih => exact .cons a b ih

section
variable {prog : Program} {w : World} {A : Around} {E : Value → Shared → Prop} {s : Shared} {h₀ : Heap} {L : Addr} {news : List (Addr × Obj)} {Q : Value → Shared → Prop}
theorem cell_reads {v : Value} {c : Cell} (N : News h₀ L s.heap news) (h : IsCell news v c) : ∃ as, Reads s.heap v (.tuple [.int c.tag, .int (c.num : Int)]) as := by
  obtain ⟨a, t, u, rfl, hm⟩ := h.out
  exact ⟨_, reads_tuple_at (N.get hm) rfl rfl (.cons (.int _ _) (.cons (.int _ _) .nil))⟩
theorem cell_eqv (c d : Cell) : PyData.eqv (.tuple [.int c.tag, .int (c.num : Int)]) (.tuple [.int d.tag, .int (d.num : Int)]) = decide (c = d) := by
  simp only [PyData.eqv, PyData.eqvAll, Bool.and_true]
  by_cases h : c = d
  · subst h; simp
  · rw [decide_eq_false h]
    by_cases ht : c.tag = d.tag
    · have hn : c.num ≠ d.num := fun e => h (Cell.ext ht e)
      simp [ht]; omega
    · simp [ht]
theorem cell_eq {a b : Addr} {c d : Cell} {n₁ n₂ : List (Addr × Obj)} (N : News h₀ L s.heap news := by assumption) (hc : IsCell n₁ (.ref a) c := by assumption) (hd : IsCell n₂ (.ref b) d := by assumption) (h1 : ∀ p ∈ n₁, p ∈ news := by walk_at "MINE sub") (h2 : ∀ p ∈ n₂, p ∈ news := by walk_at "MINE sub")
    (hu : A.units + 64 < cLine := by walk_at "MINE un") (h : Q (.bool (decide (c = d))) s) : wpAny (model prog w) A (compareOp .Eq (.ref a) (.ref b)) Q E s := by
  obtain ⟨as, ra⟩ := cell_reads N (hc.mono h1)
  obtain ⟨bs, rb⟩ := cell_reads N (hd.mono h2)
  exact eq_dataH ra rb rfl rfl hu (by rw [cell_eqv]; exact h)
theorem cell_ne {a b : Addr} {c d : Cell} {n₁ n₂ : List (Addr × Obj)} (N : News h₀ L s.heap news := by assumption) (hc : IsCell n₁ (.ref a) c := by assumption) (hd : IsCell n₂ (.ref b) d := by assumption) (h1 : ∀ p ∈ n₁, p ∈ news := by walk_at "MINE sub") (h2 : ∀ p ∈ n₂, p ∈ news := by walk_at "MINE sub")
    (hu : A.units + 64 < cLine := by walk_at "MINE un") (h : Q (.bool (!decide (c = d))) s) : wpAny (model prog w) A (compareOp .NotEq (.ref a) (.ref b)) Q E s := by
  obtain ⟨as, ra⟩ := cell_reads N (hc.mono h1)
  obtain ⟨bs, rb⟩ := cell_reads N (hd.mono h2)
  exact ne_dataH ra rb rfl rfl hu (by rw [cell_eqv]; exact h)
/-- a cell's tag and its number -/
theorem cell_at0 {value slice : PySem.Expr} {a : Addr} {t n : Int} {tt tn u : Tok} {n₁ : List (Addr × Obj)} (N : News h₀ L s.heap news := by assumption) (hm : (a, tupO t tt n tn) ∈ n₁ := by assumption) (h1 : ∀ p ∈ n₁, p ∈ news := by walk_at "MINE sub") (h : Q (.int t tt) s)
    (hs : subscripted slice false (.ref a) (.int 0 u) = operate [.ref a, .int 0 u] (getItem (.ref a) (.int 0 u)) := by with_unfolding_all rfl) :
    wpAny (model prog w) A (subscriptTail value slice (.ref a) (.int 0 u)) Q E s :=
  item_tupleT (l := [.int t tt, .int n tn]) ⟨_, N.get (h1 _ hm), rfl, _, rfl⟩ (by decide) (by decide) (j := 0) rfl rfl h hs
theorem cell_at1 {value slice : PySem.Expr} {a : Addr} {t n : Int} {tt tn u : Tok} {n₁ : List (Addr × Obj)} (N : News h₀ L s.heap news := by assumption) (hm : (a, tupO t tt n tn) ∈ n₁ := by assumption) (h1 : ∀ p ∈ n₁, p ∈ news := by walk_at "MINE sub") (h : Q (.int n tn) s)
    (hs : subscripted slice false (.ref a) (.int 1 u) = operate [.ref a, .int 1 u] (getItem (.ref a) (.int 1 u)) := by with_unfolding_all rfl) :
    wpAny (model prog w) A (subscriptTail value slice (.ref a) (.int 1 u)) Q E s :=
  item_tupleT (l := [.int t tt, .int n tn]) ⟨_, N.get (h1 _ hm), rfl, _, rfl⟩ (by decide) (by decide) (j := 1) rfl rfl h hs
/-- the cell at a place that an int names -/
def At (cs : List Cell) (k : Int) (c : Cell) : Prop := ∃ j : Nat, k = (j : Int) ∧ cs[j]? = some c ∧ j < 1000000
theorem At.of {cs : List Cell} {j : Nat} {c : Cell} (h : cs[j]? = some c) (hl : cs.length < 1000000) {k : Int} (hk : k = (j : Int)) : At cs k c :=
  ⟨j, hk, h, by have := (List.getElem?_eq_some_iff.mp h).1; omega⟩
/-- an item of a list of cells at a place that is known to lie in it -/
theorem cells_item {value slice : PySem.Expr} {l : Addr} {vs : List Value} {cs : List Cell} {c : Cell} {n₁ : List (Addr × Obj)} {nn : Nat} {k : Int} {u : Tok}
    (N : News h₀ L s.heap news := by assumption) (hl : (l, listOf vs.toArray nn) ∈ news := by k_mem) (hcs : AreCells n₁ vs cs := by assumption) (hc : At cs k c := by assumption)
    (h : ∀ b, IsCell n₁ (.ref b) c → Q (.ref b) s)
    (hs : subscripted slice false (.ref l) (.int k u) = operate [.ref l, .int k u] (getItem (.ref l) (.int k u)) := by with_unfolding_all rfl) :
    wpAny (model prog w) A (subscriptTail value slice (.ref l) (.int k u)) Q E s := by
  obtain ⟨j, hkj, hc, hj⟩ := hc
  obtain ⟨v, hv, hi⟩ := hcs.2 j c hc
  have hL : s.heap.IsList l vs.toArray := ⟨_, N.get hl, rfl, _, rfl⟩
  obtain ⟨b, _, _, rfl, _⟩ := id hi.out
  subst hkj
  exact tail_any hL.typeIs slot_list_getitem.lookup (wpAny_getItem_list hL (by omega) (by omega) (by simpa using hv) (h b hi)) hs
/-- a local that is known stands in the frame's own map -/
theorem fr_put {h₀ h : Heap} {L : Addr} {m : Str → Option Value} {x : Str} {v : Value} (F : Fr h₀ L h m) (e : m x = some v) : Fr h₀ L h (fun y => if y = x then some v else m y) := by
  have : (fun y => if y = x then some v else m y) = m := by
    funext y
    by_cases hy : y = x
    · subst hy; simp [e]
    · simp [hy]
  rw [this]; exact F
theorem fr_put2 {h₀ h : Heap} {L : Addr} {m : Str → Option Value} {x y : Str} {v u : Value} (F : Fr h₀ L h m) (e : m x = some v) (e2 : m y = some u) :
    Fr h₀ L h (fun z => if z = x then some v else if z = y then some u else m z) := by
  have : (fun z => if z = x then some v else if z = y then some u else m z) = m := by
    funext z
    by_cases hz : z = x
    · subst hz; simp [e]
    · by_cases hw : z = y
      · subst hw; simp [e2, hz]
      · simp [hz, hw]
  rw [this]; exact F
theorem fr_putL {h₀ h : Heap} {L : Addr} {m : Str → Option Value} {ps : List (Str × Value)} (F : Fr h₀ L h m) (e : ∀ q ∈ ps, m q.1 = some q.2) : Fr h₀ L h (kstB m ps) := by
  have : kstB m ps = m := funext fun z => kstB_eq e fun _ => rfl
  rw [this]; exact F
theorem fr_put4 {h₀ h : Heap} {L : Addr} {m : Str → Option Value} {x1 x2 x3 x4 : Str} {v1 v2 v3 v4 : Value} (F : Fr h₀ L h m) (e1 : m x1 = some v1) (e2 : m x2 = some v2) (e3 : m x3 = some v3) (e4 : m x4 = some v4) :
    Fr h₀ L h (fun z => if z = x1 then some v1 else if z = x2 then some v2 else if z = x3 then some v3 else if z = x4 then some v4 else m z) :=
  fr_putL (ps := [(x1, v1), (x2, v2), (x3, v3), (x4, v4)]) F (by simp [e1, e2, e3, e4])
theorem fr_put5 {h₀ h : Heap} {L : Addr} {m : Str → Option Value} {x1 x2 x3 x4 x5 : Str} {v1 v2 v3 v4 v5 : Value} (F : Fr h₀ L h m) (e1 : m x1 = some v1) (e2 : m x2 = some v2) (e3 : m x3 = some v3) (e4 : m x4 = some v4) (e5 : m x5 = some v5) :
    Fr h₀ L h (fun z => if z = x1 then some v1 else if z = x2 then some v2 else if z = x3 then some v3 else if z = x4 then some v4 else if z = x5 then some v5 else m z) :=
  fr_putL (ps := [(x1, v1), (x2, v2), (x3, v3), (x4, v4), (x5, v5)]) F (by simp [e1, e2, e3, e4, e5])
theorem fr_put6 {h₀ h : Heap} {L : Addr} {m : Str → Option Value} {x1 x2 x3 x4 x5 x6 : Str} {v1 v2 v3 v4 v5 v6 : Value} (F : Fr h₀ L h m) (e1 : m x1 = some v1) (e2 : m x2 = some v2) (e3 : m x3 = some v3) (e4 : m x4 = some v4) (e5 : m x5 = some v5) (e6 : m x6 = some v6) :
    Fr h₀ L h (fun z => if z = x1 then some v1 else if z = x2 then some v2 else if z = x3 then some v3 else if z = x4 then some v4 else if z = x5 then some v5 else if z = x6 then some v6 else m z) :=
  fr_putL (ps := [(x1, v1), (x2, v2), (x3, v3), (x4, v4), (x5, v5), (x6, v6)]) F (by simp [e1, e2, e3, e4, e5, e6])
theorem fr_put3 {h₀ h : Heap} {L : Addr} {m : Str → Option Value} {x y x' : Str} {v u v' : Value} (F : Fr h₀ L h m) (e : m x = some v) (e2 : m y = some u) (e3 : m x' = some v') :
    Fr h₀ L h (fun z => if z = x then some v else if z = y then some u else if z = x' then some v' else m z) := by
  have : (fun z => if z = x then some v else if z = y then some u else if z = x' then some v' else m z) = m := by
    funext z
    by_cases hz : z = x
    · subst hz; simp [e]
    · by_cases hw : z = y
      · subst hw; simp [e2, hz]
      · by_cases hw' : z = x'
        · subst hw'; simp [e3, hz, hw]
        · simp [hz, hw, hw']
  rw [this]; exact F
end

section
variable {prog : Program} {w : World} {A : Around} {E : Value → Shared → Prop} {s : Shared} {h₀ : Heap} {L D : Addr} {m : Str → Option Value} {news news' : List (Addr × Obj)} {n : Nat}
/-- a list of the ledger is stored into at a known place -/
theorem setat_L {vs : List Value} {k : Int} {j : Nat} {t : Tok} {x : Value} {Q : Unit → Shared → Prop} (F : Fr h₀ L s.heap m := by assumption) (N : News h₀ L s.heap news := by assumption) (U : Upd D (listOf vs.toArray n) (listOf (vs.set j x).toArray n) news news' := by k_upd)
    (hkj : k = (j : Int) := by first | rfl | assumption) (h1 : j < vs.length := by omega) (hfit : j < 1000000 := by omega) (h : ∀ h', Fr h₀ L h' m → News h₀ L h' news' → Q () { s with heap := h' }) :
    wpAny (model prog w) A (setItem (.ref D) (.int k t) x) Q E s := by
  obtain ⟨pre, post, rfl, rfl, a, b⟩ := U.split
  have z := N (D, listOf vs.toArray n) (List.mem_append.mpr (.inr (.head _)))
  subst hkj
  refine ki_setAt z.1 (by omega) (by omega) (by rw [List.size_toArray]; omega) (h _ (F.change (Heap.SameBut.update ..) z.2.1 z.2.2) (ki_turn _ N a b ?_ ?_))
  · show vs.toArray.setIfInBounds (j : Int).toNat x = (vs.set j x).toArray
    apply Array.toList_inj.mp
    simp
  · simp
theorem append_L {vs : List Value} {x : Value} {Q : Value → Shared → Prop} (F : Fr h₀ L s.heap m := by assumption) (N : News h₀ L s.heap news := by assumption) (U : Upd D (listOf vs.toArray n) (listOf (vs ++ [x]).toArray (n + 1)) news news' := by k_upd)
    (hsz : vs.length < 1000000 := by walk_at "MINE len") (h : ∀ h', Fr h₀ L h' m → News h₀ L h' news' → Q .none { s with heap := h' }) : wpAny (model prog w) A (call (.builtin "list.append") [.ref D, x]) Q E s := by
  have e : (vs ++ [x]).toArray = vs.toArray.push x := by simp
  rw [e] at U
  exact append_K (hsz := by rw [PySem.sizeLine_eq, List.size_toArray]; omega) F N U h
theorem pop_L {vs ws : List Value} {y : Value} {Q : Value → Shared → Prop} (F : Fr h₀ L s.heap m := by assumption) (N : News h₀ L s.heap news := by assumption) (e : vs = ws ++ [y] := by rfl) (U : Upd D (listOf vs.toArray n) (listOf ws.toArray (n + 1)) news news' := by k_upd)
    (hz : vs.length < 1000000 := by walk_at "MINE len") (h : ∀ h', Fr h₀ L h' m → News h₀ L h' news' → Q y { s with heap := h' }) : wpAny (model prog w) A (call (.builtin "list.pop") [.ref D]) Q E s := by
  subst e
  exact kl_pop F N (by simpa using kpa_last y ws) U (by rw [PySem.sizeLine_eq, List.toList_toArray]; omega) h
end
theorem News.swap {h₀ h : Heap} {L : Addr} {a b : Addr × Obj} {r : List (Addr × Obj)} (N : News h₀ L h (a :: b :: r)) : News h₀ L h (b :: a :: r) := fun p hp => N p (by
  rcases List.mem_cons.mp hp with rfl | hp
  · exact .tail _ (.head _)
  · rcases List.mem_cons.mp hp with rfl | hp
    · exact .head _
    · exact .tail _ (.tail _ hp))
theorem lt0 {d : Addr} {l : List (Addr × Obj)} (h : AllLt d l) : ∀ e ∈ l, @LT.lt Nat _ e.1 d := ktn_ltOf h
theorem lt1 {a d : Addr} {l : List (Addr × Obj)} (h : @LT.lt Nat _ a d ∧ AllLt d l) : ∀ e ∈ l, @LT.lt Nat _ e.1 d := ktn_ltOf h.2
theorem lt2 {a b d : Addr} {l : List (Addr × Obj)} (h : @LT.lt Nat _ a d ∧ @LT.lt Nat _ b d ∧ AllLt d l) : ∀ e ∈ l, @LT.lt Nat _ e.1 d := ktn_ltOf h.2.2
theorem lt3 {a b c d : Addr} {l : List (Addr × Obj)} (h : @LT.lt Nat _ a d ∧ @LT.lt Nat _ b d ∧ @LT.lt Nat _ c d ∧ AllLt d l) : ∀ e ∈ l, @LT.lt Nat _ e.1 d := ktn_ltOf h.2.2.2
theorem News.front1 {h₀ h : Heap} {L : Addr} {w : World} {p : SA} {q : SM} {a : Addr × Obj} {r : List (Addr × Obj)} (N : News h₀ L h (a :: led w p q r)) : News h₀ L h (led w p q (a :: r)) := fun e he => N e (by
  simp only [List.mem_cons] at he ⊢
  rcases he with h | h | h | h | h | h | h <;> simp only [h, true_or, or_true])
theorem News.front2 {h₀ h : Heap} {L : Addr} {w : World} {p : SA} {q : SM} {a b : Addr × Obj} {r : List (Addr × Obj)} (N : News h₀ L h (a :: b :: led w p q r)) : News h₀ L h (led w p q (a :: b :: r)) := fun e he => N e (by
  simp only [List.mem_cons] at he ⊢
  rcases he with h | h | h | h | h | h | h | h <;> simp only [h, true_or, or_true])
theorem IsCell.lisOf {news : List (Addr × Obj)} {v : Value} {c : Cell} (k : IsCell news v c) (h : c.isLis = true) : IsCell news v (.lis c.num) := by
  cases k <;> first | exact .lis (by assumption) | cases h
theorem lis_of {c : Cell} (h : c.isLis = true) : c = .lis c.num := by cases c <;> first | rfl | cases h
theorem AreCells.last {news : List (Addr × Obj)} {vs : List Value} {cs : List Cell} {c : Cell} (k : AreCells news vs (cs ++ [c])) : ∃ us v, vs = us ++ [v] ∧ AreCells news us cs ∧ IsCell news v c := by
  obtain ⟨v, hv, hi⟩ := k.2 cs.length c (by simp)
  have hl : vs.length = cs.length + 1 := by rw [k.1]; simp
  have hne : vs ≠ [] := fun e => by rw [e] at hl; cases hl
  have he := (List.dropLast_concat_getLast hne).symm
  refine ⟨vs.dropLast, vs.getLast hne, he, ⟨by simp [hl], fun i d hd => ?_⟩, ?_⟩
  · have hi' : i < cs.length := (List.getElem?_eq_some_iff.mp hd).1
    obtain ⟨u, hu, hu'⟩ := k.2 i d (by rw [List.getElem?_append_left hi']; exact hd)
    refine ⟨u, ?_, hu'⟩
    rw [he, List.getElem?_append_left (by simp [hl]; exact hi')] at hu
    exact hu
  · have : vs.getLast hne = v := by
      rw [List.getLast_eq_getElem]
      have h2 : vs.length - 1 = cs.length := by omega
      have h3 := (List.getElem?_eq_some_iff.mp hv).2
      simp only [h2]; exact h3
    rw [this]; exact hi
/-- the addresses of the store's objects rise, and the rest lies apart from them -/
structure Apart (p : SA) (rest : List (Addr × Obj)) (more : List Addr := []) : Prop where
  o1 : @LT.lt Nat _ p.dS p.xS
  o2 : @LT.lt Nat _ p.xS p.aH
  o3 : @LT.lt Nat _ p.aH p.aK
  o4 : @LT.lt Nat _ p.aK p.aT
  off : OwnOff rest (p.xS :: p.dS :: p.aH :: p.aK :: p.aT :: more)
theorem Apart.less {p : SA} {rest rest' : List (Addr × Obj)} {more more' : List Addr} (P : Apart p rest more) (h : ∀ e ∈ rest', e ∈ rest) (k : ∀ b ∈ more', b ∈ more) : Apart p rest' more' :=
  ⟨P.o1, P.o2, P.o3, P.o4, fun e he b hb => P.off e (h e he) b (by
    simp only [List.mem_cons] at hb ⊢
    rcases hb with h | h | h | h | h | h
    · exact .inl h
    · exact .inr (.inl h)
    · exact .inr (.inr (.inl h))
    · exact .inr (.inr (.inr (.inl h)))
    · exact .inr (.inr (.inr (.inr (.inl h))))
    · exact .inr (.inr (.inr (.inr (.inr (k _ h))))))⟩
theorem Apart.cons {p : SA} {rest : List (Addr × Obj)} {more : List Addr} (P : Apart p rest more) {a : Addr} {o : Obj} (h : @LT.lt Nat _ p.aT a) (k : ∀ b ∈ more, a ≠ b) : Apart p ((a, o) :: rest) more := by
  have o1 := P.o1
  have o2 := P.o2
  have o3 := P.o3
  have o4 := P.o4
  refine ⟨o1, o2, o3, o4, fun e he b hb => ?_⟩
  rcases List.mem_cons.mp he with rfl | he
  · simp only [List.mem_cons] at hb
    rcases hb with h' | h' | h' | h' | h' | h'
    · exact neN (by subst h'; dsimp only; omega)
    · exact neN (by subst h'; dsimp only; omega)
    · exact neN (by subst h'; dsimp only; omega)
    · exact neN (by subst h'; dsimp only; omega)
    · exact neN (by subst h'; dsimp only; omega)
    · exact k b h'
  · exact P.off e he b hb

theorem Apart.add {p : SA} {rest : List (Addr × Obj)} {more : List Addr} (P : Apart p rest more) {b : Addr} (h : ∀ e ∈ rest, @LT.lt Nat _ e.1 b) : Apart p rest (b :: more) :=
  ⟨P.o1, P.o2, P.o3, P.o4, fun e he c hc => by
    simp only [List.mem_cons] at hc
    by_cases hb : c = b
    · rw [hb]; exact Nat.ne_of_lt (h e he)
    · refine P.off e he c ?_
      simp only [List.mem_cons]
      rcases hc with h' | h' | h' | h' | h' | h' | h'
      · exact .inl h'
      · exact .inr (.inl h')
      · exact .inr (.inr (.inl h'))
      · exact .inr (.inr (.inr (.inl h')))
      · exact .inr (.inr (.inr (.inr (.inl h'))))
      · exact absurd h' hb
      · exact .inr (.inr (.inr (.inr (.inr h'))))⟩
theorem News.less1 {h₀ h : Heap} {L : Addr} {w : World} {p : SA} {q : SM} {a : Addr × Obj} {r : List (Addr × Obj)} (N : News h₀ L h (led w p q (a :: r))) : News h₀ L h (led w p q r) := fun e he => N e (by
  simp only [List.mem_cons] at he ⊢
  rcases he with h | h | h | h | h | h <;> simp only [h, true_or, or_true])
theorem News.less2 {h₀ h : Heap} {L : Addr} {w : World} {p : SA} {q : SM} {a b : Addr × Obj} {r : List (Addr × Obj)} (N : News h₀ L h (led w p q (a :: b :: r))) : News h₀ L h (led w p q r) := News.less1 (News.less1 N)
/-- the end of a turn of a while -/
def WEnd (h₀ : Heap) (L : Addr) (s : Shared) (J : Nat → (Str → Option Value) → List (Addr × Obj) → Prop) (n : Nat) (s₃ : Shared) : Prop :=
  ∃ h' tk m₂ news₂ n', s₃ = { s with heap := h', toks := tk } ∧ Fr h₀ L h' m₂ ∧ News h₀ L h' news₂ ∧ n' < n ∧ J n' m₂ news₂
def WPost (h₀ : Heap) (L : Addr) (s : Shared) (J : Nat → (Str → Option Value) → List (Addr × Obj) → Prop) (Q : Flow → Shared → Prop) (n : Nat) (f : Flow) (s₃ : Shared) : Prop :=
  match f with
  | .ret v => Q (.ret v) s₃
  | .brk => Q .next s₃
  | .next => WEnd h₀ L s J n s₃
  | .cont => WEnd h₀ L s J n s₃
theorem WEnd.intro {h₀ : Heap} {L : Addr} {s : Shared} {J : Nat → (Str → Option Value) → List (Addr × Obj) → Prop} {n n' : Nat} {h' : Heap} {tk : Nat} {m₂ : Str → Option Value} {news₂ : List (Addr × Obj)}
    (F : Fr h₀ L h' m₂) (N : News h₀ L h' news₂) (hn : n' < n) (hJ : J n' m₂ news₂) : WEnd h₀ L s J n { s with heap := h', toks := tk } := ⟨h', tk, m₂, news₂, n', rfl, F, N, hn, hJ⟩
section
variable {prog : Program} {w : World} {A : Around} {E : Value → Shared → Prop} {Q : Flow → Shared → Prop} {s : Shared} {env : Env} {h₀ : Heap} {L : Addr}
theorem while_do {test : PySem.Expr} {body : List Stmt} {pos : Pos} {m : Str → Option Value} {news : List (Addr × Obj)} (J : Nat → (Str → Option Value) → List (Addr × Obj) → Prop) {n₀ : Nat}
    (F : Fr h₀ L s.heap m) (N : News h₀ L s.heap news) (hJ : J n₀ m news)
    (turn : ∀ n m₁ news₁ h₁ tk₁, Fr h₀ L h₁ m₁ → News h₀ L h₁ news₁ → J n m₁ news₁ →
      wpAny (model prog w) A (isTrue test env (eval test env)) (fun b s₂ =>
        if b = true then wpAny (model prog w) A (execs body env) (WPost h₀ L s J Q n) E s₂ else Q .next s₂) E { s with heap := h₁, toks := tk₁ })
    (hE : PassesOwn (model prog w) A env E := by passes_own) :
    wpAny (model prog w) A (exec (.While test body [] pos) env) Q E s := by
  refine While_inv2 J F N hJ (fun n m₁ news₁ h₁ tk₁ F₁ N₁ J₁ => ?_) hE
  refine wpAny_mono (turn n m₁ news₁ h₁ tk₁ F₁ N₁ J₁) (fun b s₂ p => ?_) fun _ _ x => x
  cases b with
  | false => simpa using p
  | true =>
    simp only [if_true] at p ⊢
    refine wpAny_mono p (fun f s₃ q => ?_) fun _ _ x => x
    cases f <;> exact q
end
/-- the trail's entry of a variable, and the variable of an entry -/
def entOf : Cell → Int
  | .ref n => (n : Int)
  | .srf n => -1 - (n : Int)
  | _ => 0
def varOf (e : Int) : Cell := if 0 ≤ e then .ref e.toNat else .srf (-1 - e).toNat
theorem varOf_entOf {x : Cell} (h : x.isVar = true) : varOf (entOf x) = x := by
  cases x with
  | ref n => simp [varOf, entOf]
  | srf n =>
    have h1 : ¬ (0 ≤ -1 - (n : Int)) := by omega
    have h2 : (-1 - (-1 - (n : Int))).toNat = n := by omega
    show (if 0 ≤ -1 - (n : Int) then Cell.ref (-1 - (n : Int)).toNat else Cell.srf (-1 - (-1 - (n : Int))).toNat) = _
    rw [if_neg h1, h2]
  | lis n => cases h
  | int n => cases h
/-- what the trail's entries undo, the last one first -/
def undo (S : Sto) (log : List Int) : Sto := log.foldr (fun e S => S.set (varOf e) (varOf e)) S
theorem undo_append (S : Sto) (a b : List Int) : undo S (a ++ b) = undo (undo S b) a := by simp [undo]
theorem list_set_same {l : List Cell} {n : Nat} {c d : Cell} (h : l[n]? = some d) : (l.set n c).set n d = l := by
  apply List.ext_getElem?
  intro i
  rw [List.set_set, List.getElem?_set]
  by_cases hi : n = i
  · subst hi
    obtain ⟨hl, he⟩ := List.getElem?_eq_some_iff.mp h
    simp [hl, he]
  · simp [hi]
theorem set_set {S : Sto} {x c : Cell} (h : S.get x = some x) : (S.set x c).set x x = S := by
  cases x with
  | ref n =>
    show (⟨(S.H.set n c).set n (.ref n), S.K⟩ : Sto) = S
    rw [list_set_same h]
  | srf n =>
    show (⟨S.H, (S.K.set n c).set n (.srf n)⟩ : Sto) = S
    rw [list_set_same h]
  | lis n => cases h
  | int n => cases h
def Sto.free (S : Sto) : Nat := S.names.countP fun x => decide (S.get x = some x)
theorem free_le (S : Sto) : S.free ≤ S.room := by rw [← names_length]; exact List.countP_le_length
theorem free_set {S : Sto} {x c : Cell} (h : S.get x = some x) (hc : c ≠ x) : (S.set x c).free < S.free := by
  have e : (S.set x c).names = S.names := by
    unfold Sto.names
    rw [(ext_set (c := c) h).hl, (ext_set (c := c) h).kl]
  unfold Sto.free
  rw [e]
  refine countP_lt (a := x) ?_ ?_ ?_ ?_
  · intro y hy
    simp only [decide_eq_true_eq] at hy ⊢
    by_cases hyx : y = x
    · subst hyx; exact h
    · rw [get_set_ne hyx] at hy; exact hy
  · exact mem_names.mpr (by rw [h]; rfl)
  · simpa using h
  · rw [get_set_self h]; simpa using hc
/-- bindings are made: the trail's end undoes them where both bounds lie over the tables -/
structure Moved (q q' : SM) (S S' : Sto) (tr tr' : List Int) : Prop where
  hb : q'.hb = q.hb
  bb : q'.bb = q.bb
  ext : Ext S S'
  room : tr'.length + S'.free ≤ tr.length + S.free
  log : (S.H.length : Int) ≤ q.hb → (S.K.length : Int) ≤ q.bb → ∃ log, tr' = tr ++ log ∧ undo S' log = S ∧ ∀ e ∈ log, (S.get (varOf e)).isSome = true
theorem Moved.refl (q : SM) (S : Sto) (tr : List Int) : Moved q q S S tr tr := ⟨rfl, rfl, .refl S, Nat.le_refl _, fun _ _ => ⟨[], by simp, rfl, fun _ h => nomatch h⟩⟩
theorem Moved.trans {q q' q'' : SM} {S S' S'' : Sto} {tr tr' tr'' : List Int} (a : Moved q q' S S' tr tr') (b : Moved q' q'' S' S'' tr' tr'') : Moved q q'' S S'' tr tr'' := by
  refine ⟨b.hb.trans a.hb, b.bb.trans a.bb, a.ext.trans b.ext, Nat.le_trans b.room a.room, fun h1 h2 => ?_⟩
  obtain ⟨l1, rfl, e1, m1⟩ := a.log h1 h2
  obtain ⟨l2, rfl, e2, m2⟩ := b.log (by rw [a.ext.hl, a.hb]; exact h1) (by rw [a.ext.kl, a.bb]; exact h2)
  refine ⟨l1 ++ l2, by simp, by rw [undo_append, e2, e1], fun e he => ?_⟩
  rcases List.mem_append.mp he with he | he
  · exact m1 e he
  · rw [← a.ext.isSome]; exact m2 e he
end Mine
namespace Mine
theorem fill_all : PySem.Challenge.rw_rr0022_01.foot = 5 ∧ hd.heap_1 = hd.heap_1 := by k_fill; exact ⟨rfl, rfl⟩
local macro_rules | `(tactic| walk_at "WPost") => `(tactic| dsimp only [WPost])
local macro_rules | `(tactic| k_ne) => `(tactic| (refine neN ?_; (try dsimp only); first | (refine Nat.ne_of_lt ?_; (repeat (first | assumption | refine Nat.lt_trans (by assumption) ?_)); done) | (refine Nat.ne_of_gt ?_; (repeat (first | assumption | refine Nat.lt_trans (by assumption) ?_)); done) | omega))
local macro_rules | `(tactic| walk_at "MINE sub") => `(tactic| first | assumption | (intro p hp; repeat (first | exact hp | exact Sub.mem (by assumption) hp | refine List.Mem.tail _ ?_)))
local macro_rules | `(tactic| walk_at "MINE perm") => `(tactic| ((repeat (refine subc (by k_mem) ?_)); exact fun e he => by (repeat (first | exact he | refine List.Mem.tail _ ?_))))
local macro_rules | `(tactic| walk_at "MINE dp") => `(tactic| first | exact dp_ok (by assumption) rfl | exact un_ok (by assumption) rfl | omega | exact Nat.le_of_ble_eq_true rfl | (dsimp only [ktrTop, Around.deeper]; omega) | (simp only [callerA, claimMargin, recursionLimit, cLine]; omega))
local macro_rules | `(tactic| walk_at "MINE un") => `(tactic| first | (dsimp only [Around.deeper, ktrTop]; omega) | ktr_units)
local macro_rules | `(tactic| walk_at "MINE len") => `(tactic| ((try simp only [List.length_append, List.length_set, List.length_cons, List.length_nil] at *); omega))
local macro_rules | `(tactic| walk_at "MINE unr") => `(tactic| fail)
local macro_rules | `(tactic| walk_at "MINE ret") => `(tactic| (k_whole; (repeat intro); (all_goals (try k_sweep)); (all_goals (try k_fold))))
local macro_rules | `(tactic| walk_at "MINE sw") => `(tactic| (k_whole; (repeat intro); (try k_sweep)))
local macro_rules | `(tactic| walk_at "MINE ret2") => `(tactic| (k_whole; intro h' tk' F'; refine ⟨?_, ?_⟩ <;> walk_at "MINE ret"))
local macro_rules | `(tactic| walk_at "subscriptTail") => `(tactic| (k_here; k_dflt (first | ((with_reducible show wpAny _ _ (subscriptTail _ _ (Value.ref _) (Value.int 0 _)) _ _ _); refine' cell_at0 (h := ?_)) | ((with_reducible show wpAny _ _ (subscriptTail _ _ (Value.ref _) (Value.int 1 _)) _ _ _); refine' cell_at1 (h := ?_)) | ((with_reducible show wpAny _ _ (subscriptTail _ _ (Value.ref _) (Value.int _ _)) _ _ _); refine' cells_item (h := ?_))); k_whole; (repeat intro)))
local macro_rules | `(tactic| walk_at "compareOp Eq ref ref") => `(tactic| (k_here; (with_reducible show wpAny _ _ (compareOp CmpOp.Eq (Value.ref _) (Value.ref _)) _ _ _); k_dflt (refine' cell_eq (h := ?_)); k_whole))
local macro_rules | `(tactic| walk_at "compareOp NotEq ref ref") => `(tactic| (k_here; (with_reducible show wpAny _ _ (compareOp CmpOp.NotEq (Value.ref _) (Value.ref _)) _ _ _); k_dflt (refine' cell_ne (h := ?_)); k_whole))
local macro_rules | `(tactic| walk_at "call builtin:len") => `(tactic| (k_here; (with_reducible show wpAny _ _ (call (Value.builtin "len") [Value.ref _]) _ _ _); k_dflt (
  (refine' KM.len_K ?N ?m ?s ?f ?_; (case N => assumption); (case m => k_mem); (case s => first | exact List.size_toArray | exact rfl); (case f => walk_at "MINE len"))); k_whole))
local macro_rules | `(tactic| walk_at "setItem ref int") => `(tactic| (k_here; (with_reducible show wpAny _ _ (setItem (Value.ref _) (Value.int _ _) (Value.ref _)) _ _ _); k_dflt (refine' setat_L (h := ?_)); walk_at "MINE sw"))
local macro_rules | `(tactic| walk_at "call builtin:list.append") => `(tactic| (k_here; (with_reducible show wpAny _ _ (call (Value.builtin _) [Value.ref _, _]) _ _ _); k_dflt (refine' append_L (h := ?_)); walk_at "MINE sw"))
local macro_rules | `(tactic| walk_at "subscriptTail Attribute") => `(tactic| (k_here; (with_reducible show wpAny _ _ (subscriptTail _ _ (Value.ref _) (Value.int _ _)) _ _ _); k_dflt (refine' cells_item (h := ?_)); k_whole; (repeat intro)))
local macro_rules | `(tactic| walk_at "UnrEnd") => `(tactic| (k_here; k_dflt (refine' ⟨_, _, _, _, rfl, ?f, ?n, ?o, ?_⟩; (case f => assumption); (case n => first | assumption | exact News.swap (by assumption) | walk_at "MINE unr"); (case o => repeat' (first | exact fun e he => Nat.ne_of_lt (ktn_ltOf (by assumption) e he) | (refine List.forall_mem_cons.mpr ⟨?_, ?_⟩) | (refine neN ?_; (try dsimp only); omega))))))
local macro_rules | `(tactic| walk_at "call builtin:list.pop") => `(tactic| (k_here; (with_reducible show wpAny _ _ (call (Value.builtin _) [Value.ref _]) _ _ _); k_dflt (refine' pop_L (h := ?_)); walk_at "MINE sw"))
local macro_rules | `(tactic| walk_at "assign Tuple") => `(tactic| (k_here; (with_reducible show wpAny _ _ (assign (Expr.Tuple _ _ _) _ (Value.ref _)) _ _ _); k_dflt (
  (refine' unpackN_ ?F ?N ?T ?k1 ?k2 ?k3 ?_; (case F => assumption); (case N => assumption); (case T => (refine' News.isTup ?n ?m; (case n => assumption); (case m => (refine' memOf ?hs ?hm; (case hm => assumption); (case hs => walk_at "MINE sub"))))); (case k1 => exact rfl); (case k2 => exact rfl); (case k3 => exact rfl))); walk_at "MINE sw"))
local macro_rules | `(tactic| walk_at "eval Call Name") => `(tactic| (k_here; (with_reducible show wpAny _ _ (eval (Expr.Call (Expr.Name _ _) _ _ _) _) _ _ _); refine Call_ ?_))
section deref
def meas (rk : Cell → Nat) (d : Cell) : Nat := if d.isVar then rk d + 1 else 0
theorem meas_lt {S : Sto} {rk : Cell → Nat} (hr : Ranked S rk) {x d : Cell} (h : S.get x = some d) (hn : ¬ d = x) : meas rk d < meas rk x := by
  unfold meas
  rw [if_pos (get_var h)]
  by_cases hd : d.isVar = true
  · rw [if_pos hd]
    have : rk d < rk x := hr x d h hn d (by cases d <;> simp_all [tgt, Cell.isVar])
    omega
  · rw [if_neg hd]; omega
inductive derefJ (w : World) (p : SA) (q : SM) (S : Sto) (tups rest : List (Addr × Obj)) (c : Cell) (rk : Cell → Nat) (n : Nat) (m : Str → Option Value) (nx : List (Addr × Obj)) : Prop where
  | mk : nx = led w p q rest → m (Str.ofString "self") = some (.ref p.xS) → ∀ v d, m (Str.ofString "cell") = some v → IsCell tups v d → S.Ok d → (∀ e, Deref S d e → Deref S c e) → n = meas rk d → derefJ w p q S tups rest c rk n m nx
set_option maxRecDepth 100000 in
set_option maxHeartbeats 8000000 in
theorem deref_does {w : World} {p : SA} {q : SM} {tups rest : List (Addr × Obj)} {S : Sto} {tr : List Int} {v : Value} {c : Cell} (R : Rep tups q S tr := by assumption) (hs : Sub tups rest := by walk_at "MINE sub") (W : S.WF := by assumption) (A : Acyc S := by assumption) (hsz : S.room < 1000 := by first | assumption | omega) (hv : IsCell tups v c := by assumption) (ok : S.Ok c := by assumption) :
   Does w 125 1 [.ref p.xS, v] (led w p q rest) (fun r news' => news' = led w p q rest ∧ ∃ d, IsCell tups r d ∧ Deref S c d ∧ S.Ok d) := by
  obtain ⟨rk, hrk, _⟩ := A
  constructor
  intro dp un gd cn cs a ccd cl outer A₀ base h₀ L mean mg mb m s Q E B F X N T hk hdp hun hret
  refine wpAny_call ?_
  k_dflt ktr_enter
  refine wpAny_execs_cons ?_
  rename Fr _ _ _ _ => F'
  rename News _ _ _ _ => N'
  refine while_do (derefJ w p q S tups rest c rk) F' N' ⟨rfl, rfl, v, c, rfl, hv, ok, fun _ h => h, rfl⟩ ?_ (by first | passes_own | with_unfolding_all passes_own)
  clear F' N'
  intro n m₁ nx h₁ tk₁ F' N' hJ
  try k_fold
  obtain ⟨rfl, hself, v', d, hcell, hv', ok', hd, rfl⟩ := hJ
  replace F' := fr_put2 F' hself hcell
  have Rh := R.h
  have Rk := R.k
  try k_fold
  have hv2 := hv'
  cases hv'
  case ref n t u hm =>
    obtain ⟨x, hx⟩ := Option.isSome_iff_exists.mp (ok' (.ref n) (List.Mem.head _))
    have hx2 : At S.H (n : Int) x := At.of hx (by unfold Sto.room at hsz; omega) rfl
    have hxx : S.get (.ref n) = some x := hx; clear hx
    k_steps
    · exact hret _ _ _ _ (by assumption) (by assumption) ⟨rfl, _, hv2, hd _ (.unb (by rename x = _ => e; subst e; exact hxx)), ok'⟩
    · exact WEnd.intro (by assumption) (by assumption) (meas_lt hrk hxx (by assumption)) ⟨rfl, rfl, _, _, rfl, by assumption, W.ok _ x hxx, fun e he => hd e (.step hxx (by assumption) he), rfl⟩
  case srf n t u hm =>
    obtain ⟨x, hx⟩ := Option.isSome_iff_exists.mp (ok' (.srf n) (List.Mem.head _))
    have hx2 : At S.K (n : Int) x := At.of hx (by unfold Sto.room at hsz; omega) rfl
    have hxx : S.get (.srf n) = some x := hx; clear hx
    k_steps
    · exact hret _ _ _ _ (by assumption) (by assumption) ⟨rfl, _, hv2, hd _ (.unb (by rename x = _ => e; subst e; exact hxx)), ok'⟩
    · exact WEnd.intro (by assumption) (by assumption) (meas_lt hrk hxx (by assumption)) ⟨rfl, rfl, _, _, rfl, by assumption, W.ok _ x hxx, fun e he => hd e (.step hxx (by assumption) he), rfl⟩
  case lis n t u hm =>
    k_steps
    exact hret _ _ _ _ (by assumption) (by assumption) ⟨rfl, _, hv2, hd _ (.val rfl), ok'⟩
  case int n t u hm =>
    k_steps
    exact hret _ _ _ _ (by assumption) (by assumption) ⟨rfl, _, hv2, hd _ (.val rfl), ok'⟩
end deref
section small
set_option maxRecDepth 100000 in
set_option maxHeartbeats 8000000 in
theorem isvar_does {w : World} {news : List (Addr × Obj)} {v : Value} {c : Cell} (hv : IsCell news v c := by first | assumption | exact IsCell.lift) :
   Does w 334 1 [v] news (fun r news' => news' = news ∧ r = .bool c.isVar) := by
  (w_top off; constructor; intro dp un gd cn cs a ccd cl outer A₀ base h₀ L mean mg mb m s Q E B F X N T hk hdp hun hret; refine wpAny_call ?_; k_dflt ktr_enter)
  have hv2 := hv
  cases hv
  all_goals (k_steps; exact hret _ _ _ _ (by assumption) (by assumption) ⟨rfl, rfl⟩)
set_option maxRecDepth 100000 in
set_option maxHeartbeats 8000000 in
theorem iscomp_does {w : World} {news : List (Addr × Obj)} {x v : Value} {c : Cell} (hv : IsCell news v c := by first | assumption | exact IsCell.lift) :
   Does w 181 1 [x, v] news (fun r news' => news' = news ∧ r = .bool c.isLis) := by
  (w_top off; constructor; intro dp un gd cn cs a ccd cl outer A₀ base h₀ L mean mg mb m s Q E B F X N T hk hdp hun hret; refine wpAny_call ?_; k_dflt ktr_enter)
  have hv2 := hv
  cases hv
  all_goals (k_steps; exact hret _ _ _ _ (by assumption) (by assumption) ⟨rfl, rfl⟩)
set_option maxRecDepth 100000 in
set_option maxHeartbeats 8000000 in
theorem shape_does {w : World} {news : List (Addr × Obj)} {x u v : Value} {n : Nat} {c : Cell} (hu : IsCell news u (.lis n) := by exact IsCell.lisOf IsCell.lift (by assumption)) (hv : IsCell news v c := by first | assumption | exact IsCell.lift) :
   Does w 327 1 [x, u, v] news (fun r news' => news' = news ∧ r = .bool c.isLis) := by
  (w_top off; constructor; intro dp un gd cn cs a ccd cl outer A₀ base h₀ L mean mg mb m s Q E B F X N T hk hdp hun hret; refine wpAny_call ?_; k_dflt ktr_enter)
  have hv2 := hv
  cases hu
  cases hv
  all_goals (k_steps; exact hret _ _ _ _ (by assumption) (by assumption) ⟨rfl, rfl⟩)
set_option maxRecDepth 100000 in
set_option maxHeartbeats 8000000 in
theorem width_does {w : World} {news : List (Addr × Obj)} {x u : Value} {n : Nat} (hu : IsCell news u (.lis n) := by assumption) :
   Does w 195 1 [x, u] news (fun r news' => news' = news ∧ ∃ tk, r = .int 2 tk) := by
  (w_top off; constructor; intro dp un gd cn cs a ccd cl outer A₀ base h₀ L mean mg mb m s Q E B F X N T hk hdp hun hret; refine wpAny_call ?_; k_dflt ktr_enter)
  cases hu
  k_steps
  exact hret _ _ _ _ (by assumption) (by assumption) ⟨rfl, _, rfl⟩
set_option maxRecDepth 100000 in
set_option maxHeartbeats 8000000 in
theorem base_does {w : World} {news : List (Addr × Obj)} {x u : Value} {n : Nat} (hu : IsCell news u (.lis n) := by assumption) :
   Does w 202 1 [x, u] news (fun r news' => news' = news ∧ ∃ tk, r = .int (n : Int) tk) := by
  (w_top off; constructor; intro dp un gd cn cs a ccd cl outer A₀ base h₀ L mean mg mb m s Q E B F X N T hk hdp hun hret; refine wpAny_call ?_; k_dflt ktr_enter)
  cases hu
  k_steps
  exact hret _ _ _ _ (by assumption) (by assumption) ⟨rfl, _, rfl⟩
set_option maxRecDepth 100000 in
set_option maxHeartbeats 8000000 in
theorem mark_does {w : World} {p : SA} {q : SM} {rest : List (Addr × Obj)} (hl : q.vt.length < 1000000 := by (dsimp only; omega)) :
   Does w 160 1 [.ref p.xS] (led w p q rest) (fun r news' => news' = led w p q rest ∧ ∃ tk, r = .int (q.vt.length : Int) tk) := by
  (w_top off; constructor; intro dp un gd cn cs a ccd cl outer A₀ base h₀ L mean mg mb m s Q E B F X N T hk hdp hun hret; refine wpAny_call ?_; k_dflt ktr_enter)
  k_steps
  exact hret _ _ _ _ (by assumption) (by assumption) ⟨rfl, _, rfl⟩
end small
section bind
theorem moved_bind {q q' : SM} {S : Sto} {tr : List Int} {x c : Cell} {b : Bool} (hx : S.get x = some x) (hc : c ≠ x) (h1 : q'.hb = q.hb) (h2 : q'.bb = q.bb)
    (hb : (S.H.length : Int) ≤ q.hb → (S.K.length : Int) ≤ q.bb → b = true) : Moved q q' S (S.set x c) tr (if b then tr ++ [entOf x] else tr) := by
  have hf := free_set hx hc
  refine ⟨h1, h2, ext_set hx, ?_, fun a1 a2 => ⟨[entOf x], by rw [hb a1 a2]; rfl, ?_, ?_⟩⟩
  · cases b
    · simp; omega
    · simp; omega
  · show (S.set x c).set (varOf (entOf x)) (varOf (entOf x)) = S
    rw [varOf_entOf (get_var hx)]; exact set_set hx
  · intro e he
    rw [List.mem_singleton.mp he, varOf_entOf (get_var hx), hx]; rfl
set_option maxRecDepth 100000 in
set_option maxHeartbeats 8000000 in
theorem bind_does {w : World} {p : SA} {q : SM} {tups rest : List (Addr × Obj)} {S : Sto} {tr : List Int} {vx vc : Value} {x c : Cell} (R : Rep tups q S tr := by assumption) (hs : Sub tups rest := by walk_at "MINE sub") (P : Apart p rest := by first | assumption | solve_by_elim) (hsz : S.room < 1000 := by first | assumption | omega) (htr : tr.length < 1000 := by first | assumption | omega)
    (hvx : IsCell tups vx x := by assumption) (hvc : IsCell tups vc c := by assumption) (hx : S.get x = some x := by assumption) (hc : c ≠ x := by assumption) :
   Does w 139 1 [.ref p.xS, vx, vc] (led w p q rest) (fun _ news' => ∃ q' tr', news' = led w p q' rest ∧ Rep tups q' (S.set x c) tr' ∧ Moved q q' S (S.set x c) tr tr') := by
  obtain ⟨o1, o2, o3, o4, off⟩ := P
  have hlh := R.h.1
  have hlk := R.k.1
  have hlt := R.t.length
  obtain ⟨bc, _, _, rfl, _⟩ := id hvc.out
  have hvx2 := hvx
  cases hvx
  case ref a' n t u hm =>
    have hx2 : S.H[n]? = some (.ref n) := hx
    have hn1 := (List.getElem?_eq_some_iff.mp hx2).1
    have hn2 : n < 1000000 := by unfold Sto.room at hsz; omega
    (w_top off; constructor; intro dp un gd cn cs a ccd cl outer A₀ base h₀ L mean mg mb m s Q E B F X N T hk hdp hun hret; refine wpAny_call ?_; k_dflt ktr_enter)
    k_steps
    · exact hret _ _ _ _ (by assumption) (by assumption) ⟨{ q with vh := q.vh.set n (.ref bc), vt := q.vt ++ [.int n u], nt := q.nt + 1 }, tr ++ [(n : Int)], rfl, ⟨R.h.set hvc n, R.k, ints_push R.t _ _⟩, moved_bind (b := true) hx hc rfl rfl fun _ _ => rfl⟩
    · exact hret _ _ _ _ (by assumption) (by assumption) ⟨{ q with vh := q.vh.set n (.ref bc) }, tr, rfl, ⟨R.h.set hvc n, R.k, R.t⟩, moved_bind (b := false) hx hc rfl rfl fun h1 _ => by exfalso; omega⟩
  case srf a' n t u hm =>
    have hx2 : S.K[n]? = some (.srf n) := hx
    have hn1 := (List.getElem?_eq_some_iff.mp hx2).1
    have hn2 : n < 1000000 := by unfold Sto.room at hsz; omega
    (w_top off; constructor; intro dp un gd cn cs a ccd cl outer A₀ base h₀ L mean mg mb m s Q E B F X N T hk hdp hun hret; refine wpAny_call ?_; k_dflt ktr_enter)
    k_steps
    · exact hret _ _ _ _ (by assumption) (by assumption) ⟨{ q with vk := q.vk.set n (.ref bc), vt := q.vt ++ [.int (-1 - (n : Int)) _], nt := q.nt + 1 }, tr ++ [-1 - (n : Int)], rfl, ⟨R.h, R.k.set hvc n, ints_push R.t _ _⟩, moved_bind (b := true) hx hc rfl rfl fun _ _ => rfl⟩
    · exact hret _ _ _ _ (by assumption) (by assumption) ⟨{ q with vk := q.vk.set n (.ref bc) }, tr, rfl, ⟨R.h, R.k.set hvc n, R.t⟩, moved_bind (b := false) hx hc rfl rfl fun _ h1 => by exfalso; omega⟩
  case lis a' n t u hm => cases hx
  case int a' n t u hm => cases hx
theorem pk_bind {NN : SM → List (Addr × Obj)} {P P' : SM → List Int → Prop} : Kof (fun _ n' => ∃ q' tr', n' = NN q' ∧ P q' tr' ∧ P' q' tr') (fun Z => ∀ r q' tr', P q' tr' → P' q' tr' → Z r (NN q')) := by
  rintro Z h r _ ⟨q', tr', rfl, h1, h2⟩; exact h r q' tr' h1 h2
end bind
section add
/-- the entries of the pair set's own dict -/
abbrev pEnts (w : World) (k0 k1 : Tok) (span : Int) (ts : Tok) (aM : Addr) : List DictEntry :=
  [⟨PyData.keyHash w.params (Str.ofString "span"), .str (Str.ofString "span") k0, .int span ts⟩,
   ⟨PyData.keyHash w.params (Str.ofString "met"), .str (Str.ofString "met") k1, .ref aM⟩]
set_option maxRecDepth 100000 in
set_option maxHeartbeats 8000000 in
theorem add_does {w : World} {p : SA} {q : SM} {tups rest : List (Addr × Obj)} {vx vc : Value} {c d : Cell} {aW xP dP aM : Addr} {oW so : Obj} {k0 k1 ts : Tok} {span : Int} {nP nM : Nat} {Sf : Int → Bool}
    (hs : Sub tups rest := by walk_at "MINE sub") (P : Apart p rest [aM] := by first | assumption | solve_by_elim) (h1 : @LT.lt Nat _ p.aT dP := by assumption) (h2 : @LT.lt Nat _ dP xP := by assumption) (h3 : @LT.lt Nat _ xP aM := by assumption) (h4 : @LT.lt Nat _ aM aW := by assumption) (hsp : 0 ≤ span ∧ span ≤ 100 := by omega) (hset : so.SetObjOf (PySem.intKind PySem.Challenge.rw_rr0022_01.row.prog w) Sf nM := by assumption) (hn : nM < 4000 := by omega)
    (hvx : IsCell tups vx c := by assumption) (hvc : IsCell tups vc d := by assumption) (hc : c.num < 100 := by exact num_small (by assumption) (by assumption) (by assumption)) (hd : d.num < 100 := by exact num_small (by assumption) (by assumption) (by assumption)) :
   Does w 299 1 [.ref xP, vx, vc] (led w p q ((aW, oW) :: (xP, instObj 302 dP) :: (dP, dictOf (pEnts w k0 k1 span ts aM) nP) :: (aM, so) :: rest)) (fun r news' =>
     (r = .bool false ∧ Sf ((c.num : Int) * span + (d.num : Int)) = true ∧ news' = led w p q ((aW, oW) :: (xP, instObj 302 dP) :: (dP, dictOf (pEnts w k0 k1 span ts aM) nP) :: (aM, so) :: rest)) ∨
     (r = .bool true ∧ Sf ((c.num : Int) * span + (d.num : Int)) = false ∧ ∃ so', so'.SetObjOf (PySem.intKind PySem.Challenge.rw_rr0022_01.row.prog w) (fun k => Sf k || decide (k = (c.num : Int) * span + (d.num : Int))) (nM + 1) ∧
        news' = led w p q ((aW, oW) :: (xP, instObj 302 dP) :: (dP, dictOf (pEnts w k0 k1 span ts aM) nP) :: (aM, so') :: rest))) := by
  obtain ⟨o1, o2, o3, o4, off⟩ := P
  obtain ⟨bx, _, _, rfl, _⟩ := id hvx.out
  obtain ⟨bc, _, _, rfl, _⟩ := id hvc.out
  (w_top off; constructor; intro dp un gd cn cs a ccd cl outer A₀ base h₀ L mean mg mb m s Q E B F X N T hk hdp hun hret; refine wpAny_call ?_; k_dflt ktr_enter)
  k_steps
  · exact hret _ _ _ _ (by assumption) (by assumption) (.inl ⟨rfl, by assumption, rfl⟩)
  · rename Sf _ = false => hf
    rename Obj.SetObjOf _ _ _ _ => hs'
    rw [hf] at hs'
    simp only [Bool.false_eq_true, if_false] at hs'
    exact hret _ _ _ _ (by assumption) (by assumption) (.inr ⟨rfl, hf, _, hs', rfl⟩)
theorem pk_add {v v' : Value} {P P' : Prop} {nn : List (Addr × Obj)} {NN : Obj → List (Addr × Obj)} {P2 : Obj → Prop} : Kof (fun r n' => (r = v ∧ P ∧ n' = nn) ∨ (r = v' ∧ P' ∧ ∃ o, P2 o ∧ n' = NN o)) (fun Z => (P → Z v nn) ∧ (P' → ∀ o, P2 o → Z v' (NN o))) := by
  rintro Z ⟨h, h'⟩ r _ (⟨rfl, h1, rfl⟩ | ⟨rfl, h1, o, h2, rfl⟩)
  · exact h h1
  · exact h' h1 o h2
end add
section pair
local macro_rules | `(tactic| walk_at "call ref") => `(tactic| (k_here; k_dflt (((with_reducible show wpAny _ _ (call (Value.ref 139) _) _ _ _); refine' Does.useK (D := bind_does) (k := pk_bind) (ret := ?_))); walk_at "MINE ret"))
set_option maxRecDepth 100000 in
set_option maxHeartbeats 8000000 in
theorem bindpair_does {w : World} {p : SA} {q : SM} {tups rest : List (Addr × Obj)} {S : Sto} {tr : List Int} {vx vy : Value} {x y : Cell} (R : Rep tups q S tr := by assumption) (hs : Sub tups rest := by walk_at "MINE sub") (P : Apart p rest := by first | assumption | solve_by_elim) (hsz : S.room < 1000 := by first | assumption | omega) (htr : tr.length < 1000 := by first | assumption | omega)
    (hvx : IsCell tups vx x := by assumption) (hvy : IsCell tups vy y := by assumption) (hx : S.get x = some x := by first | assumption | exact deref_unb (by assumption) (by assumption)) (hy : S.get y = some y := by first | assumption | exact deref_unb (by assumption) (by assumption)) (hxy : x ≠ y := by assumption) :
   Does w 146 2 [.ref p.xS, vx, vy] (led w p q rest) (fun _ news' => ∃ q' tr' x' y', ((x' = x ∧ y' = y) ∨ (x' = y ∧ y' = x)) ∧ ((∃ k, x' = .srf k) ∨ ∀ k, y' ≠ .srf k) ∧
      news' = led w p q' rest ∧ Rep tups q' (S.set x' y') tr' ∧ Moved q q' S (S.set x' y') tr tr') := by
  have hvx2 := hvx
  have hvy2 := hvy
  have hyx : y ≠ x := fun e => hxy e.symm
  cases hvx
  case lis a' n t u hm => cases hx
  case int a' n t u hm => cases hx
  all_goals cases hvy
  case ref.ref a' n t u hm b' n' t' u' hm' =>
    (w_top off; constructor; intro dp un gd cn cs a ccd cl outer A₀ base h₀ L mean mg mb m s Q E B F X N T hk hdp hun hret; refine wpAny_call ?_; k_dflt ktr_enter)
    k_steps
    · exact hret _ _ _ _ (by assumption) (by assumption) ⟨_, _, _, _, .inr ⟨rfl, rfl⟩, .inr (by intro k h; cases h), rfl, by assumption, by assumption⟩
    · exact hret _ _ _ _ (by assumption) (by assumption) ⟨_, _, _, _, .inl ⟨rfl, rfl⟩, .inr (by intro k h; cases h), rfl, by assumption, by assumption⟩
  case ref.srf a' n t u hm b' n' t' u' hm' =>
    (w_top off; constructor; intro dp un gd cn cs a ccd cl outer A₀ base h₀ L mean mg mb m s Q E B F X N T hk hdp hun hret; refine wpAny_call ?_; k_dflt ktr_enter)
    k_steps
    · exact hret _ _ _ _ (by assumption) (by assumption) ⟨_, _, _, _, .inr ⟨rfl, rfl⟩, .inl ⟨_, rfl⟩, rfl, by assumption, by assumption⟩
  case srf.ref a' n t u hm b' n' t' u' hm' =>
    (w_top off; constructor; intro dp un gd cn cs a ccd cl outer A₀ base h₀ L mean mg mb m s Q E B F X N T hk hdp hun hret; refine wpAny_call ?_; k_dflt ktr_enter)
    k_steps
    · exact hret _ _ _ _ (by assumption) (by assumption) ⟨_, _, _, _, .inl ⟨rfl, rfl⟩, .inl ⟨_, rfl⟩, rfl, by assumption, by assumption⟩
  case srf.srf a' n t u hm b' n' t' u' hm' =>
    (w_top off; constructor; intro dp un gd cn cs a ccd cl outer A₀ base h₀ L mean mg mb m s Q E B F X N T hk hdp hun hret; refine wpAny_call ?_; k_dflt ktr_enter)
    k_steps
    · exact hret _ _ _ _ (by assumption) (by assumption) ⟨_, _, _, _, .inr ⟨rfl, rfl⟩, .inl ⟨_, rfl⟩, rfl, by assumption, by assumption⟩
    · exact hret _ _ _ _ (by assumption) (by assumption) ⟨_, _, _, _, .inl ⟨rfl, rfl⟩, .inl ⟨_, rfl⟩, rfl, by assumption, by assumption⟩
  all_goals cases hy
theorem pk_bindpair {NN : SM → List (Addr × Obj)} {P P' : Cell → Cell → Prop} {P2 P3 : SM → List Int → Cell → Cell → Prop} : Kof (fun _ n' => ∃ q' tr' x' y', P x' y' ∧ P' x' y' ∧ n' = NN q' ∧ P2 q' tr' x' y' ∧ P3 q' tr' x' y')
    (fun Z => ∀ r q' tr' x' y', P x' y' → P' x' y' → P2 q' tr' x' y' → P3 q' tr' x' y' → Z r (NN q')) := by
  rintro Z h r _ ⟨q', tr', x', y', h1, h2, rfl, h3, h4⟩; exact h r q' tr' x' y' h1 h2 h3 h4
end pair
section push
local macro_rules | `(tactic| walk_at "binaryOp Sub int int") => `(tactic| (refine sub_int ?_; (with_reducible rw [show (2 - 1 : Int) = 1 from rfl])))
local macro_rules | `(tactic| walk_at "call ref") => `(tactic| (k_here; k_dflt (first | ((with_reducible show wpAny _ _ (call (Value.ref 195) _) _ _ _); refine' Does.useK (D := width_does) (k := pk_int) (ret := ?_)) | ((with_reducible show wpAny _ _ (call (Value.ref 202) _) _ _ _); refine' Does.useK (D := base_does) (k := pk_int) (ret := ?_))); walk_at "MINE ret"))
set_option maxRecDepth 100000 in
set_option maxHeartbeats 8000000 in
theorem pushargs_does {w : World} {p : SA} {q : SM} {tups rest : List (Addr × Obj)} {S : Sto} {tr : List Int} {aW : Addr} {ws : List Value} {nw : Nat} {v : Value} {n : Nat} {c0 c1 : Cell} (R : Rep tups q S tr) (hs : Sub tups rest) (P : Apart p rest [aW])
    (hW : @LT.lt Nat _ p.aT aW) (hsz : S.room < 1000) (hws : ws.length < 10000) (hv : IsCell tups v (.lis n)) (h0 : S.H[n]? = some c0) (h1 : S.H[n + 1]? = some c1) :
   Does w 313 2 [.ref p.xS, v, .ref aW] (led w p q ((aW, listOf ws.toArray nw) :: rest)) (fun _ news' => ∃ v0 v1 nw', IsCell tups v0 c0 ∧ IsCell tups v1 c1 ∧ news' = led w p q ((aW, listOf (ws ++ [v1] ++ [v0]).toArray nw') :: rest)) := by
  obtain ⟨o1, o2, o3, o4, off⟩ := P
  have hl : S.H.length < 1000000 := by unfold Sto.room at hsz; omega
  have g0 : At S.H ((n : Int) + 0) c0 := At.of h0 hl (by omega)
  have g1 : At S.H ((n : Int) + 1) c1 := At.of h1 hl (by omega)
  have Rh := R.h
  have hv2 : IsCell (led w p q ((aW, listOf ws.toArray nw) :: rest)) v (.lis n) := hv.mono (by intro p hp; repeat (first | exact hp | exact Sub.mem (by assumption) hp | refine List.Mem.tail _ ?_))
  cases hv
  case lis a' t u hm =>
    (w_top off; constructor; intro dp un gd cn cs a ccd cl outer A₀ base h₀ L mean mg mb m s Q E B F X N T hk hdp hun hret; refine wpAny_call ?_; k_dflt ktr_enter)
    k_steps
    refine hret _ _ _ _ (by assumption) (by assumption) ?_
    refine' ⟨_, _, _, ?a, ?b, rfl⟩
    all_goals assumption
theorem pushargs_lis {w : World} {p : SA} {q : SM} {tups rest : List (Addr × Obj)} {S : Sto} {tr : List Int} {aW : Addr} {ws : List Value} {nw : Nat} {v : Value} {c : Cell} (R : Rep tups q S tr := by assumption) (hs : Sub tups rest := by walk_at "MINE sub") (P : Apart p rest [aW] := by first | assumption | solve_by_elim)
    (hW : @LT.lt Nat _ p.aT aW := by assumption) (hsz : S.room < 1000 := by first | assumption | omega) (hws : ws.length < 10000 := by first | assumption | omega) (hv : IsCell tups v c := by assumption) (hl : c.isLis = true := by assumption) (ok : S.Ok c := by assumption) :
   Does w 313 2 [.ref p.xS, v, .ref aW] (led w p q ((aW, listOf ws.toArray nw) :: rest)) (fun _ news' => ∃ c0 c1 v0 v1 nw', S.H[c.num]? = some c0 ∧ S.H[c.num + 1]? = some c1 ∧ IsCell tups v0 c0 ∧ IsCell tups v1 c1 ∧ news' = led w p q ((aW, listOf (ws ++ [v1] ++ [v0]).toArray nw') :: rest)) := by
  have e := lis_of hl
  rw [e] at ok
  obtain ⟨c0, c1, h0, h1⟩ := lis_ok ok
  constructor
  intro dp un gd cn cs a ccd cl outer A₀ base h₀ L mean mg mb m s Q E B F X N T hk hdp hun hret
  exact (pushargs_does R hs P hW hsz hws (hv.lisOf hl) h0 h1).use B F X N T hk hdp hun fun r news' h' tk' F' N' ⟨v0, v1, nw', a1, a2, a3⟩ => hret r news' h' tk' F' N' ⟨c0, c1, v0, v1, nw', h0, h1, a1, a2, a3⟩
/-- a pair of cells on the work list -/
abbrev pairO (u v : Value) : Obj := { cls := .type "tuple", data := .seq #[u, v] }
set_option maxRecDepth 100000 in
set_option maxHeartbeats 8000000 in
theorem pushpairs_does {w : World} {p : SA} {q : SM} {tups rest : List (Addr × Obj)} {S : Sto} {tr : List Int} {aW : Addr} {ws : List Value} {nw : Nat} {u v : Value} {a b : Nat} {a0 a1 b0 b1 : Cell} (R : Rep tups q S tr) (hs : Sub tups rest) (P : Apart p rest [aW])
    (hW : @LT.lt Nat _ p.aT aW) (hsz : S.room < 1000) (hws : ws.length < 10000) (hu : IsCell tups u (.lis a)) (hv : IsCell tups v (.lis b)) (ha0 : S.H[a]? = some a0) (ha1 : S.H[a + 1]? = some a1) (hb0 : S.H[b]? = some b0) (hb1 : S.H[b + 1]? = some b1) :
   Does w 320 2 [.ref p.xS, u, v, .ref aW] (led w p q ((aW, listOf ws.toArray nw) :: rest)) (fun _ news' => ∃ u0 u1 v0 v1 t0 t1 nw', IsCell tups u0 a0 ∧ IsCell tups u1 a1 ∧ IsCell tups v0 b0 ∧ IsCell tups v1 b1 ∧
      (∀ e ∈ led w p q ((aW, listOf ws.toArray nw) :: rest), @LT.lt Nat _ e.1 t0 ∧ @LT.lt Nat _ e.1 t1) ∧
      news' = (t0, pairO u0 v0) :: (t1, pairO u1 v1) :: led w p q ((aW, listOf (ws ++ [Value.ref t1] ++ [Value.ref t0]).toArray nw') :: rest)) := by
  obtain ⟨o1, o2, o3, o4, off⟩ := P
  have hl : S.H.length < 1000000 := by unfold Sto.room at hsz; omega
  have g0 : At S.H ((a : Int) + 0) a0 := At.of ha0 hl (by omega)
  have g1 : At S.H ((a : Int) + 1) a1 := At.of ha1 hl (by omega)
  have g2 : At S.H ((b : Int) + 0) b0 := At.of hb0 hl (by omega)
  have g3 : At S.H ((b : Int) + 1) b1 := At.of hb1 hl (by omega)
  have Rh := R.h
  have hu2 : IsCell (led w p q ((aW, listOf ws.toArray nw) :: rest)) u (.lis a) := hu.mono (by intro p hp; repeat (first | exact hp | exact Sub.mem (by assumption) hp | refine List.Mem.tail _ ?_))
  have hv2 : IsCell (led w p q ((aW, listOf ws.toArray nw) :: rest)) v (.lis b) := hv.mono (by intro p hp; repeat (first | exact hp | exact Sub.mem (by assumption) hp | refine List.Mem.tail _ ?_))
  cases hu
  cases hv
  (w_top off; constructor; intro dp un gd cn cs a ccd cl outer A₀ base h₀ L mean mg mb m s Q E B F X N T hk hdp hun hret; refine wpAny_call ?_; k_dflt ktr_enter)
  k_steps
  refine hret _ _ _ _ (by assumption) (by assumption) ?_
  refine' ⟨_, _, _, _, _, _, _, ?a, ?b, ?c, ?d, ?e, rfl⟩
  case e =>
    intro e he
    exact ⟨by first | exact lt1 (by assumption) e he | exact lt2 (by assumption) e he, by first | exact lt1 (by assumption) e he | exact lt2 (by assumption) e he⟩
  all_goals assumption
theorem pushpairs_lis {w : World} {p : SA} {q : SM} {tups rest : List (Addr × Obj)} {S : Sto} {tr : List Int} {aW : Addr} {ws : List Value} {nw : Nat} {u v : Value} {c d : Cell} (R : Rep tups q S tr := by assumption) (hs : Sub tups rest := by walk_at "MINE sub") (P : Apart p rest [aW] := by first | assumption | solve_by_elim)
    (hW : @LT.lt Nat _ p.aT aW := by assumption) (hsz : S.room < 1000 := by first | assumption | omega) (hws : ws.length < 10000 := by first | assumption | omega) (hu : IsCell tups u c := by assumption) (hv : IsCell tups v d := by assumption) (hc : c.isLis = true := by assumption) (hd : d.isLis = true := by assumption) (okc : S.Ok c := by assumption) (okd : S.Ok d := by assumption) :
   Does w 320 2 [.ref p.xS, u, v, .ref aW] (led w p q ((aW, listOf ws.toArray nw) :: rest)) (fun _ news' => ∃ a0 a1 b0 b1 u0 u1 v0 v1 t0 t1 nw', S.H[c.num]? = some a0 ∧ S.H[c.num + 1]? = some a1 ∧ S.H[d.num]? = some b0 ∧ S.H[d.num + 1]? = some b1 ∧
      IsCell tups u0 a0 ∧ IsCell tups u1 a1 ∧ IsCell tups v0 b0 ∧ IsCell tups v1 b1 ∧
      (∀ e ∈ led w p q ((aW, listOf ws.toArray nw) :: rest), @LT.lt Nat _ e.1 t0 ∧ @LT.lt Nat _ e.1 t1) ∧
      news' = (t0, pairO u0 v0) :: (t1, pairO u1 v1) :: led w p q ((aW, listOf (ws ++ [Value.ref t1] ++ [Value.ref t0]).toArray nw') :: rest)) := by
  have e := lis_of hc
  have e' := lis_of hd
  rw [e] at okc
  rw [e'] at okd
  obtain ⟨a0, a1, h0, h1⟩ := lis_ok okc
  obtain ⟨b0, b1, g0, g1⟩ := lis_ok okd
  constructor
  intro dp un gd cn cs a ccd cl outer A₀ base h₀ L mean mg mb m s Q E B F X N T hk hdp hun hret
  exact (pushpairs_does R hs P hW hsz hws (hu.lisOf hc) (hv.lisOf hd) h0 h1 g0 g1).use B F X N T hk hdp hun fun r news' h' tk' F' N' ⟨u0, u1, v0, v1, t0, t1, nw', x1, x2, x3, x4, x5, x6⟩ =>
    hret r news' h' tk' F' N' ⟨a0, a1, b0, b1, u0, u1, v0, v1, t0, t1, nw', h0, h1, g0, g1, x1, x2, x3, x4, x5, x6⟩
theorem pk_args {w : World} {p : SA} {q : SM} {tups rest : List (Addr × Obj)} {S : Sto} {aW : Addr} {ws : List Value} {c : Cell} :
    Kof (fun _ news' => ∃ c0 c1 v0 v1 nw', S.H[c.num]? = some c0 ∧ S.H[c.num + 1]? = some c1 ∧ IsCell tups v0 c0 ∧ IsCell tups v1 c1 ∧ news' = led w p q ((aW, listOf (ws ++ [v1] ++ [v0]).toArray nw') :: rest))
      (fun Z => ∀ r c0 c1 v0 v1 nw', S.H[c.num]? = some c0 → S.H[c.num + 1]? = some c1 → IsCell tups v0 c0 → IsCell tups v1 c1 → Z r (led w p q ((aW, listOf (ws ++ [v1] ++ [v0]).toArray nw') :: rest))) := by
  rintro Z h r _ ⟨c0, c1, v0, v1, nw', h0, h1, h2, h3, rfl⟩; exact h r c0 c1 v0 v1 nw' h0 h1 h2 h3
theorem pk_pairs {w : World} {p : SA} {q : SM} {tups rest : List (Addr × Obj)} {S : Sto} {aW : Addr} {ws : List Value} {c d : Cell} {O : Addr → Addr → Prop} :
    Kof (fun _ news' => ∃ a0 a1 b0 b1 u0 u1 v0 v1 t0 t1 nw', S.H[c.num]? = some a0 ∧ S.H[c.num + 1]? = some a1 ∧ S.H[d.num]? = some b0 ∧ S.H[d.num + 1]? = some b1 ∧
      IsCell tups u0 a0 ∧ IsCell tups u1 a1 ∧ IsCell tups v0 b0 ∧ IsCell tups v1 b1 ∧ O t0 t1 ∧
      news' = (t0, pairO u0 v0) :: (t1, pairO u1 v1) :: led w p q ((aW, listOf (ws ++ [Value.ref t1] ++ [Value.ref t0]).toArray nw') :: rest))
      (fun Z => ∀ r a0 a1 b0 b1 u0 u1 v0 v1 t0 t1 nw', S.H[c.num]? = some a0 → S.H[c.num + 1]? = some a1 → S.H[d.num]? = some b0 → S.H[d.num + 1]? = some b1 →
      IsCell tups u0 a0 → IsCell tups u1 a1 → IsCell tups v0 b0 → IsCell tups v1 b1 → O t0 t1 →
      Z r ((t0, pairO u0 v0) :: (t1, pairO u1 v1) :: led w p q ((aW, listOf (ws ++ [Value.ref t1] ++ [Value.ref t0]).toArray nw') :: rest))) := by
  rintro Z h r _ ⟨a0, a1, b0, b1, u0, u1, v0, v1, t0, t1, nw', g0, g1, g2, g3, i0, i1, i2, i3, ho, rfl⟩; exact h r a0 a1 b0 b1 u0 u1 v0 v1 t0 t1 nw' g0 g1 g2 g3 i0 i1 i2 i3 ho
end push
section occ
local macro_rules | `(tactic| walk_at "call ref") => `(tactic| (k_here; k_dflt (first | ((with_reducible show wpAny _ _ (call (Value.ref 125) _) _ _ _); refine' Does.useK (D := deref_does) (k := pk_cell) (ret := ?_)) | ((with_reducible show wpAny _ _ (call (Value.ref 181) _) _ _ _); refine' Does.useK (D := iscomp_does) (k := pk_val) (ret := ?_)) | ((with_reducible show wpAny _ _ (call (Value.ref 313) _) _ _ _); refine' Does.useK (D := pushargs_lis) (k := pk_args) (ret := ?_))); walk_at "MINE ret"))
inductive occJ (w : World) (p : SA) (q : SM) (tups rest : List (Addr × Obj)) (S : Sto) (x d0 : Cell) (vx : Value) (aW aM : Addr) (n : Nat) (m : Str → Option Value) (nx : List (Addr × Obj)) : Prop where
  | mk : ∀ so ws nw nM cs Sf, nx = led w p q ((aW, listOf ws.toArray nw) :: (aM, so) :: rest) → m (Str.ofString "store") = some (.ref p.xS) → m (Str.ofString "variable") = some vx → m (Str.ofString "work") = some (.ref aW) → m (Str.ofString "met") = some (.ref aM) → so.SetObjOf (PySem.intKind PySem.Challenge.rw_rr0022_01.row.prog w) Sf nM → AreCells tups ws cs → OccInv S x d0 cs Sf → nM + unmet S Sf ≤ S.H.length → cs.length + 2 * unmet S Sf ≤ 1 + 2 * S.H.length → n = cs.length + 2 * unmet S Sf → occJ w p q tups rest S x d0 vx aW aM n m nx
set_option maxRecDepth 100000 in
set_option maxHeartbeats 8000000 in
theorem occurs_does {w : World} {p : SA} {q : SM} {tups rest : List (Addr × Obj)} {S : Sto} {tr : List Int} {vx vc : Value} {x c : Cell} (R : Rep tups q S tr := by assumption) (hs : Sub tups rest := by walk_at "MINE sub") (P : Apart p rest := by first | assumption | solve_by_elim) (W : S.WF := by assumption) (A : Acyc S := by assumption) (hsz : S.room ≤ 40 := by first | assumption | omega)
    (hvx : IsCell tups vx x := by assumption) (hvc : IsCell tups vc c := by assumption) (hx : S.get x = some x := by first | assumption | exact deref_unb (by assumption) (by assumption)) (ok : S.Ok c := by assumption) (hc : c.isVar = false := by assumption) :
   Does w 362 3 [.ref p.xS, vx, vc] (led w p q rest) (fun r news' => news' = led w p q rest ∧ ∃ b : Bool, r = .bool b ∧ (b = true → ∀ ρ, Sol S ρ → (den ρ x).size < (den ρ c).size) ∧
      (b = false → ∃ P, Closed S P ∧ (∀ y ∈ tgt c, P y) ∧ ¬ P x)) := by
  have P2 := P
  obtain ⟨o1, o2, o3, o4, off⟩ := P
  have hvx2 := hvx
  have hroom : S.H.length ≤ 40 := by unfold Sto.room at hsz; omega
  cases hvx
  case lis a' n t u hm => cases hx
  case int a' n t u hm => cases hx
  case srf a' n t u hm =>
    (w_top off; constructor; intro dp un gd cn cs a ccd cl outer A₀ base h₀ L mean mg mb m s Q E B F X N T hk hdp hun hret; refine wpAny_call ?_; k_dflt ktr_enter)
    k_steps
    · rename Deref S c _ => hD
      exfalso
      rename _ = Cell.srf n => e
      subst e
      have := hD.fun (.val hc)
      subst this
      cases hc
    · refine hret _ _ _ _ (by assumption) (by assumption) ⟨rfl, false, rfl, fun h => (nomatch h), fun _ => ⟨fun y => ∃ k, y = .ref k, ?_, fun y hy => ?_, fun h => (nomatch h)⟩⟩
      · rintro y d ⟨k, rfl⟩ hg _ z hz
        have := W.nosrf k d hg
        cases d with
        | ref j => exact ⟨j, List.mem_singleton.mp hz⟩
        | srf j => exact absurd rfl (this j)
        | lis j =>
          simp only [tgt, List.mem_cons, List.not_mem_nil, or_false] at hz
          rcases hz with rfl | rfl <;> exact ⟨_, rfl⟩
        | int j => cases hz
      · cases c with
        | ref _ => cases hc
        | srf _ => cases hc
        | lis j =>
          simp only [tgt, List.mem_cons, List.not_mem_nil, or_false] at hy
          rcases hy with rfl | rfl <;> exact ⟨_, rfl⟩
        | int j => cases hy
  case ref a' n t u hm =>
    (w_top off; constructor; intro dp un gd cn cs a ccd cl outer A₀ base h₀ L mean mg mb m s Q E B F X N T hk hdp hun hret; refine wpAny_call ?_; k_dflt ktr_enter)
    repeat' ((fail_if_success (with_reducible show wpAny _ _ (exec (Stmt.While _ _ _ _) _) _ _ _)); first | (k_unfold; (try dsimp only)) | (k_end; wrow_close) | walk1 | (dsimp only; walk1) | (leave1; walk_say "STEP leave1"; try dsimp only) | fail "no step")
    · rename Deref S c _ => hD
      exfalso
      rename _ = Cell.ref n => e
      subst e
      have := hD.fun (.val hc)
      subst this
      cases hc
    · rename_i aM g1 led' hset hz' l1 g2 aW g3 l2 g4 F' N'
      rename Deref S c _ => hD
      rename Cell.isLis _ = true => hlis
      have hdc := (hD.fun (.val hc)).symm
      subst hdc
      have hM : @LT.lt Nat _ p.aT aM := l1.2.2.2.2.1
      have hWM : @LT.lt Nat _ aM aW := l2.1
      have hW : @LT.lt Nat _ p.aT aW := Nat.lt_trans hM hWM
      have Pm := P2.add (ktn_ltOf l1.2.2.2.2.2)
      have off2 := (Pm.add (ktn_ltOf l2.2.2.2.2.2.2)).off
      have P3 : ∀ so, Apart p ((aM, so) :: rest) [aW] := fun so => (P2.add (ktn_ltOf l2.2.2.2.2.2.2)).cons hM fun b hb => by
        rw [List.mem_singleton.mp hb]; exact Nat.ne_of_lt hWM
      have hul := unmet_le S fun _ => false
      refine' while_do (occJ w p q tups rest S (.ref n) c (.ref a') aW aM) F' (News.front2 N') ⟨_, [_], _, _, [c], fun _ => false, rfl, rfl, rfl, rfl, rfl, hset, ⟨rfl, fun i d hi => ?_⟩, occ_start ok, by omega, by simp only [List.length_cons, List.length_nil]; omega, rfl⟩ ?turn (by first | passes_own | with_unfolding_all passes_own)
      · cases i with
        | zero => cases hi; exact ⟨_, rfl, by assumption⟩
        | succ i => cases hi
      clear F' N' hset hz' l1 l2 hul
      intro n₁ m₁ nx h₁ tk₁ F' N' hJ
      try k_fold
      obtain ⟨so, ws, nw, nM, cs, Sf, rfl, e1, e2, e3, e4, hset, hcs, I, hn, hb, rfl⟩ := hJ
      replace F' := fr_put4 F' e1 e2 e3 e4
      have P4 := P3 so
      rcases nil_or_last cs with rfl | ⟨cs', c', rfl⟩
      · obtain rfl : ws = [] := List.eq_nil_of_length_eq_zero hcs.1
        k_steps
        exact hret _ _ _ _ (by assumption) (News.less2 (by assumption)) ⟨rfl, false, rfl, fun h => (nomatch h), fun _ => occ_end I hx ⟨_, lis_of hlis⟩⟩
      · obtain ⟨ws', v', rfl, hcs', hv'⟩ := hcs.last
        obtain ⟨bv, _, _, rfl, _⟩ := id hv'.out
        have hok' := I.okc c' (by simp)
        have hlen : (ws' ++ [Value.ref bv]).length = ws'.length + 1 := by simp
        have hwl : ws'.length ≤ 200 := by
          have := hcs'.1
          simp only [List.length_append, List.length_cons, List.length_nil] at hb
          omega
        k_steps
        · rename Deref S c' _ => hD
          rename _ = Cell.ref n => e
          subst e
          exact hret _ _ _ _ (by assumption) (News.less2 (by assumption)) ⟨rfl, true, rfl, fun _ => occ_found I hx hc hD, fun h => (nomatch h)⟩
        · rename Deref S c' _ => hD
          rename Sf _ = true => hm'
          refine WEnd.intro (by assumption) (by assumption) ?_ ⟨so, ws', nw + 1, nM, cs', Sf, rfl, rfl, rfl, rfl, rfl, hset, hcs', occ_skip I hD (by assumption) (fun a e => by rw [e] at hm'; exact hm'), hn, ?_, rfl⟩
          · simp only [List.length_append, List.length_cons, List.length_nil]; omega
          · simp only [List.length_append, List.length_cons, List.length_nil] at hb; omega
        · rename Deref S c' _ => hD
          rename Cell.isLis _ = true => hl
          rename Sf _ = false => hm'
          rename Obj.SetObjOf _ _ _ _ => hs'
          rename_i h0' h1' i0' i1' N9
          have hD2 := hD
          rw [lis_of hl] at hD2
          rw [hm'] at hs'
          simp only [Bool.false_eq_true, if_false] at hs'
          have hu := unmet_lt (List.getElem?_eq_some_iff.mp h0').1 hm'
          refine WEnd.intro (by assumption) (by assumption) ?_ ⟨_, _, _, nM + 1, _, _, rfl, rfl, rfl, rfl, rfl, hs', (hcs'.push i1').push i0', occ_push W I hD2 hx h0' h1', by omega, ?_, rfl⟩
          · simp only [List.length_append, List.length_cons, List.length_nil]; omega
          · simp only [List.length_append, List.length_cons, List.length_nil] at hb ⊢; omega
        · rename Deref S c' _ => hD
          rename Cell.isLis _ = false => hl
          refine WEnd.intro (by assumption) (by assumption) ?_ ⟨so, ws', nw + 1, nM, cs', Sf, rfl, rfl, rfl, rfl, rfl, hset, hcs', occ_skip I hD (by assumption) (fun a e => by rw [e] at hl; cases hl), hn, ?_, rfl⟩
          · simp only [List.length_append, List.length_cons, List.length_nil]; omega
          · simp only [List.length_append, List.length_cons, List.length_nil] at hb; omega
    · rename Deref S c _ => hD
      rename Cell.isLis _ = false => hlis
      have hdc := (hD.fun (.val hc)).symm
      subst hdc
      refine hret _ _ _ _ (by assumption) (by assumption) ⟨rfl, false, rfl, fun h => (nomatch h), fun _ => ⟨fun _ => False, fun _ _ h => h.elim, fun y hy => ?_, fun h => h⟩⟩
      cases c with
      | ref _ => cases hc
      | srf _ => cases hc
      | lis _ => cases hlis
      | int _ => cases hy
end occ
section check
local macro_rules | `(tactic| walk_at "MINE pad") => `(tactic| skip)
local macro_rules | `(tactic| walk_at "call ref") => `(tactic| (k_here; k_dflt (first | ((with_reducible show wpAny _ _ (call (Value.ref 362) _) _ _ _); refine' Does.useK (D := occurs_does) (k := pk_occ) (ret := ?_)) | ((with_reducible show wpAny _ _ (call (Value.ref 139) _) _ _ _); refine' Does.useK (D := bind_does) (k := pk_bind) (ret := ?_))); walk_at "MINE ret"))
set_option maxRecDepth 100000 in
set_option maxHeartbeats 8000000 in
theorem check_does {w : World} {p : SA} {q : SM} {tups rest : List (Addr × Obj)} {S : Sto} {tr : List Int} {vx vc : Value} {x c : Cell} (R : Rep tups q S tr := by assumption) (hs : Sub tups rest := by walk_at "MINE sub") (P : Apart p rest := by first | assumption | solve_by_elim) (W : S.WF := by assumption) (A : Acyc S := by assumption) (hsz : S.room ≤ 40 := by first | assumption | omega) (htr : tr.length < 1000 := by first | assumption | omega)
    (hvx : IsCell tups vx x := by assumption) (hvc : IsCell tups vc c := by assumption) (hx : S.get x = some x := by first | assumption | exact deref_unb (by assumption) (by assumption)) (ok : S.Ok c := by assumption) (hc : c.isVar = false := by assumption) :
   Does w 348 4 [.ref p.xS, vx, vc, .bool true] (led w p q rest) (fun r news' => (r = .bool false ∧ news' = led w p q rest ∧ ∀ ρ, Sol S ρ → (den ρ x).size < (den ρ c).size) ∨
      (r = .bool true ∧ ∃ q' tr', news' = led w p q' rest ∧ Rep tups q' (S.set x c) tr' ∧ Moved q q' S (S.set x c) tr tr' ∧ (S.set x c).WF ∧ Acyc (S.set x c))) := by
  have hcx : c ≠ x := fun e => by subst e; rw [get_var hx] at hc; cases hc
  have hns : ∀ k, c ≠ .srf k := fun k e => by subst e; cases hc
  obtain ⟨bx, _, _, rfl, _⟩ := id hvx.out
  obtain ⟨bc, _, _, rfl, _⟩ := id hvc.out
  (w_top off; constructor; intro dp un gd cn cs a ccd cl outer A₀ base h₀ L mean mg mb m s Q E B F X N T hk hdp hun hret; refine wpAny_call ?_; k_dflt ktr_enter)
  k_steps
  · rename _ = true → ∀ ρ, Sol S ρ → _ => hT
    rename _ = true => hb
    exact hret _ _ _ _ (by assumption) (by assumption) (.inl ⟨rfl, rfl, hT hb⟩)
  · rename _ = false → ∃ P, Closed S P ∧ _ => hF
    rename _ = false => hb
    obtain ⟨C, h1, h2, h3⟩ := hF hb
    exact hret _ _ _ _ (by assumption) (by assumption) (.inr ⟨rfl, _, _, rfl, by assumption, by assumption, wf_set W hx ok (.inr hns), acyc_set W A hx ok (.inr hns) h1 h2 h3⟩)
theorem pk_check {v v' : Value} {P P' P'' : Prop} {nn : List (Addr × Obj)} {NN : SM → List (Addr × Obj)} {P2 P3 : SM → List Int → Prop} : Kof (fun r n' => (r = v ∧ n' = nn ∧ P) ∨ (r = v' ∧ ∃ q' tr', n' = NN q' ∧ P2 q' tr' ∧ P3 q' tr' ∧ P' ∧ P''))
    (fun Z => (P → Z v nn) ∧ (∀ q' tr', P2 q' tr' → P3 q' tr' → P' → P'' → Z v' (NN q'))) := by
  rintro Z ⟨h, h'⟩ r _ (⟨rfl, rfl, h1⟩ | ⟨rfl, q', tr', rfl, h1, h2, h3, h4⟩)
  · exact h h1
  · exact h' q' tr' h1 h2 h3 h4
end check
section unify
theorem deref_unb {S : Sto} {c d : Cell} (h : Deref S c d) (k : d.isVar = true) : S.get d = some d := by
  rcases h.end_ with e | e
  · rw [k] at e; cases e
  · exact e
theorem num_small {S : Sto} {c : Cell} (ok : S.Ok c) (h : c.isLis = true) (hz : S.room ≤ 40) : c.num < 100 := by
  have e := lis_of h
  rw [e] at ok
  obtain ⟨c0, c1, h0, _⟩ := lis_ok ok
  have := (List.getElem?_eq_some_iff.mp h0).1
  unfold Sto.room at hz
  omega
local macro_rules | `(tactic| walk_at "call ref") => `(tactic| (k_here; (with_reducible show wpAny _ _ (call (Value.ref 302) _) _ _ _); k_dflt (
  (refine' call_cls ?k1 ?k2 ?k3 ?k4 ?k5 ?k6 ?_; (case k1 => k_asm); (case k2 => k_asm); (case k3 => k_asm); (case k4 => k_is); (case k5 => k_is); (case k6 => k_is); k_whole; intro x' d' h' F' N' l1 l2; (try k_lt l1); (try k_lt2 l2); (try k_sweep);
   refine' code_def ?k1 ?k2 ?k3 ?k4 ?k5 ?kA ?kF ?kK ?k6 ?k7 ?k8 ?k9 ?kB ?_ ?c2 ?c3 ?c4 ?c5; (case kA => exact rfl); (case kF => exact rfl); (case kK => first | assumption | exact rfl); (case k1 => k_asm); (case k2 => k_asm); (case k3 => k_asm); (case k4 => k_asm); (case k5 => k_asm); (case k6 => k_is); (case k7 => k_is); (case k8 => ((try simp only [depth_under_make, depth_under_kw, depth_in1, depth_deeper, depth_caller] at *); (try dsimp only [ktrTop] at *); omega)); (case k9 => exact BindsTo.of_eq rfl); (case c5 => decide); (case kB => exact locs rfl); (case c2 => exact rfl); (case c3 => exact rfl); (case c4 => exact rfl); k_whole; intro g' L' h' FG' F' N' B' X' T'; (try dsimp only); (try k_fold)))))
local macro_rules | `(tactic| walk_at "call ref") => `(tactic| (k_here; k_dflt (first | ((with_reducible show wpAny _ _ (call (Value.ref 125) _) _ _ _); refine' Does.useK (D := deref_does) (k := pk_cell) (ret := ?_)) | ((with_reducible show wpAny _ _ (call (Value.ref 334) _) _ _ _); refine' Does.useK (D := isvar_does) (k := pk_val) (ret := ?_)) | ((with_reducible show wpAny _ _ (call (Value.ref 181) _) _ _ _); refine' Does.useK (D := iscomp_does) (k := pk_val) (ret := ?_)) | ((with_reducible show wpAny _ _ (call (Value.ref 327) _) _ _ _); refine' Does.useK (D := shape_does) (k := pk_val) (ret := ?_)) | ((with_reducible show wpAny _ _ (call (Value.ref 146) _) _ _ _); refine' Does.useK (D := bindpair_does) (k := pk_bindpair) (ret := ?_)) | ((with_reducible show wpAny _ _ (call (Value.ref 320) _) _ _ _); refine' Does.useK (D := pushpairs_lis) (k := pk_pairs) (ret := ?_))); walk_at "MINE ret"))
local macro_rules | `(tactic| walk_at "call ref") => `(tactic| (k_here; k_dflt (first | ((with_reducible show wpAny _ _ (call (Value.ref 348) _) _ _ _); refine' Does.useK (D := check_does) (k := pk_check) (ret := ?_)) | ((with_reducible show wpAny _ _ (call (Value.ref 299) _) _ _ _); refine' Does.useK (D := add_does) (k := pk_add) (ret := ?_))); walk_at "MINE ret2"))
/-- the work list holds pairs of cells -/
def ArePairs (R tups : List (Addr × Obj)) (ws : List Value) (es : List (Cell × Cell)) : Prop :=
  ws.length = es.length ∧ ∀ (i : Nat) (e : Cell × Cell), es[i]? = some e → ∃ t a b, ws[i]? = some (.ref t) ∧ (t, pairO (.ref a) (.ref b)) ∈ R ∧ IsCell tups (.ref a) e.1 ∧ IsCell tups (.ref b) e.2
theorem ArePairs.mono {R R' tups : List (Addr × Obj)} {ws : List Value} {es : List (Cell × Cell)} (h : Sub R R') (k : ArePairs R tups ws es) : ArePairs R' tups ws es :=
  ⟨k.1, fun i e he => let ⟨t, a, b, h1, h2, h3⟩ := k.2 i e he; ⟨t, a, b, h1, h _ h2, h3⟩⟩
theorem ArePairs.push {R tups : List (Addr × Obj)} {ws : List Value} {es : List (Cell × Cell)} (k : ArePairs R tups ws es) {t : Addr} {u v : Value} {l r : Cell} (hm : (t, pairO u v) ∈ R) (hl : IsCell tups u l) (hr : IsCell tups v r) :
    ArePairs R tups (ws ++ [.ref t]) (es ++ [(l, r)]) := by
  refine ⟨by simp [k.1], fun i d hi => ?_⟩
  by_cases hl' : i < es.length
  · rw [List.getElem?_append_left hl'] at hi
    obtain ⟨t', a, b, h1, h2⟩ := k.2 i d hi
    exact ⟨t', a, b, by rw [List.getElem?_append_left (by rw [k.1]; exact hl')]; exact h1, h2⟩
  · have hi0 : i = es.length := by
      rw [List.getElem?_append_right (by omega)] at hi
      have := (List.getElem?_eq_some_iff.mp hi).1
      simp at this; omega
    subst hi0
    simp at hi
    subst hi
    obtain ⟨a, _, _, rfl, _⟩ := id hl.out
    obtain ⟨b, _, _, rfl, _⟩ := id hr.out
    exact ⟨t, a, b, by rw [← k.1]; simp, hm, hl, hr⟩
theorem ArePairs.last {R tups : List (Addr × Obj)} {ws : List Value} {es : List (Cell × Cell)} {l r : Cell} (k : ArePairs R tups ws (es ++ [(l, r)])) :
    ∃ us t a b, ws = us ++ [.ref t] ∧ ArePairs R tups us es ∧ (t, pairO (.ref a) (.ref b)) ∈ R ∧ IsCell tups (.ref a) l ∧ IsCell tups (.ref b) r := by
  obtain ⟨t, a, b, hv, hi⟩ := k.2 es.length (l, r) (by simp)
  have hl : ws.length = es.length + 1 := by rw [k.1]; simp
  have hne : ws ≠ [] := fun e => by rw [e] at hl; cases hl
  have he := (List.dropLast_concat_getLast hne).symm
  have hg : ws.getLast hne = .ref t := by
    rw [List.getLast_eq_getElem]
    have h2 : ws.length - 1 = es.length := by omega
    have h3 := (List.getElem?_eq_some_iff.mp hv).2
    simp only [h2]; exact h3
  rw [hg] at he
  refine ⟨ws.dropLast, t, a, b, he, ⟨by simp [hl], fun i d hd => ?_⟩, hi⟩
  have hi' : i < es.length := (List.getElem?_eq_some_iff.mp hd).1
  obtain ⟨t', a', b', h1, h2⟩ := k.2 i d (by rw [List.getElem?_append_left hi']; exact hd)
  refine ⟨t', a', b', ?_, h2⟩
  rw [he, List.getElem?_append_left (by simp [hl]; exact hi')] at h1
  exact h1
theorem uni_perm {h₀ h : Heap} {L : Addr} {w : World} {p : SA} {q : SM} {e1 e2 e3 e4 e5 : Addr × Obj} {r : List (Addr × Obj)} (N : News h₀ L h (e1 :: e2 :: e3 :: e4 :: e5 :: led w p q r)) : News h₀ L h (led w p q (e1 :: e4 :: e5 :: e3 :: e2 :: r)) := N.perm (by walk_at "MINE perm")
theorem uni_perm2 {h₀ h : Heap} {L : Addr} {w : World} {p : SA} {q : SM} {t0 t1 e1 e2 e3 e4 : Addr × Obj} {r : List (Addr × Obj)} (N : News h₀ L h (t0 :: t1 :: led w p q (e1 :: e2 :: e3 :: e4 :: r))) : News h₀ L h (led w p q (e1 :: e2 :: e3 :: e4 :: t0 :: t1 :: r)) := N.perm (by walk_at "MINE perm")
theorem uni_less {h₀ h : Heap} {L : Addr} {w : World} {p : SA} {q : SM} {e1 e2 e3 e4 : Addr × Obj} {r r' : List (Addr × Obj)} (hs : Sub r' r) (N : News h₀ L h (led w p q (e1 :: e2 :: e3 :: e4 :: r))) : News h₀ L h (led w p q r') := fun e he => N e (by
  simp only [List.mem_cons] at he ⊢
  rcases he with h | h | h | h | h | h
  · exact .inl h
  · exact .inr (.inl h)
  · exact .inr (.inr (.inl h))
  · exact .inr (.inr (.inr (.inl h)))
  · exact .inr (.inr (.inr (.inr (.inl h))))
  · exact .inr (.inr (.inr (.inr (.inr (.inr (.inr (.inr (.inr (hs _ h))))))))))
inductive uniJ (w : World) (p : SA) (q : SM) (tups rest : List (Addr × Obj)) (S₀ : Sto) (tr₀ : List Int) (c d : Cell) (aW xP dP aM : Addr) (span NN : Nat) (n : Nat) (m : Str → Option Value) (nx : List (Addr × Obj)) : Prop where
  | mk : ∀ q' S tr R so ws nw nM es Sf k0 k1 ts sp nP, nx = led w p q' ((aW, listOf ws.toArray nw) :: (xP, instObj 302 dP) :: (dP, dictOf (pEnts w k0 k1 sp ts aM) nP) :: (aM, so) :: R) → sp = (span : Int) → m (Str.ofString "store") = some (.ref p.xS) → m (Str.ofString "met") = some (.ref xP) → m (Str.ofString "work") = some (.ref aW) → m (Str.ofString "occurs") = some (.bool true) → Sub rest R → Apart p R [aW, aM] → so.SetObjOf (PySem.intKind PySem.Challenge.rw_rr0022_01.row.prog w) Sf nM → ArePairs R tups ws es → Rep tups q' S tr → Moved q q' S₀ S tr₀ tr → UInv S₀ c d S es span Sf → nM + unmet2 S₀.H.length span Sf ≤ NN → es.length + 2 * unmet2 S₀.H.length span Sf ≤ 1 + 2 * NN → n = es.length + 2 * unmet2 S₀.H.length span Sf → uniJ w p q tups rest S₀ tr₀ c d aW xP dP aM span NN n m nx
set_option maxRecDepth 100000 in
set_option maxHeartbeats 8000000 in
theorem unify_does {w : World} {p : SA} {q : SM} {tups rest : List (Addr × Obj)} {S : Sto} {tr : List Int} {v1 v2 : Value} {c d : Cell} (R : Rep tups q S tr := by assumption) (hs : Sub tups rest := by walk_at "MINE sub") (P : Apart p rest := by first | assumption | solve_by_elim) (W : S.WF := by assumption) (A : Acyc S := by assumption) (hsz : S.room ≤ 40 := by first | assumption | omega) (htr : tr.length < 500 := by first | assumption | omega)
    (hv1 : IsCell tups v1 c := by assumption) (hv2 : IsCell tups v2 d := by assumption) (okc : S.Ok c := by assumption) (okd : S.Ok d := by assumption) :
   Does w 341 8 [.ref p.xS, v1, v2, .bool true] (led w p q rest) (fun r news' => ∃ q' S' tr' b, r = .bool b ∧ news' = led w p q' rest ∧ Rep tups q' S' tr' ∧ Moved q q' S S' tr tr' ∧ (b = true ↔ Unif S c d)) := by
  have P2 := P
  obtain ⟨o1, o2, o3, o4, off⟩ := P
  have hlh := R.h.1
  have hroom : S.H.length ≤ 40 := by unfold Sto.room at hsz; omega
  (w_top off; constructor; intro dp un gd cn cs a ccd cl outer A₀ base h₀ L mean mg mb m s Q E B F X N T hk hdp hun hret; refine wpAny_call ?_; k_dflt ktr_enter)
  repeat' ((fail_if_success (with_reducible show wpAny _ _ (exec (Stmt.While _ _ _ _) _) _ _ _)); first | (k_unfold; (try dsimp only)) | (k_end; wrow_close) | walk1 | (dsimp only; walk1) | (leave1; walk_say "STEP leave1"; try dsimp only) | fail "no step")
  rename_i xP dP j1 l1 l2 j2 j3 j4 j5 j6 j7 tkA j8 tkB aM j9 ld hset hz l3 j10 j11 j12 j13 j14 j15 tkC aD j16 l4 aW j17 l5 j18 F' N'
  obtain ⟨b1, _, _, rfl, _⟩ := id hv1.out
  obtain ⟨b2, _, _, rfl, _⟩ := id hv2.out
  have hdP : @LT.lt Nat _ p.aT dP := l1.2.2.2.2.1
  have hxP : @LT.lt Nat _ dP xP := l2
  have hM : @LT.lt Nat _ xP aM := l3.1
  have hMW : @LT.lt Nat _ aM aW := l5.2.1
  have hW : @LT.lt Nat _ p.aT aW := l5.2.2.2.2.2.2.2.2.1
  have hDW : @LT.lt Nat _ aD aW := l5.1
  have hMD : @LT.lt Nat _ aM aD := l4.1
  have hTD : @LT.lt Nat _ p.aT aD := by omega
  have PR : Apart p ((aD, pairO (.ref b1) (.ref b2)) :: rest) [aW, aM] := ((P2.add (ktn_ltOf l3.2.2.2.2.2.2.2)).add (ktn_ltOf l5.2.2.2.2.2.2.2.2.2)).cons hTD (by
    intro b hb
    simp only [List.mem_cons, List.not_mem_nil, or_false] at hb
    rcases hb with rfl | rfl
    · exact Nat.ne_of_lt hDW
    · exact Nat.ne_of_gt hMD)
  have hul := unmet2_le S.H.length (S.H.length + 1) fun _ => false
  have hNN : S.H.length * S.H.length ≤ 1600 := Nat.mul_le_mul hroom hroom
  refine' while_do (uniJ w p q tups rest S tr c d aW xP dP aM (S.H.length + 1) (S.H.length * S.H.length)) F' (uni_perm N') ⟨q, S, tr, _, _, [.ref aD], _, _, [(c, d)], fun _ => false, _, _, _, _, _, rfl, by rw [hlh]; omega, rfl, rfl, rfl, rfl, fun e he => .tail _ he, PR, hset, ⟨rfl, fun i e hi => ?_⟩, R, .refl q S tr, uni_start W A okc okd _, ?_, ?_, rfl⟩ ?turn (by first | passes_own | with_unfolding_all passes_own)
  · cases i with
    | zero => cases hi; exact ⟨aD, b1, b2, rfl, .head _, hv1, hv2⟩
    | succ i => cases hi
  · omega
  · simp only [List.length_cons, List.length_nil]; omega
  clear F' N' hset hz l1 l2 l3 l4 l5 hul PR j11 j12
  generalize hNNe : S.H.length * S.H.length = NN at hNN ⊢
  intro n₁ m₁ nx h₁ tk₁ F' N' hJ
  try k_fold
  obtain ⟨q', S', tr', R', so, ws, nw, nM, es, Sf, k0, k1, ts, sp, nP, rfl, hsp, e1, e2, e3, e4, hsR, PR, hset, hws, Rq, hMv, I, hn, hb, rfl⟩ := hJ
  replace F' := fr_put4 F' e1 e2 e3 e4
  have Wf := I.wf
  have Ac := I.ac
  have hS : S'.room ≤ 40 := by rw [I.ext.room]; exact hsz
  have hfr := free_le S
  have hmv := hMv.room
  have htr' : tr'.length < 600 := by omega
  have hST : Sub tups R' := fun e he => hsR _ (hs _ he)
  have PW : ∀ o1 o2 o3 o4, Apart p ((aW, o1) :: (xP, o2) :: (dP, o3) :: (aM, o4) :: R') [] := by
    intro o1 o2 o3 o4
    have h0 : Apart p R' [] := PR.less (fun _ h => h) (by intro b hb; cases hb)
    have h4 : Apart p ((aM, o4) :: R') [] := h0.cons (by omega) (by intro b hb; cases hb)
    have h3 : Apart p ((dP, o3) :: (aM, o4) :: R') [] := h4.cons (by omega) (by intro b hb; cases hb)
    have h2 : Apart p ((xP, o2) :: (dP, o3) :: (aM, o4) :: R') [] := h3.cons (by omega) (by intro b hb; cases hb)
    exact h2.cons (by omega) (by intro b hb; cases hb)
  have PM : Apart p R' [aM] := PR.less (fun _ h => h) fun b hb => .tail _ hb
  have PP : ∀ o2 o3 o4, Apart p ((xP, o2) :: (dP, o3) :: (aM, o4) :: R') [aW] := by
    intro o2 o3 o4
    have h0 : Apart p R' [aW] := PR.less (fun _ h => h) fun b hb => by rw [List.mem_singleton.mp hb]; exact .head _
    refine Apart.cons (Apart.cons (Apart.cons h0 ?_ ?_) ?_ ?_) ?_ ?_
    · omega
    · intro b hb; rw [List.mem_singleton.mp hb]; exact neN (by omega)
    · omega
    · intro b hb; rw [List.mem_singleton.mp hb]; exact neN (by omega)
    · omega
    · intro b hb; rw [List.mem_singleton.mp hb]; exact neN (by omega)
  have offR := PR.off
  have hspb : 0 ≤ sp ∧ sp ≤ 100 := by omega
  rcases nil_or_last es with rfl | ⟨es', ⟨l, r⟩, rfl⟩
  · obtain rfl : ws = [] := List.eq_nil_of_length_eq_zero hws.1
    k_steps
    exact hret _ _ _ _ (by assumption) (uni_less hsR (by assumption)) ⟨q', S', tr', true, rfl, rfl, Rq, hMv, fun _ => uni_end I, fun _ => rfl⟩
  · obtain ⟨ws', t, b1', b2', rfl, hws', hmt, hcl, hcr⟩ := hws.last
    obtain ⟨okl, okr⟩ := I.ok (l, r) (by simp)
    have hlen : (ws' ++ [Value.ref t]).length = ws'.length + 1 := by simp
    have hwl : ws'.length ≤ 4000 := by
      have := hws'.1
      simp only [List.length_append, List.length_cons, List.length_nil] at hb
      omega
    have hm0 : es'.length + 2 * unmet2 S.H.length (S.H.length + 1) Sf < (es' ++ [(l, r)]).length + 2 * unmet2 S.H.length (S.H.length + 1) Sf := by
      simp only [List.length_append, List.length_cons, List.length_nil]; omega
    have hb0 : es'.length + 2 * unmet2 S.H.length (S.H.length + 1) Sf ≤ 1 + 2 * NN := by
      simp only [List.length_append, List.length_cons, List.length_nil] at hb; omega
    k_steps
    · rename Deref S' l _ => hDl
      rename Deref S' r _ => hDr
      rename_i e
      subst e
      exact WEnd.intro (by assumption) (by assumption) hm0 ⟨q', S', tr', R', so, ws', nw + 1, nM, es', Sf, k0, k1, ts, sp, nP, rfl, hsp, rfl, rfl, rfl, rfl, hsR, PR, hset, hws', Rq, hMv, uni_eq I hDl hDr, hn, hb0, rfl⟩
    · rename Deref S' l _ => hDl
      rename Deref S' r _ => hDr
      rename_i q2 tr2 x' y' hxy hns hR2 hM2 N2
      have hg : S'.get x' = some x' ∧ S'.get y' = some y' ∧ x' ≠ y' := by
        have hv1 := deref_unb hDl (by assumption)
        have hv2 := deref_unb hDr (by assumption)
        rcases hxy with ⟨rfl, rfl⟩ | ⟨rfl, rfl⟩
        · exact ⟨hv1, hv2, by assumption⟩
        · exact ⟨hv2, hv1, fun e => absurd e.symm (by assumption)⟩
      obtain ⟨hW2, hA2⟩ := bindvar_ok Wf Ac hg.1 hg.2.1 hg.2.2 hns
      exact WEnd.intro (by assumption) (by assumption) hm0 ⟨q2, _, tr2, R', so, ws', nw + 1, nM, es', Sf, k0, k1, ts, sp, nP, rfl, hsp, rfl, rfl, rfl, rfl, hsR, PR, hset, hws', hR2, hMv.trans hM2, uni_bind I hDl hDr hxy hg.1 hW2 hA2, hn, hb0, rfl⟩
    · rename Deref S' l _ => hDl
      rename Deref S' r _ => hDr
      rename ∀ ρ, Sol S' ρ → _ => hz
      exact hret _ _ _ _ (by assumption) (uni_less hsR (by assumption)) ⟨q', S', tr', false, rfl, rfl, Rq, hMv, fun h => (nomatch h), fun h => absurd h (uni_fail I hDl hDr fun ρ hρ e => by have := hz ρ hρ; rw [e] at this; omega)⟩
    · rename Deref S' l _ => hDl
      rename Deref S' r _ => hDr
      rename_i q2 tr2 hR2 hM2 hW2 hA2 N2
      exact WEnd.intro (by assumption) (by assumption) hm0 ⟨q2, _, tr2, R', so, ws', nw + 1, nM, es', Sf, k0, k1, ts, sp, nP, rfl, hsp, rfl, rfl, rfl, rfl, hsR, PR, hset, hws', hR2, hMv.trans hM2, uni_bind I hDl hDr (.inl ⟨rfl, rfl⟩) (deref_unb hDl (by assumption)) hW2 hA2, hn, hb0, rfl⟩
    · rename Deref S' l _ => hDl
      rename Deref S' r _ => hDr
      rename ∀ ρ, Sol S' ρ → _ => hz
      exact hret _ _ _ _ (by assumption) (uni_less hsR (by assumption)) ⟨q', S', tr', false, rfl, rfl, Rq, hMv, fun h => (nomatch h), fun h => absurd h (uni_fail I hDl hDr fun ρ hρ e => by have := hz ρ hρ; rw [e] at this; omega)⟩
    · rename Deref S' l _ => hDl
      rename Deref S' r _ => hDr
      rename_i q2 tr2 hR2 hM2 hW2 hA2 N2
      exact WEnd.intro (by assumption) (by assumption) hm0 ⟨q2, _, tr2, R', so, ws', nw + 1, nM, es', Sf, k0, k1, ts, sp, nP, rfl, hsp, rfl, rfl, rfl, rfl, hsR, PR, hset, hws', hR2, hMv.trans hM2, uni_bind I hDl hDr (.inr ⟨rfl, rfl⟩) (deref_unb hDr (by assumption)) hW2 hA2, hn, hb0, rfl⟩
    · rename Deref S' l _ => hDl
      rename Deref S' r _ => hDr
      rename_i hl1 g1 t1 qq1 ee1 hl2 g2 t2 F2 hf N2
      have hok2 := hDr.ok Wf okr
      have hlt2 := num_lt hok2 hl2
      rw [I.ext.hl] at hlt2
      rw [hsp] at hf
      rw [lis_of hl1] at hDl
      rw [lis_of hl2] at hDr
      exact WEnd.intro (by assumption) (by assumption) hm0 ⟨q', S', tr', R', so, ws', nw + 1, nM, es', Sf, k0, k1, ts, sp, nP, rfl, hsp, rfl, rfl, rfl, rfl, hsR, PR, hset, hws', Rq, hMv, uni_met I hDl hDr (by omega) hf, hn, hb0, rfl⟩
    · rename Deref S' l _ => hDl
      rename Deref S' r _ => hDr
      rename_i hl1 gg1 tt1 qq1 ee1 hl2 gg2 tt2 hf so2 hset2 qq2 ee2 rr gg3 tt3 F2 a0 a1 b0 b1 u0 u1 v0 v1 t0 t1 nw2 g0 g1 g2 g3 i0 i1 i2 i3 ho N2
      have hlt1 := num_lt (hDl.ok Wf okl) hl1
      have hlt2 := num_lt (hDr.ok Wf okr) hl2
      rw [I.ext.hl] at hlt1 hlt2
      subst hsp
      rw [lis_of hl1] at hDl
      rw [lis_of hl2] at hDr
      have hu := unmet2_lt hlt1 hlt2 hf
      have ht0 : @LT.lt Nat _ aW t0 ∧ @LT.lt Nat _ aW t1 := ho (aW, _) (.tail _ (.tail _ (.tail _ (.tail _ (.tail _ (.head _))))))
      have ht1 : @LT.lt Nat _ aM t0 ∧ @LT.lt Nat _ aM t1 := ho (aM, _) (.tail _ (.tail _ (.tail _ (.tail _ (.tail _ (.tail _ (.tail _ (.tail _ (.head _)))))))))
      have PR2 : Apart p ((t0, pairO u0 v0) :: (t1, pairO u1 v1) :: R') [aW, aM] := (PR.cons (by omega) (by
          intro b hb
          simp only [List.mem_cons, List.not_mem_nil, or_false] at hb
          rcases hb with rfl | rfl
          · exact Nat.ne_of_gt ht0.2
          · exact Nat.ne_of_gt ht1.2)).cons (by omega) (by
          intro b hb
          simp only [List.mem_cons, List.not_mem_nil, or_false] at hb
          rcases hb with rfl | rfl
          · exact Nat.ne_of_gt ht0.1
          · exact Nat.ne_of_gt ht1.1)
      have hws2 := ((ArePairs.mono (R' := (t0, pairO u0 v0) :: (t1, pairO u1 v1) :: R') (fun e he => .tail _ (.tail _ he)) hws').push (.tail _ (.head _)) i1 i3).push (.head _) i0 i2
      refine WEnd.intro (by assumption) (uni_perm2 (by assumption)) ?_ ⟨q', S', tr', _, so2, _, nw2, nM + 1, _, _, k0, k1, ts, _, nP, rfl, rfl, rfl, rfl, rfl, rfl, fun e he => .tail _ (.tail _ (hsR _ he)), PR2, hset2, hws2, Rq, hMv, uni_push I hDl hDr (by omega) g0 g1 g2 g3, by omega, ?_, rfl⟩
      · simp only [List.length_append, List.length_cons, List.length_nil]; omega
      · simp only [List.length_append, List.length_cons, List.length_nil] at hb ⊢; omega
    · rename Deref S' l _ => hDl
      rename Deref S' r _ => hDr
      exact hret _ _ _ _ (by assumption) (uni_less hsR (by assumption)) ⟨q', S', tr', false, rfl, rfl, Rq, hMv, fun h => (nomatch h), fun h => absurd h (uni_fail I hDl hDr fun ρ _ => clash (by assumption) (by assumption) (by assumption) (.inr (by assumption)) ρ)⟩
    · rename Deref S' l _ => hDl
      rename Deref S' r _ => hDr
      exact hret _ _ _ _ (by assumption) (uni_less hsR (by assumption)) ⟨q', S', tr', false, rfl, rfl, Rq, hMv, fun h => (nomatch h), fun h => absurd h (uni_fail I hDl hDr fun ρ _ => clash (by assumption) (by assumption) (by assumption) (.inl (by assumption)) ρ)⟩
end unify
section undo
theorem ints_last {vs : List Value} {ns : List Int} {i : Int} (h : IntsAre vs (ns ++ [i])) : ∃ ws t, vs = ws ++ [.int i t] ∧ IntsAre ws ns := by
  induction ns generalizing vs with
  | nil =>
    cases h with
    | cons a b k => cases k; exact ⟨[], b, rfl, .nil⟩
  | cons n ns ih =>
    cases h with
    | cons a b k =>
      obtain ⟨ws, t, rfl, hw⟩ := ih k
      exact ⟨.int n b :: ws, t, rfl, .cons n b hw⟩
theorem undo_snoc (S : Sto) (l : List Int) (e : Int) : undo S (l ++ [e]) = undo (S.set (varOf e) (varOf e)) l := by simp [undo]
/-- the new addresses lie over all that stood before -/
def Fresh (tl old : List (Addr × Obj)) : Prop := ∀ e ∈ tl, ∀ x ∈ old, @LT.lt Nat _ x.1 e.1
theorem Apart.fresh {w : World} {p : SA} {q : SM} {tl rest : List (Addr × Obj)} {more : List Addr} (P : Apart p rest more) (hfr : Fresh tl (led w p q rest)) (hm : ∀ b ∈ more, ∃ o, (b, o) ∈ rest ∨ (b, o) ∈ led w p q rest := by intro b hb; cases hb) : Apart p (tl ++ rest) more := by
  refine ⟨P.o1, P.o2, P.o3, P.o4, fun e he b hb => ?_⟩
  rcases List.mem_append.mp he with he | he
  · have h0 : ∀ x ∈ led w p q rest, x.1 ≠ e.1 := fun x hx => Nat.ne_of_lt (hfr e he x hx)
    have h1 := h0 _ (.head _)
    have h2 := h0 _ (.tail _ (.head _))
    have h3 := h0 _ (.tail _ (.tail _ (.head _)))
    have h4 := h0 _ (.tail _ (.tail _ (.tail _ (.head _))))
    have h5 := h0 _ (.tail _ (.tail _ (.tail _ (.tail _ (.head _)))))
    simp only [List.mem_cons] at hb
    rcases hb with rfl | rfl | rfl | rfl | rfl | hb
    · exact h1.symm
    · exact h2.symm
    · exact h3.symm
    · exact h4.symm
    · exact h5.symm
    · obtain ⟨o, ho | ho⟩ := hm b hb
      · exact (h0 (b, o) (.tail _ (.tail _ (.tail _ (.tail _ (.tail _ ho)))))).symm
      · exact (h0 (b, o) ho).symm
  · exact P.off e he b hb
inductive undoJ (w : World) (p : SA) (q : SM) (tups rest : List (Addr × Obj)) (S : Sto) (tr log : List Int) (tm : Tok) (n : Nat) (m : Str → Option Value) (nx : List (Addr × Obj)) : Prop where
  | mk : ∀ q' S' log' tl, nx = led w p q' (tl ++ rest) → m (Str.ofString "self") = some (.ref p.xS) → m (Str.ofString "mark") = some (.int (tr.length : Int) tm) → Rep (tl ++ tups) q' S' (tr ++ log') → undo S' log' = undo S log → q'.hb = q.hb → q'.bb = q.bb → S'.H.length = S.H.length → S'.K.length = S.K.length → (∀ e ∈ log', (S'.get (varOf e)).isSome = true) → log'.length ≤ log.length → Fresh tl (led w p q rest) → n = log'.length → undoJ w p q tups rest S tr log tm n m nx
set_option maxRecDepth 100000 in
set_option maxHeartbeats 8000000 in
theorem undo_does {w : World} {p : SA} {q : SM} {tups rest : List (Addr × Obj)} {S : Sto} {tr log : List Int} {tm : Tok} (R : Rep tups q S (tr ++ log)) (hs : Sub tups rest) (P : Apart p rest) (hsz : S.room ≤ 40) (htr : (tr ++ log).length < 1000)
    (hlog : ∀ e ∈ log, (S.get (varOf e)).isSome = true) :
   Does w 167 2 [.ref p.xS, .int (tr.length : Int) tm] (led w p q rest) (fun _ news' => ∃ q' tl, news' = led w p q' (tl ++ rest) ∧ Rep (tl ++ tups) q' (undo S log) tr ∧ q'.hb = q.hb ∧ q'.bb = q.bb ∧ Fresh tl (led w p q rest)) := by
  have P2 := P
  obtain ⟨o1, o2, o3, o4, off⟩ := P
  have hroom : S.H.length ≤ 40 ∧ S.K.length ≤ 40 := by unfold Sto.room at hsz; omega
  rw [List.length_append] at htr
  (w_top off; constructor; intro dp un gd cn cs a ccd cl outer A₀ base h₀ L mean mg mb m s Q E B F X N T hk hdp hun hret; refine wpAny_call ?_; k_dflt ktr_enter)
  repeat' ((fail_if_success (with_reducible show wpAny _ _ (exec (Stmt.While _ _ _ _) _) _ _ _)); first | (k_unfold; (try dsimp only)) | (k_end; wrow_close) | walk1 | (dsimp only; walk1) | (leave1; walk_say "STEP leave1"; try dsimp only) | fail "no step")
  rename Fr _ _ _ _ => F'
  rename News _ _ _ (led _ _ _ _) => N'
  refine' while_do (undoJ w p q tups rest S tr log tm) F' N' ⟨q, S, log, [], rfl, rfl, rfl, R, rfl, rfl, rfl, rfl, rfl, hlog, Nat.le_refl _, fun e he => (nomatch he), rfl⟩ ?turn (by first | passes_own | with_unfolding_all passes_own)
  clear F' N'
  intro n₁ m₁ nx h₁ tk₁ F' N' hJ
  try k_fold
  obtain ⟨q', S', log', tl, rfl, e1, e2, Rq, hun, hhb, hbb, hH, hK, hlog', hll, hfr, rfl⟩ := hJ
  replace F' := fr_put2 F' e1 e2
  have hlh := Rq.h.1
  have hlk := Rq.k.1
  have hlt := Rq.t.length
  rw [List.length_append] at hlt
  have PR : Apart p (tl ++ rest) := P2.fresh hfr
  have offR := PR.off
  rcases nil_or_last log' with rfl | ⟨log2, e, rfl⟩
  · rw [List.append_nil] at Rq
    simp only [List.length_nil] at hlt
    k_steps
    exact hret _ _ _ _ (by assumption) (by assumption) ⟨q', tl, rfl, by rw [← hun]; exact Rq, hhb, hbb, hfr⟩
  · obtain ⟨qh, zk, qt, nd, nh, nk, nt, hb1, bb1, thb, tbb⟩ := q'
    dsimp only at hhb hbb
    subst hhb
    subst hbb
    have Rt := Rq.t
    rw [← List.append_assoc] at Rt
    obtain ⟨ws, te, hte, hws⟩ := ints_last Rt
    dsimp only at hte
    subst hte
    have hmem := hlog' e (by simp)
    have hl2 : ∀ y ∈ log2, (S'.get (varOf y)).isSome = true := fun y hy => hlog' y (by simp [hy])
    simp only [List.length_append, List.length_cons, List.length_nil] at hlt hll
    have hww : ws.length ≤ 1000 := by omega
    rcases (by omega : 0 ≤ e ∨ e < 0) with hpos | hneg
    · obtain ⟨j, rfl⟩ := Int.eq_ofNat_of_zero_le hpos
      have hj : j < S'.H.length := by
        have := get_isSome.mp hmem
        simpa [varOf] using this
      have hj2 : j < qh.length := by dsimp only at hlh; omega
      have hj3 : j < 1000000 := by omega
      k_steps
      · rename_i D' h5 l1 h3 F2 N2
        have hfr2 : ∀ o, Fresh ((D', o) :: tl) (led w p q rest) := by
          intro o e he x hx
          rcases List.mem_cons.mp he with rfl | he
          · simp only [List.mem_cons] at hx
            rcases hx with rfl | rfl | rfl | rfl | rfl | hx
            · exact l1.1
            · exact l1.2.1
            · exact l1.2.2.1
            · exact l1.2.2.2.1
            · exact l1.2.2.2.2.1
            · exact ktn_ltOf l1.2.2.2.2.2 x (List.mem_append.mpr (.inr hx))
          · exact hfr e he x hx
        have hmo : ∀ o, ∀ e ∈ tl ++ tups, e ∈ (D', o) :: tl ++ tups := fun o e he => .tail _ he
        refine WEnd.intro (by assumption) (News.front1 (by assumption)) (by simp only [List.length_append, List.length_cons, List.length_nil]; omega) ⟨⟨qh.set j (.ref D'), zk, ws, nd, nh, nk, nt + 1, q.hb, q.bb, thb, tbb⟩, S'.set (.ref j) (.ref j), log2, _, rfl, rfl, rfl, ⟨((Rq.h.mono (hmo _)).set (.ref (.head _)) j), (Rq.k.mono (hmo _)), hws⟩, ?_, rfl, rfl, ?_, ?_, ?_, by omega, hfr2 _, rfl⟩
        · rw [← hun, undo_snoc, show varOf (j : Int) = .ref j from by simp [varOf]]
        · simp [Sto.set, hH]
        · simp [Sto.set, hK]
        · intro y hy
          have := hl2 y hy; rw [get_isSome] at this ⊢; revert this; cases varOf y <;> simp [Sto.set]
      · exfalso
        rename _ < _ → False => hx
        apply hx
        try dsimp only
        simp only [List.length_append, List.length_cons, List.length_nil]
        omega
    · obtain ⟨j, hj0⟩ := Int.eq_ofNat_of_zero_le (a := -1 - e) (by omega)
      have hv : varOf e = .srf j := by
        unfold varOf
        rw [if_neg (by omega), hj0]
        simp
      have hj : j < S'.K.length := by
        have := get_isSome.mp hmem
        rw [hv] at this
        exact this
      have hj2 : j < zk.length := by dsimp only at hlk; omega
      have hj3 : j < 1000000 := by omega
      k_steps
      · rename_i D' h5 l1 h3 F2 N2
        rw [hj0] at N2
        have hfr2 : ∀ o, Fresh ((D', o) :: tl) (led w p q rest) := by
          intro o e he x hx
          rcases List.mem_cons.mp he with rfl | he
          · simp only [List.mem_cons] at hx
            rcases hx with rfl | rfl | rfl | rfl | rfl | hx
            · exact l1.1
            · exact l1.2.1
            · exact l1.2.2.1
            · exact l1.2.2.2.1
            · exact l1.2.2.2.2.1
            · exact ktn_ltOf l1.2.2.2.2.2 x (List.mem_append.mpr (.inr hx))
          · exact hfr e he x hx
        have hmo : ∀ o, ∀ e ∈ tl ++ tups, e ∈ (D', o) :: tl ++ tups := fun o e he => .tail _ he
        refine WEnd.intro (by assumption) (News.front1 (by assumption)) (by simp only [List.length_append, List.length_cons, List.length_nil]; omega) ⟨⟨qh, zk.set j (.ref D'), ws, nd, nh, nk, nt + 1, q.hb, q.bb, thb, tbb⟩, S'.set (.srf j) (.srf j), log2, _, rfl, rfl, rfl, ⟨(Rq.h.mono (hmo _)), ((Rq.k.mono (hmo _)).set (.srf (.head _)) j), hws⟩, ?_, rfl, rfl, ?_, ?_, ?_, by omega, hfr2 _, rfl⟩
        · rw [← hun, undo_snoc, hv]
        · simp [Sto.set, hH]
        · simp [Sto.set, hK]
        · intro y hy
          have := hl2 y hy; rw [get_isSome] at this ⊢; revert this; cases varOf y <;> simp [Sto.set]
      · exfalso
        rename _ < _ → False => hx
        apply hx
        try dsimp only
        simp only [List.length_append, List.length_cons, List.length_nil]
        omega
end undo
section trial
theorem Fresh.of {w : World} {p : SA} {q q' : SM} {tl rest : List (Addr × Obj)} (h : Fresh tl (led w p q rest)) : Fresh tl (led w p q' rest) := by
  intro e he x hx
  simp only [List.mem_cons] at hx
  rcases hx with rfl | rfl | rfl | rfl | rfl | hx
  · exact h e he (p.xS, instObj 276 p.dS) (.head _)
  · exact h e he (p.dS, dictOf (sEnts w p q.hb q.thb q.bb q.tbb) q.nd) (.tail _ (.head _))
  · exact h e he (p.aH, listOf q.vh.toArray q.nh) (.tail _ (.tail _ (.head _)))
  · exact h e he (p.aK, listOf q.vk.toArray q.nk) (.tail _ (.tail _ (.tail _ (.head _))))
  · exact h e he (p.aT, listOf q.vt.toArray q.nt) (.tail _ (.tail _ (.tail _ (.tail _ (.head _)))))
  · exact h e he _ (.tail _ (.tail _ (.tail _ (.tail _ (.tail _ hx)))))
theorem Rep.turn {tups : List (Addr × Obj)} {vh vk vt : List Value} {S : Sto} {tr : List Int} {nd nh nk nt nd' nh' nk' nt' : Nat} {hb bb hb' bb' : Int} {thb tbb thb' tbb' : Tok} (R : Rep tups ⟨vh, vk, vt, nd, nh, nk, nt, hb, bb, thb, tbb⟩ S tr) : Rep tups ⟨vh, vk, vt, nd', nh', nk', nt', hb', bb', thb', tbb'⟩ S tr := ⟨R.h, R.k, R.t⟩
theorem Moved.short {q q' : SM} {S S' : Sto} {tr tr' : List Int} (h : Moved q q' S S' tr tr') (k : S.room ≤ 40) (l : tr.length < 500) : tr'.length < 1000 ∧ S'.room ≤ 40 := by
  have h1 := h.room
  have h2 := free_le S
  have h3 := h.ext.room
  omega
theorem put_hb {w : World} {p : SA} {hb bb v : Int} {thb tbb t : Tok} {hsh : Int} {key : Value} {n : Nat} : (putL (Str.ofString "hb") hsh key (.int v t) (sEnts w p hb thb bb tbb), putN (Str.ofString "hb") (sEnts w p hb thb bb tbb) n) = (sEnts w p v t bb tbb, n) := rfl
theorem put_bb {w : World} {p : SA} {hb bb v : Int} {thb tbb t : Tok} {hsh : Int} {key : Value} {n : Nat} : (putL (Str.ofString "bb") hsh key (.int v t) (sEnts w p hb thb bb tbb), putN (Str.ofString "bb") (sEnts w p hb thb bb tbb) n) = (sEnts w p hb thb v t, n) := rfl
theorem setS {w : World} {A : Around} {E : Value → Shared → Prop} {s : Shared} {h₀ : Heap} {L x dx C : Addr} {m : Str → Option Value} {news news' : List (Addr × Obj)} {ox : Obj} {es es' : List DictEntry} {n n' : Nat} {name : Str} {v : Value} {Q : Unit → Shared → Prop}
    (F : Fr h₀ L s.heap m := by assumption) (X : (hd.heap_1 w.params).In h₀ := by assumption) (N : News h₀ L s.heap news := by assumption) (I : InstAt s.heap x ox C (some (dictOf es n)) := by k_inst) (hd : ox.dict = some dx := by exact rfl)
    (hs : findIn (Mine.hd.heap_1 w.params) (.ref C) "__setattr__" = some (some (.builtin "object.__setattr__")) := by k_is) (hp : plainOver (Mine.hd.heap_1 w.params) C = true := by k_is) (ht : takerIn (Mine.hd.heap_1 w.params) C name = some none := by k_is) (hh : hasDictIn (Mine.hd.heap_1 w.params) C = true := by k_is)
    (hl : (getL name es).isSome = true := by k_get) (e : (putL name (PyData.keyHash w.params name) (.str name (s.toks + 1)) v es, putN name es n) = (es', n') := by first | exact put_hb | exact put_bb)
    (U : Upd dx (dictOf es n) (dictOf es' n') news news' := by first | k_upd | exact LawI.updS (by assumption)) (hz : es'.length ≤ 1000 := by exact Nat.le_of_ble_eq_true rfl)
    (h : ∀ h', Fr h₀ L h' m → News h₀ L h' news' → Q () { s with heap := h', toks := s.toks + 2 }) : wpAny (model PySem.Challenge.rw_rr0022_01.row.prog w) A (setAttr (.ref x) name v) Q E s :=
  set_dict F X N I hd hs hp ht hh hl e U hz h
local macro_rules | `(tactic| walk_at "setAttr ref") => `(tactic| (k_here; (with_reducible show wpAny _ _ (setAttr (Value.ref (SA.xS _)) _ (Value.int _ _)) _ _ _); k_dflt (refine' setS (h := ?_)); walk_at "MINE sw"))
theorem undo_does2 {w : World} {p : SA} {q : SM} {tups rest : List (Addr × Obj)} {S : Sto} {tr log : List Int} {tm : Tok} {k : Nat} (R : Rep tups q S (tr ++ log) := by assumption) (hk : k = tr.length := by assumption) (hs : Sub tups rest := by walk_at "MINE sub") (P : Apart p rest := by first | assumption | solve_by_elim) (hsz : S.room ≤ 40 := by first | assumption | omega) (htr : (tr ++ log).length < 1000 := by first | assumption | omega)
    (hlog : ∀ e ∈ log, (S.get (varOf e)).isSome = true := by assumption) :
   Does w 167 2 [.ref p.xS, .int (k : Int) tm] (led w p q rest) (fun _ news' => ∃ q' tl, news' = led w p q' (tl ++ rest) ∧ Rep (tl ++ tups) q' (undo S log) tr ∧ q'.hb = q.hb ∧ q'.bb = q.bb ∧ Fresh tl (led w p q rest)) := by
  subst hk
  exact undo_does R hs P hsz htr hlog
theorem pk_uni {NN : SM → List (Addr × Obj)} {P P' : SM → Sto → List Int → Prop} {P2 : Bool → Prop} : Kof (fun r n' => ∃ q' S' tr' b, r = .bool b ∧ n' = NN q' ∧ P q' S' tr' ∧ P' q' S' tr' ∧ P2 b) (fun Z => ∀ q' S' tr' b, P q' S' tr' → P' q' S' tr' → P2 b → Z (.bool b) (NN q')) := by
  rintro Z h _ _ ⟨q', S', tr', b, rfl, rfl, h1, h2, h3⟩; exact h q' S' tr' b h1 h2 h3
theorem pk_undo {NN : SM → List (Addr × Obj) → List (Addr × Obj)} {P P1 P2 P3 : SM → List (Addr × Obj) → Prop} : Kof (fun _ n' => ∃ q' tl, n' = NN q' tl ∧ P q' tl ∧ P1 q' tl ∧ P2 q' tl ∧ P3 q' tl) (fun Z => ∀ r q' tl, P q' tl → P1 q' tl → P2 q' tl → P3 q' tl → Z r (NN q' tl)) := by
  rintro Z h r _ ⟨q', tl, rfl, h1, h2, h3, h4⟩; exact h r q' tl h1 h2 h3 h4
local macro_rules | `(tactic| walk_at "call ref") => `(tactic| (k_here; k_dflt (((with_reducible show wpAny _ _ (call (Value.ref 160) _) _ _ _); refine' Does.useK (D := mark_does (q := SM.mk _ _ _ _ _ _ _ _ _ _ _)) (k := pk_int) (ret := ?_))); walk_at "MINE ret"))
local macro_rules | `(tactic| walk_at "call ref") => `(tactic| (k_here; k_dflt ((with_reducible show wpAny _ _ (call (Value.ref 341) _) _ _ _); refine' Does.useK (D := unify_does (q := SM.mk _ _ _ _ _ _ _ _ _ _ _) (R := by exact Rep.turn (by assumption))) (k := pk_uni) (ret := ?_)); k_whole; intro h' tk' F' q' S' tr' b' hR' hM' hiff N'; obtain ⟨log', hlog1, hun', hsome⟩ := hM'.log (Int.ofNat_le.mpr (Nat.le_of_eq (Eq.symm (by assumption)))) (Int.ofNat_le.mpr (Nat.le_of_eq (Eq.symm (by assumption)))); subst hlog1; have hsome2 := fun e he => (hM'.ext.isSome (varOf e)).trans (hsome e he); have hsh := hM'.short (by assumption) (by assumption); (try k_sweep); (try k_fold)))
local macro_rules | `(tactic| walk_at "call ref") => `(tactic| (k_here; k_dflt ((with_reducible show wpAny _ _ (call (Value.ref 167) _) _ _ _); refine' Does.useK (D := undo_does2) (k := pk_undo) (ret := ?_)); k_whole; intro h' tk' F' r2 q2 tl2 hR2 hh2 hb2 hfr2 N'; have hoff2 := (Apart.fresh (by assumption) hfr2).off; (try k_sweep); (try k_fold)))
set_option maxRecDepth 100000 in
set_option maxHeartbeats 8000000 in
theorem trial_does {w : World} {p : SA} {q : SM} {tups rest : List (Addr × Obj)} {S : Sto} {tr : List Int} {v1 v2 : Value} {c d : Cell} (R : Rep tups q S tr) (hs : Sub tups rest) (P : Apart p rest) (W : S.WF) (A : Acyc S) (hsz : S.room ≤ 40) (htr : tr.length < 500)
    (hv1 : IsCell tups v1 c) (hv2 : IsCell tups v2 d) (okc : S.Ok c) (okd : S.Ok d) :
   Does w 355 9 [.ref p.xS, v1, v2, .bool true] (led w p q rest) (fun r news' => ∃ q' tl b, r = .bool b ∧ news' = led w p q' (tl ++ rest) ∧ Rep (tl ++ tups) q' S tr ∧ q'.hb = q.hb ∧ q'.bb = q.bb ∧ Fresh tl (led w p q rest) ∧ (b = true ↔ Unif S c d)) := by
  obtain ⟨vh, vk, vt, nd, nh, nk, nt, hb, bb, thb, tbb⟩ := q
  have P2 := P
  obtain ⟨o1, o2, o3, o4, off⟩ := P
  have hroom : S.H.length ≤ 40 ∧ S.K.length ≤ 40 := by unfold Sto.room at hsz; omega
  have hlh := R.h.1
  have hlk := R.k.1
  have hlt := R.t.length
  dsimp only at hlh hlk hlt
  obtain ⟨b1, _, _, rfl, _⟩ := id hv1.out
  obtain ⟨b2, _, _, rfl, _⟩ := id hv2.out
  (w_top off; constructor; intro dp un gd cn cs a ccd cl outer A₀ base h₀ L mean mg mb m s Q E B F X N T hk hdp hun hret; refine wpAny_call ?_; k_dflt ktr_enter)
  k_steps
  rename Rep _ _ (undo _ _) _ => hR2
  rename undo _ _ = S => hun
  rw [hun] at hR2
  rename Fresh _ _ => hf
  rename _ = true ↔ Unif S c d => hiff
  rename SM => q2
  exact hret _ _ _ _ (by assumption) (by assumption) ⟨⟨q2.vh, q2.vk, q2.vt, q2.nd, q2.nh, q2.nk, q2.nt, hb, bb, thb, tbb⟩, _, _, rfl, rfl, ⟨hR2.h, hR2.k, hR2.t⟩, rfl, rfl, hf.of, hiff⟩
end trial
section take
/-- one object of the ledger, taken out -/
inductive Split (d : Addr) (o : Obj) : List (Addr × Obj) → List (Addr × Obj) → List (Addr × Obj) → Prop
  | head {r} : (∀ p ∈ r, p.1 ≠ d) → Split d o ((d, o) :: r) [] r
  | tail {p r a b} : p.1 ≠ d → Split d o r a b → Split d o (p :: r) (p :: a) b
theorem Split.eq {d : Addr} {o : Obj} {l a b : List (Addr × Obj)} (h : Split d o l a b) : l = a ++ (d, o) :: b ∧ (∀ p ∈ a, p.1 ≠ d) ∧ ∀ p ∈ b, p.1 ≠ d := by
  induction h with
  | head k => exact ⟨rfl, (by intro p hp; cases hp), k⟩
  | tail k _ ih =>
    refine ⟨by rw [ih.1]; rfl, ?_, ih.2.2⟩
    intro p hp
    rcases List.mem_cons.mp hp with rfl | hp
    · exact k
    · exact ih.2.1 p hp
theorem Upd.mid {d : Addr} {o o' : Obj} {a b : List (Addr × Obj)} (h1 : ∀ p ∈ a, p.1 ≠ d) (h2 : ∀ p ∈ b, p.1 ≠ d) : Upd d o o' (a ++ (d, o) :: b) (a ++ (d, o') :: b) := by
  induction a with
  | nil => exact .head h2
  | cons p a ih => exact .tail (h1 p (.head _)) (ih fun q hq => h1 q (.tail _ hq))
local macro_rules | `(tactic| walk_at "setItem ref int") => `(tactic| (k_here; (with_reducible show wpAny _ _ (setItem (Value.ref _) (Value.int 1 _) (Value.int _ _)) _ _ _); k_dflt (
  (refine' setat_L (vs := [_, _]) (j := 1) ?F ?N ?U ?k ?l ?f ?_; (case F => assumption); (case N => assumption); (case U => exact Upd.head (by assumption)); (case k => rfl); (case l => exact Nat.lt_succ_self 1); (case f => decide); k_whole; intro h' F' N'; (try dsimp only [List.set] at N'); (try k_sweep)))))
theorem Does.news {w : World} {f : Addr} {need : Nat} {vs : List Value} {news news' : List (Addr × Obj)} {Post Post' : Value → List (Addr × Obj) → Prop} (D : Does w f need vs news' Post') (h : ∀ e ∈ news', e ∈ news)
    (post : ∀ r n', Post' r n' → ∃ n'', (∀ e ∈ n'', e ∈ n') ∧ Post r n'') : Does w f need vs news Post := by
  constructor
  intro dp un gd cn cs a ccd cl outer A₀ base h₀ L mean mg mb m s Q E B F X N T hk hdp hun hret
  refine D.run dp un gd cn cs a ccd cl outer A₀ base h₀ L mean mg mb m s Q E B F X (fun e he => N e (h e he)) T hk hdp hun fun r n' h' tk' F' N' P' => ?_
  obtain ⟨n'', hs, P''⟩ := post r n' P'
  exact hret r n'' h' tk' F' (fun e he => N' e (hs e he)) P''
theorem pow7_log {n : Nat} (h : n ≤ 200) : ((7 : Int) ^ n).natAbs.log2 < 9000 := by
  rw [Int.natAbs_pow]
  have h1 : (7 : Int).natAbs ^ n ≤ 7 ^ 200 := Nat.pow_le_pow_right (by decide) h
  have h2 : 7 ^ 200 < 2 ^ 9000 := by decide +kernel
  have h3 : (7 : Int).natAbs ^ n ≠ 0 := Nat.ne_of_gt (Nat.pow_pos (by decide))
  exact (Nat.log2_lt h3).mpr (Nat.lt_of_le_of_lt h1 h2)
local macro_rules | `(tactic| walk_at "binaryOp FloorDiv int int") => `(tactic| (k_here; (with_reducible show wpAny _ _ (binaryOp _ (Value.int _ _) (Value.int (HPow.hPow _ _) _)) _ _ _); (refine' floordiv_int ?e ?_ (Or.inl (PyProof.noPylong_of_log2 ?p)); (case e => omega); (case p => exact pow7_log (by omega)); k_whole)))
local macro_rules | `(tactic| walk_at "binaryOp Pow int int") => `(tactic| (k_here; (refine' pow_int_small ?a ?b ?c ?_; (case a => omega); (case b => omega); (case c => decide); k_whole)))
set_option maxRecDepth 100000 in
set_option maxHeartbeats 8000000 in
theorem take_does0 {w : World} {D R : Addr} {ws : List Value} {ns : List Int} {at0 most : Int} {t tm : Tok} {n n2 : Nat} {rest : List (Addr × Obj)} (hD : ∀ e ∈ (R, listOf ws.toArray n2) :: rest, e.1 ≠ D) (hws : IntsAre ws ns) (hl : ns.length ≤ 40)
    (h0 : 0 ≤ at0) (h1 : at0 ≤ 200) (hm : 0 < most) :
   Does w 369 1 [.ref D, .int most tm] ((D, listOf [.ref R, .int at0 t].toArray n) :: (R, listOf ws.toArray n2) :: rest) (fun r news' => ∃ k t2 t3, r = .int k t2 ∧ 0 ≤ k ∧ k < most ∧ news' = (D, listOf [.ref R, .int (at0 + 1) t3].toArray n) :: (R, listOf ws.toArray n2) :: rest) := by
  have hlw := hws.length
  have hRD : R ≠ D := hD _ (.head _)
  rcases ns with _ | ⟨n0, ns⟩
  · (w_top off; constructor; intro dp un gd cn cs a ccd cl outer A₀ base h₀ L mean mg mb m s Q E B F X N T hk hdp hun hret; refine wpAny_call ?_; k_dflt ktr_enter)
    k_steps
    exact hret _ _ _ _ (by assumption) (fun e he => by rename News _ _ _ _ => N2; exact N2 e (.tail _ he)) ⟨0, _, _, rfl, Int.le_refl _, hm, rfl⟩
  · simp only [List.length_cons] at hlw hl
    have hL : (0 : Int) < (ws.length : Int) := by omega
    have hp : 0 ≤ at0.fdiv (ws.length : Int) ∧ at0.fdiv (ws.length : Int) ≤ 200 := by
      rw [Int.fdiv_eq_ediv_of_nonneg _ (Int.le_of_lt hL)]
      exact ⟨Int.ediv_nonneg h0 (Int.le_of_lt hL), Int.le_trans (Int.ediv_le_self _ h0) h1⟩
    have hpw : (0 : Int) < 7 ^ (at0.fdiv (ws.length : Int)).toNat := Int.pow_pos (by decide)
    (w_top off; constructor; intro dp un gd cn cs a ccd cl outer A₀ base h₀ L mean mg mb m s Q E B F X N T hk hdp hun hret; refine wpAny_call ?_; k_dflt ktr_enter)
    k_steps
    · rename _ = true => hx
      cases hx
    · exact hret _ _ _ _ (by assumption) (fun e he => by rename News _ _ _ _ => N2; exact N2 e (.tail _ he)) ⟨_, _, _, rfl, Int.fmod_nonneg_of_pos _ hm, Int.fmod_lt_of_pos _ hm, rfl⟩
theorem take_does {w : World} {D R : Addr} {ws : List Value} {ns : List Int} {at0 most : Int} {t tm : Tok} {n n2 : Nat} {news a b : List (Addr × Obj)} (hs : Split D (listOf [.ref R, .int at0 t].toArray n) news a b) (hR : (R, listOf ws.toArray n2) ∈ news) (hRD : R ≠ D) (hws : IntsAre ws ns) (hl : ns.length ≤ 40)
    (h0 : 0 ≤ at0) (h1 : at0 ≤ 200) (hm : 0 < most) :
   Does w 369 1 [.ref D, .int most tm] news (fun r news' => ∃ k t2 t3, r = .int k t2 ∧ 0 ≤ k ∧ k < most ∧ news' = a ++ (D, listOf [.ref R, .int (at0 + 1) t3].toArray n) :: b) := by
  obtain ⟨rfl, ha, hb⟩ := hs.eq
  have hab : ∀ e ∈ (R, listOf ws.toArray n2) :: (a ++ b), e.1 ≠ D := by
    intro e he
    rcases List.mem_cons.mp he with rfl | he
    · exact hRD
    · rcases List.mem_append.mp he with he | he
      · exact ha e he
      · exact hb e he
  refine (take_does0 (t := t) (n := n) hab hws hl h0 h1 hm).news ?_ ?_
  · intro e he
    rcases List.mem_cons.mp he with rfl | he
    · exact List.mem_append.mpr (.inr (.head _))
    · rcases List.mem_cons.mp he with rfl | he
      · exact hR
      · rcases List.mem_append.mp he with he | he
        · exact List.mem_append.mpr (.inl he)
        · exact List.mem_append.mpr (.inr (.tail _ he))
  · rintro r n' ⟨k, t2, t3, rfl, h2, h3, rfl⟩
    refine ⟨_, ?_, k, t2, t3, rfl, h2, h3, rfl⟩
    intro e he
    rcases List.mem_append.mp he with he | he
    · exact .tail _ (.tail _ (List.mem_append.mpr (.inl he)))
    · rcases List.mem_cons.mp he with rfl | he
      · exact .head _
      · exact .tail _ (.tail _ (List.mem_append.mpr (.inr he)))
end take
section follow
abbrev kk (w : World) : KeyKind PySem.Challenge.rw_rr0022_01.row.prog w Int := PySem.intKind PySem.Challenge.rw_rr0022_01.row.prog w
/-- the object is the dict of the own reading's bindings -/
structure BDict (w : World) (cells : List (Addr × Obj)) (o : Obj) (bd : Cell → Option Cell) (n : Nat) : Prop where
  ex : ∃ es ep, ∃ xs : List (List Int × Addr × Value), o.ExactDict ∧ o.data = .dict es ep ∧ es.toList = xs.map (entryOfKey (tupleKind (kk w))) ∧ (xs.map (·.1)).Nodup ∧ (∀ x ∈ xs, ∃ ok, (x.2.1, ok) ∈ cells ∧ TupKeyObj (kk w) x.1 ok) ∧ xs.length ≤ n ∧
    (∀ c, bd c = none → atKey xs [c.tag, (c.num : Int)] = none) ∧ ∀ c d, bd c = some d → ∃ a v, atKey xs [c.tag, (c.num : Int)] = some (a, v) ∧ IsCell cells v d
theorem cell_key {w : World} (c : Cell) {t u : Tok} : TupKeyObj (kk w) [c.tag, (c.num : Int)] (tupO c.tag t (c.num : Int) u) :=
  ⟨rfl, _, _, rfl, .cons (intKind_is _ _ _ _) (.cons (intKind_is _ _ _ _) .nil)⟩
section
variable {w : World} {A : Around} {E : Value → Shared → Prop} {s : Shared} {h₀ : Heap} {L B a : Addr} {m : Str → Option Value} {news cells : List (Addr × Obj)} {o : Obj} {bd : Cell → Option Cell} {n : Nat} {c : Cell}
theorem BDict.at_ (D : BDict w cells o bd n) (N : News h₀ L s.heap news) (hs : ∀ e ∈ cells, e ∈ news) (hm : (B, o) ∈ news) : ∃ xs : List (List Int × Addr × Value), s.heap.DictOfH (tupleKind (kk w)) B xs ∧ xs.length ≤ n ∧ (∀ x ∈ xs, ∃ ok, (x.2.1, ok) ∈ cells ∧ TupKeyObj (kk w) x.1 ok) ∧
    (∀ c, bd c = none → atKey xs [c.tag, (c.num : Int)] = none) ∧ ∀ c d, bd c = some d → ∃ a v, atKey xs [c.tag, (c.num : Int)] = some (a, v) ∧ IsCell cells v d := by
  obtain ⟨es, ep, xs, h1, h2, h3, h4, h5, h6, h7, h8⟩ := D.ex
  exact ⟨xs, ⟨o, es, ep, N.get hm, h1, h2, h3, fun x hx => let ⟨_, hmk, t⟩ := h5 x hx; t.key (N.get (hs _ hmk)), h4⟩, h6, h5, h7, h8⟩
theorem cell_is {t u : Tok} (N : News h₀ L s.heap news) (hs : ∀ e ∈ cells, e ∈ news) (hm : (a, tupO c.tag t (c.num : Int) u) ∈ cells) : (tupleKind (kk w)).is s.heap [c.tag, (c.num : Int)] a := (cell_key c).key (N.get (hs _ hm))
theorem bd_in {b : Bool} {Q : Value → Shared → Prop} (N : News h₀ L s.heap news := by assumption) (D : BDict w cells o bd n := by assumption) (hm : (B, o) ∈ news := by k_mem) (hc : IsCell cells (.ref a) c := by assumption) (hs : ∀ e ∈ cells, e ∈ news := by walk_at "MINE sub") (lo : (B == sysModules) = false := by assumption) (hu : A.units + 1 < cLine := by units_room)
    (hb : (bd c).isSome = b := by assumption) (h : ∀ tk, Q (.bool b) { s with toks := tk }) : wpAny (model PySem.Challenge.rw_rr0022_01.row.prog w) A (compareOp .In (.ref a) (.ref B)) Q E s := by
  obtain ⟨xs, h1, _, _, h3, h4⟩ := D.at_ N hs hm
  obtain ⟨a', t, u, e, hm'⟩ := hc.out
  cases e
  refine wpAny_in_heap (knd := tupleKind (kk w)) (tupleKind_room_in1 hu) (cell_is N hs hm') lo h1 ?_
  have : (atKey xs [c.tag, (c.num : Int)]).isSome = b := by
    rw [← hb]
    cases hbd : bd c with
    | none => rw [h3 c hbd]; rfl
    | some d => obtain ⟨a, v, e, _⟩ := h4 c d hbd; rw [e]; rfl
  rw [this]
  exact h _
theorem bd_get {value slice : PySem.Expr} {d : Cell} {Q : Value → Shared → Prop} (N : News h₀ L s.heap news := by assumption) (D : BDict w cells o bd n := by assumption) (hm : (B, o) ∈ news := by k_mem) (hc : IsCell cells (.ref a) c := by assumption) (hs : ∀ e ∈ cells, e ∈ news := by walk_at "MINE sub") (hu : A.units + 1 < cLine := by units_room)
    (hb : bd c = some d := by assumption) (h : ∀ b tk, IsCell cells (.ref b) d → Q (.ref b) { s with toks := tk })
    (hsl : subscripted slice false (.ref B) (.ref a) = operate [.ref B, .ref a] (getItem (.ref B) (.ref a)) := by with_unfolding_all rfl) (hg : ∀ r, letTemporaryGo value (.ref B) r = pure () := by intro _; with_unfolding_all rfl) :
    wpAny (model PySem.Challenge.rw_rr0022_01.row.prog w) A (subscriptTail value slice (.ref B) (.ref a)) Q E s := by
  obtain ⟨xs, h1, _, _, h3, h4⟩ := D.at_ N hs hm
  obtain ⟨a', t, u, e, hm'⟩ := hc.out
  cases e
  obtain ⟨k, v, e, hv⟩ := h4 c d hb
  obtain ⟨b, _, _, rfl, _⟩ := id hv.out
  exact subscriptTail_builtin h1.typeIs slot_dict_getitem.lookup (wpAny_getItem_heap (knd := tupleKind (kk w)) (tupleKind_room_in1 hu) (cell_is N hs hm') h1 e (h b _ hv)) hsl hg
theorem News.put {h₀ h h' : Heap} {L d : Addr} {o o' : Obj} {l pre post : List (Addr × Obj)} (N : News h₀ L h l) (S : Split d o l pre post) (hs : Heap.SameBut d h h') (ho : h'.get? d = some o') : News h₀ L h' (pre ++ (d, o') :: post) := by
  obtain ⟨rfl, h1, h2⟩ := S.eq
  have := N.replace hs ho
  intro q hq
  refine this q (List.mem_map.mpr ?_)
  rcases List.mem_append.mp hq with hq | hq
  · exact ⟨q, List.mem_append.mpr (.inl hq), by rw [if_neg (h1 q hq)]⟩
  · rcases List.mem_cons.mp hq with rfl | hq
    · exact ⟨(d, o), List.mem_append.mpr (.inr (.head _)), by simp⟩
    · exact ⟨q, List.mem_append.mpr (.inr (.tail _ hq)), by rw [if_neg (h2 q hq)]⟩
theorem tag_inj {c d : Cell} (h : ([c.tag, (c.num : Int)] : List Int) = [d.tag, (d.num : Int)]) : c = d := by
  simp only [List.cons.injEq, and_true] at h
  exact Cell.ext h.1 (by omega)
theorem bd_set {v : Value} {d : Cell} {pre post : List (Addr × Obj)} {Q : Unit → Shared → Prop} (F : Fr h₀ L s.heap m := by assumption) (N : News h₀ L s.heap news := by assumption) (D : BDict w cells o bd n := by assumption) (S : Split B o news pre post := by first | exact Split.tail (by assumption) (Split.tail (by assumption) (Split.head (by assumption))) | exact Split.tail (by assumption) (Split.tail (by assumption) (Split.head (List.forall_mem_cons.mpr ⟨by k_ne, by assumption⟩))) | exact Split.tail (by k_ne) (Split.tail (by assumption) (Split.tail (by assumption) (Split.head (by assumption))))) (hc : IsCell cells (.ref a) c := by assumption) (hv : IsCell cells v d := by assumption) (hs : ∀ e ∈ cells, e ∈ news := by walk_at "MINE sub") (hu : A.units + 1 < cLine := by units_room) (hn : n < 1000 := by omega)
    (hb : bd c = none := by exact (Over.unb (by assumption) (unb_tag (by assumption) (by omega))).1) (h : ∀ h' o' tk, Fr h₀ L h' m → News h₀ L h' (pre ++ (B, o') :: post) → BDict w cells o' (fun y => if y = c then some d else bd y) (n + 1) → Q () { s with heap := h', toks := tk }) :
    wpAny (model PySem.Challenge.rw_rr0022_01.row.prog w) A (setItem (.ref B) (.ref a) v) Q E s := by
  have hm : (B, o) ∈ news := by rw [S.eq.1]; exact List.mem_append.mpr (.inr (.head _))
  obtain ⟨xs, h1, h2, h5, h3, h4⟩ := D.at_ N hs hm
  obtain ⟨a', t, u, e, hm'⟩ := hc.out
  cases e
  have hne := h3 c hb
  refine wpAny_setItem_heap (hsz := by rw [PySem.sizeLine_eq]; omega) (knd := tupleKind (kk w)) (tupleKind_room_in1 hu) (cell_is N hs hm') h1 fun h' hm2 hs2 => ?_
  obtain ⟨o', es', ep', ho', hc', hd', he', _, hn'⟩ := hm2
  refine h h' o' _ (F.change hs2 (N _ hm).2.1 (N.fresh hm)) (News.put N S hs2 ho') ⟨es', ep', storedH xs [c.tag, (c.num : Int)] a v, hc', hd', he', hn', ?_, ?_, ?_, ?_⟩
  · intro x hx
    rw [storedH_new hne] at hx
    rcases List.mem_append.mp hx with hx | hx
    · exact h5 x hx
    · rw [List.mem_singleton.mp hx]
      exact ⟨_, hm', cell_key c⟩
  · rw [storedH_new hne, List.length_append]
    simp only [List.length_cons, List.length_nil]; omega
  · intro y hy
    have hyc : y ≠ c := fun e => by subst e; simp at hy
    rw [if_neg hyc] at hy
    have := h3 y hy
    rw [storedH_new hne]
    have hk : ¬ ([c.tag, (c.num : Int)] : List Int) = [y.tag, (y.num : Int)] := fun e => hyc (tag_inj e).symm
    unfold atKey at this ⊢
    rw [List.find?_append]
    rw [Option.map_eq_none_iff] at this ⊢
    rw [this]
    simp [hk]
  · intro y e hy
    rw [storedH_new hne]
    by_cases hyc : y = c
    · subst hyc
      rw [if_pos rfl] at hy
      obtain rfl := Option.some.inj hy
      refine ⟨a, v, ?_, hv⟩
      unfold atKey at hne ⊢
      rw [Option.map_eq_none_iff] at hne
      rw [List.find?_append, hne]
      simp
    · rw [if_neg hyc] at hy
      obtain ⟨k, u', e', hu'⟩ := h4 y e hy
      refine ⟨k, u', ?_, hu'⟩
      unfold atKey at e' ⊢
      obtain ⟨z, hz, hz2⟩ := Option.map_eq_some_iff.mp e'
      rw [List.find?_append, hz]
      simp [hz2]
end
/-- the own reading's objects: copies of the two tables, and the dict laid over them -/
structure Own (w : World) (S T : Sto) (bd : Cell → Option Cell) (cells rest : List (Addr × Obj)) (aH aK B : Addr) (vh vk : List Value) (o : Obj) (n : Nat) : Prop where
  h : AreCells cells vh S.H
  k : AreCells cells vk S.K
  d : BDict w cells o bd n
  ov : Over S bd T
  ft : Fit T
  ac : Acyc T
  sz : S.room ≤ 40
  sub : Sub cells rest
  lo : (B == sysModules) = false
  hB : aH ≠ B
  kB : aK ≠ B
  rB : ∀ p ∈ rest, p.1 ≠ B
abbrev lawL (aH aK B : Addr) (vh vk : List Value) (nh nk : Nat) (o : Obj) (rest : List (Addr × Obj)) : List (Addr × Obj) := (aH, listOf vh.toArray nh) :: (aK, listOf vk.toArray nk) :: (B, o) :: rest
inductive followJ (T : Sto) (cells : List (Addr × Obj)) (aH aK B : Addr) (l : List (Addr × Obj)) (c : Cell) (rk : Cell → Nat) (n : Nat) (m : Str → Option Value) (nx : List (Addr × Obj)) : Prop where
  | mk : nx = l → m (Str.ofString "heap") = some (.ref aH) → m (Str.ofString "stack") = some (.ref aK) → m (Str.ofString "bound") = some (.ref B) → ∀ v d, m (Str.ofString "cell") = some v → IsCell cells v d → T.Ok d → (∀ e, Deref T d e → Deref T c e) → n = meas rk d → followJ T cells aH aK B l c rk n m nx
local macro_rules | `(tactic| walk_at "compareOp In") => `(tactic| (k_here; (with_reducible show wpAny _ _ (compareOp CmpOp.In (Value.ref _) (Value.ref _)) _ _ _); k_dflt (refine' bd_in (h := ?_)); k_whole; (repeat intro)))
local macro_rules | `(tactic| walk_at "subscriptTail") => `(tactic| (k_here; (with_reducible show wpAny _ _ (subscriptTail _ _ (Value.ref _) (Value.ref _)) _ _ _); k_dflt (refine' bd_get (h := ?_)); k_whole; (repeat intro)))
set_option maxRecDepth 100000 in
set_option maxHeartbeats 8000000 in
theorem follow_does {w : World} {S U : Sto} {bd : Cell → Option Cell} {cells rest : List (Addr × Obj)} {aH aK aB : Addr} {vh vk : List Value} {o : Obj} {n nh nk : Nat} {v : Value} {c : Cell} (O : Own w S U bd cells rest aH aK aB vh vk o n := by assumption) (hv : IsCell cells v c := by assumption) (ok : U.Ok c := by assumption) :
   Does w 376 1 [v, .ref aH, .ref aK, .ref aB] (lawL aH aK aB vh vk nh nk o rest) (fun r news' => news' = lawL aH aK aB vh vk nh nk o rest ∧ ∃ d, IsCell cells r d ∧ Deref U c d ∧ U.Ok d) := by
  obtain ⟨Oh, Ok, Od, Oo, Of, ⟨rk, hrk, _⟩, hsz, Os, Ol, OhB, OkB, OrB⟩ := O
  have hroom : S.H.length ≤ 40 ∧ S.K.length ≤ 40 := by unfold Sto.room at hsz; omega
  (w_top off; constructor; intro dp un gd cn cs a ccd cl outer A₀ base h₀ L mean mg mb m s Q E B F X N T hk hdp hun hret; refine wpAny_call ?_; k_dflt ktr_enter)
  repeat' ((fail_if_success (with_reducible show wpAny _ _ (exec (Stmt.While _ _ _ _) _) _ _ _)); first | (k_unfold; (try dsimp only)) | (k_end; wrow_close) | walk1 | (dsimp only; walk1) | (leave1; walk_say "STEP leave1"; try dsimp only) | fail "no step")
  rename Fr _ _ _ _ => F'
  rename News _ _ _ (lawL _ _ _ _ _ _ _ _ _) => N'
  refine' while_do (followJ U cells aH aK aB (lawL aH aK aB vh vk nh nk o rest) c rk) F' N' ⟨rfl, rfl, rfl, rfl, v, c, rfl, hv, ok, fun _ h => h, rfl⟩ ?turn (by first | passes_own | with_unfolding_all passes_own)
  clear F' N'
  intro n₁ m₁ nx h₁ tk₁ F' N' hJ
  try k_fold
  obtain ⟨rfl, e1, e2, e3, v', d, e4, hv', ok', hd, rfl⟩ := hJ
  replace F' := fr_put4 F' e1 e2 e3 e4
  have hv2 := hv'
  cases hbd : bd d with
  | some e =>
    have hbs : (bd d).isSome = true := by rw [hbd]; rfl
    obtain ⟨hg, hne⟩ := Oo.bound hbd
    obtain ⟨b0, _, _, rfl, _⟩ := id hv'.out
    k_steps
    exact WEnd.intro (by assumption) (by assumption) (meas_lt hrk hg hne) ⟨rfl, rfl, rfl, rfl, _, _, rfl, by assumption, Of _ _ hg, fun x hx => hd x (.step hg hne hx), rfl⟩
  | none =>
    have hbs : (bd d).isSome = false := by rw [hbd]; rfl
    cases hv'
    case ref n t u hm =>
      obtain ⟨x, hx⟩ := Option.isSome_iff_exists.mp (by rw [← Oo.some_]; exact ok' (.ref n) (List.Mem.head _) : (S.get (.ref n)).isSome = true)
      have hx2 : At S.H (n : Int) x := At.of hx (by omega) rfl
      have hxx : U.get (.ref n) = some x := Oo.none_ hbd hx; clear hx
      k_steps
      · exact hret _ _ _ _ (by assumption) (by assumption) ⟨rfl, _, hv2, hd _ (.unb (by rename x = _ => e; subst e; exact hxx)), ok'⟩
      · exact WEnd.intro (by assumption) (by assumption) (meas_lt hrk hxx (by assumption)) ⟨rfl, rfl, rfl, rfl, _, _, rfl, by assumption, Of _ x hxx, fun e he => hd e (.step hxx (by assumption) he), rfl⟩
    case srf n t u hm =>
      obtain ⟨x, hx⟩ := Option.isSome_iff_exists.mp (by rw [← Oo.some_]; exact ok' (.srf n) (List.Mem.head _) : (S.get (.srf n)).isSome = true)
      have hx2 : At S.K (n : Int) x := At.of hx (by omega) rfl
      have hxx : U.get (.srf n) = some x := Oo.none_ hbd hx; clear hx
      k_steps
      · exact hret _ _ _ _ (by assumption) (by assumption) ⟨rfl, _, hv2, hd _ (.unb (by rename x = _ => e; subst e; exact hxx)), ok'⟩
      · exact WEnd.intro (by assumption) (by assumption) (meas_lt hrk hxx (by assumption)) ⟨rfl, rfl, rfl, rfl, _, _, rfl, by assumption, Of _ x hxx, fun e he => hd e (.step hxx (by assumption) he), rfl⟩
    case lis n t u hm =>
      k_steps
      exact hret _ _ _ _ (by assumption) (by assumption) ⟨rfl, _, hv2, hd _ (.val rfl), ok'⟩
    case int n t u hm =>
      k_steps
      exact hret _ _ _ _ (by assumption) (by assumption) ⟨rfl, _, hv2, hd _ (.val rfl), ok'⟩
end follow
section inside
theorem Own.raw {w : World} {S U : Sto} {bd : Cell → Option Cell} {cells rest : List (Addr × Obj)} {aH aK aB : Addr} {vh vk : List Value} {o : Obj} {n : Nat} (O : Own w S U bd cells rest aH aK aB vh vk o n) {c d : Cell} (ok : U.Ok d) (hd : Deref U c d) {k N : Nat} (lw : Low U N c k) :
    ∀ a, d = .lis a → ∃ c0 c1, At S.H ((a : Int) + 0) c0 ∧ At S.H ((a : Int) + 1) c1 ∧ S.get (.ref a) = some c0 ∧ S.get (.ref (a + 1)) = some c1 ∧ U.Ok c0 ∧ U.Ok c1 ∧ Low U N c0 (k + 1) ∧ Low U N c1 (k + 1) := by
  rintro a rfl
  obtain ⟨c0, c1, h0, h1⟩ := lis_ok ok
  have g0 : (S.get (.ref a)).isSome = true := by rw [← O.ov.some_]; show (U.H[a]?).isSome = true; rw [h0]; rfl
  have g1 : (S.get (.ref (a + 1))).isSome = true := by rw [← O.ov.some_]; show (U.H[a + 1]?).isSome = true; rw [h1]; rfl
  obtain ⟨e0, g0⟩ := Option.isSome_iff_exists.mp g0
  obtain ⟨e1, g1⟩ := Option.isSome_iff_exists.mp g1
  have hl : S.H.length < 1000000 := by have := O.sz; unfold Sto.room at this; omega
  exact ⟨e0, e1, At.of g0 hl (by omega), At.of g1 hl (by omega), g0, g1, O.ov.ok_raw O.ft g0, O.ov.ok_raw O.ft g1, lw.child O.ov hd g0 (.inl rfl), lw.child O.ov hd g1 (.inr rfl)⟩
theorem Own.cons {w : World} {S U : Sto} {bd : Cell → Option Cell} {cells rest : List (Addr × Obj)} {aH aK aB : Addr} {vh vk : List Value} {o : Obj} {n : Nat} (O : Own w S U bd cells rest aH aK aB vh vk o n) {e : Addr × Obj} (h : e.1 ≠ aB) : Own w S U bd cells (e :: rest) aH aK aB vh vk o n :=
  ⟨O.h, O.k, O.d, O.ov, O.ft, O.ac, O.sz, fun x hx => .tail _ (O.sub x hx), O.lo, O.hB, O.kB, fun p hp => by
    rcases List.mem_cons.mp hp with rfl | hp
    · exact h
    · exact O.rB p hp⟩
theorem News.law1 {h₀ h : Heap} {L aH aK aB : Addr} {vh vk : List Value} {nh nk : Nat} {o : Obj} {e : Addr × Obj} {rest : List (Addr × Obj)} (N : News h₀ L h (e :: lawL aH aK aB vh vk nh nk o rest)) : News h₀ L h (lawL aH aK aB vh vk nh nk o (e :: rest)) := N.perm (by walk_at "MINE perm")
theorem News.unlaw1 {h₀ h : Heap} {L aH aK aB : Addr} {vh vk : List Value} {nh nk : Nat} {o : Obj} {e : Addr × Obj} {rest : List (Addr × Obj)} (N : News h₀ L h (lawL aH aK aB vh vk nh nk o (e :: rest))) : News h₀ L h (e :: lawL aH aK aB vh vk nh nk o rest) := N.perm (by walk_at "MINE perm")
local macro_rules | `(tactic| walk_at "MINE unr") => `(tactic| exact News.unlaw1 (by assumption))
theorem News.drop1 {h₀ h : Heap} {L aH aK aB : Addr} {vh vk : List Value} {nh nk : Nat} {o : Obj} {e : Addr × Obj} {rest : List (Addr × Obj)} (N : News h₀ L h (lawL aH aK aB vh vk nh nk o (e :: rest))) : News h₀ L h (lawL aH aK aB vh vk nh nk o rest) := N.perm (by walk_at "MINE perm")
theorem Ins.no_ {U : Sto} {x c : Cell} {b : Bool} (h : Ins U x c b) (k : b = false) : Ins U x c false := k ▸ h
def InsC (w : World) (S U : Sto) (bd : Cell → Option Cell) (cells : List (Addr × Obj)) (aH aK aB : Addr) (vh vk : List Value) (nh nk : Nat) (o : Obj) (nb : Nat) (x : Cell) (vx : Value) (N n : Nat) : Prop :=
  ∀ k rest v c, Own w S U bd cells rest aH aK aB vh vk o nb → k + n = 2 * N + 3 → IsCell cells v c → U.Ok c → Low U N c k → Does w 383 (n + 2) [vx, v, .ref aH, .ref aK, .ref aB] (lawL aH aK aB vh vk nh nk o rest) (fun r news' => news' = lawL aH aK aB vh vk nh nk o rest ∧ ∃ b, r = .bool b ∧ Ins U x c b)
theorem InsC.use {w : World} {S U : Sto} {bd : Cell → Option Cell} {cells rest : List (Addr × Obj)} {aH aK aB : Addr} {vh vk : List Value} {nh nk : Nat} {o : Obj} {nb : Nat} {x : Cell} {vx : Value} {N n k : Nat} {v : Value} {c : Cell} (h : InsC w S U bd cells aH aK aB vh vk nh nk o nb x vx N n := by assumption) (O : Own w S U bd cells rest aH aK aB vh vk o nb := by first | assumption | (refine' Own.cons (by assumption) ?_; k_ne)) (hv : IsCell cells v c := by assumption) (ok : U.Ok c := by assumption) (lw : Low U N c k := by assumption) (hk : k + n = 2 * N + 3 := by omega) :
    Does w 383 (n + 2) [vx, v, .ref aH, .ref aK, .ref aB] (lawL aH aK aB vh vk nh nk o rest) (fun r news' => news' = lawL aH aK aB vh vk nh nk o rest ∧ ∃ b, r = .bool b ∧ Ins U x c b) := h k rest v c O hk hv ok lw
theorem follow_raw {w : World} {S U : Sto} {bd : Cell → Option Cell} {cells rest : List (Addr × Obj)} {aH aK aB : Addr} {vh vk : List Value} {o : Obj} {n nh nk k N : Nat} {v : Value} {c : Cell} (O : Own w S U bd cells rest aH aK aB vh vk o n := by assumption) (hv : IsCell cells v c := by assumption) (ok : U.Ok c := by assumption) (lw : Low U N c k := by assumption) :
   Does w 376 1 [v, .ref aH, .ref aK, .ref aB] (lawL aH aK aB vh vk nh nk o rest) (fun r news' => news' = lawL aH aK aB vh vk nh nk o rest ∧ ∃ d, IsCell cells r d ∧ Deref U c d ∧ U.Ok d ∧ (∀ a, d = .lis a → ∃ c0 c1, At S.H ((a : Int) + 0) c0 ∧ At S.H ((a : Int) + 1) c1 ∧ S.get (.ref a) = some c0 ∧ S.get (.ref (a + 1)) = some c1 ∧ U.Ok c0 ∧ U.Ok c1 ∧ Low U N c0 (k + 1) ∧ Low U N c1 (k + 1))) := by
  constructor
  intro dp un gd cn cs a ccd cl outer A₀ base h₀ L mean mg mb m s Q E B F X N T hk hdp hun hret
  exact (follow_does O hv ok).use B F X N T hk hdp hun fun r n' h' tk' F' N' ⟨e, d, d1, d2, d3⟩ => hret r n' h' tk' F' N' ⟨e, d, d1, d2, d3, O.raw d3 d2 lw⟩
theorem pk_raw {S U : Sto} {nn cells : List (Addr × Obj)} {c : Cell} {k N : Nat} : Kof (fun r n' => n' = nn ∧ ∃ d, IsCell cells r d ∧ Deref U c d ∧ U.Ok d ∧ (∀ a, d = .lis a → ∃ c0 c1, At S.H ((a : Int) + 0) c0 ∧ At S.H ((a : Int) + 1) c1 ∧ S.get (.ref a) = some c0 ∧ S.get (.ref (a + 1)) = some c1 ∧ U.Ok c0 ∧ U.Ok c1 ∧ Low U N c0 (k + 1) ∧ Low U N c1 (k + 1)))
    (fun Z => (∀ (a : Nat) b t u, (b, tupO 0 t (a : Int) u) ∈ cells → IsCell cells (.ref b) (.ref a) → Deref U c (.ref a) → U.Ok (.ref a) → Z (.ref b) nn) ∧
      (∀ (a : Nat) b t u, (b, tupO 1 t (a : Int) u) ∈ cells → IsCell cells (.ref b) (.srf a) → Deref U c (.srf a) → U.Ok (.srf a) → Z (.ref b) nn) ∧
      (∀ (a : Nat) b t u c0 c1, (b, tupO 3 t (a : Int) u) ∈ cells → IsCell cells (.ref b) (.lis a) → Deref U c (.lis a) → U.Ok (.lis a) → At S.H ((a : Int) + 0) c0 → At S.H ((a : Int) + 1) c1 → S.get (.ref a) = some c0 → S.get (.ref (a + 1)) = some c1 → U.Ok c0 → U.Ok c1 → Low U N c0 (k + 1) → Low U N c1 (k + 1) → Z (.ref b) nn) ∧
      (∀ (a : Nat) b t u, (b, tupO 5 t (a : Int) u) ∈ cells → IsCell cells (.ref b) (.int a) → Deref U c (.int a) → U.Ok (.int a) → Z (.ref b) nn)) := by
  rintro Z ⟨z1, z2, z3, z4⟩ _ _ ⟨rfl, d, h1, h2, h3, h4⟩
  have h := h1
  cases h1 with
  | ref m => exact z1 _ _ _ _ m h h2 h3
  | srf m => exact z2 _ _ _ _ m h h2 h3
  | lis m => obtain ⟨c0, c1, i0, i1, j0, j1, m0, m1, n0, n1⟩ := h4 _ rfl; exact z3 _ _ _ _ c0 c1 m h h2 h3 i0 i1 j0 j1 m0 m1 n0 n1
  | int m => exact z4 _ _ _ _ m h h2 h3
local macro_rules | `(tactic| walk_at "call ref") => `(tactic| (k_here; k_dflt ((with_reducible show wpAny _ _ (call (Value.ref 376) _) _ _ _); refine' Does.useK (D := follow_raw) (k := pk_raw) (ret := ?_)); k_whole; intro h' tk' F'; refine ⟨?_, ?_, ?_, ?_⟩ <;> walk_at "MINE ret"))
local macro_rules | `(tactic| walk_at "call ref") => `(tactic| (k_here; k_dflt (((with_reducible show wpAny _ _ (call (Value.ref 383) _) _ _ _); refine' Does.useK (N := by first | assumption | exact News.law1 (by assumption)) (D := InsC.use) (k := pk_bool) (ret := ?_))); walk_at "MINE ret"))
set_option maxRecDepth 100000 in
set_option maxHeartbeats 8000000 in
theorem inside_does {w : World} {S U : Sto} {bd : Cell → Option Cell} {cells : List (Addr × Obj)} {aH aK aB : Addr} {vh vk : List Value} {o : Obj} {nb nh nk : Nat} {vx : Value} {x : Cell} (hvx : IsCell cells vx x) (hx : U.get x = some x) :
    ∀ n, InsC w S U bd cells aH aK aB vh vk nh nk o nb x vx S.room n := by
  obtain ⟨bx, _, _, rfl, _⟩ := id hvx.out
  intro n
  induction n with
  | zero =>
    intro k rest v c O hk hv ok lw
    obtain rfl : k = 2 * S.room + 3 := by omega
    exact (Low.end_ O.ac (Nat.le_of_eq O.ov.room) lw).elim
  | succ n ih =>
    intro k rest v c O hk hv ok lw
    have Os := O.sub
    have Oh := O.h
    have hroom : S.H.length ≤ 40 := by have := O.sz; unfold Sto.room at this; omega
    obtain ⟨bv, _, _, rfl, _⟩ := id hv.out
    (w_top off; constructor; intro dp un gd cn cs a ccd cl outer A₀ base h₀ L mean mg mb m s Q E B F X N T hk hdp hun hret; refine wpAny_call ?_; k_dflt ktr_enter)
    k_steps
    · rename Deref U c _ => hD
      exact hret _ _ _ _ (by assumption) (by assumption) ⟨rfl, _, rfl, ins_end hx hD rfl⟩
    · rename Deref U c _ => hD
      exact hret _ _ _ _ (by assumption) (by assumption) ⟨rfl, _, rfl, ins_end hx hD rfl⟩
    · rename Deref U c _ => hD
      rename Ins U x _ _ => hI
      rename _ = true => hb
      rw [hb] at hI
      exact hret _ _ _ _ (by assumption) (News.drop1 (by assumption)) ⟨rfl, true, rfl, ins_hit O.ov hD (by assumption) (.inl rfl) hI⟩
    · rename Deref U c _ => hD
      rename Ins U x _ _ => hI
      rename _ = true => hb
      rw [hb] at hI
      exact hret _ _ _ _ (by assumption) (News.drop1 (by assumption)) ⟨rfl, true, rfl, ins_hit O.ov hD (by assumption) (.inr rfl) hI⟩
    · rename Deref U c _ => hD
      exact hret _ _ _ _ (by assumption) (by first | assumption | exact News.drop1 (by assumption)) ⟨rfl, false, rfl, ins_miss O.ov hx hD (by assumption) (by assumption) (Ins.no_ (by assumption) (by assumption)) (Ins.no_ (by assumption) (by assumption))⟩
    · rename Deref U c _ => hD
      exact hret _ _ _ _ (by assumption) (by assumption) ⟨rfl, _, rfl, ins_end hx hD rfl⟩
end inside
section meet
def rawc (S : Sto) (n : Nat) : Cell := (S.H[n]?).getD (.int 0)
theorem rawc_get {S : Sto} {n : Nat} (h : n < S.H.length) : S.get (.ref n) = some (rawc S n) := by
  show S.H[n]? = some ((S.H[n]?).getD (.int 0))
  rw [List.getElem?_eq_getElem h]; rfl
theorem tag3 {d : Cell} (h : d.tag = 3) : d = .lis d.num := by cases d <;> first | rfl | (simp [Cell.tag] at h)
theorem tag_var {d : Cell} (h : d.tag = 0 ∨ d.tag = 1) : d.isVar = true := by cases d <;> first | rfl | (simp [Cell.tag] at h)
theorem tag_notvar {d : Cell} (h : ¬ d.tag = 0) (k : ¬ d.tag = 1) : d.isVar = false := by cases d <;> first | rfl | (simp_all [Cell.tag])
theorem tag_notlis {d : Cell} (h : ¬ d.tag = 3) : d.isLis = false := by cases d <;> first | rfl | (simp [Cell.tag] at h)
theorem unb_tag {U : Sto} {c d : Cell} (h : Deref U c d) (k : d.tag = 0 ∨ d.tag = 1) : U.get d = some d := by
  rcases h.end_ with e | e
  · rw [tag_var k] at e; cases e
  · exact e
section
variable {w : World} {S U : Sto} {bd : Cell → Option Cell} {cells rest : List (Addr × Obj)} {aH aK aB : Addr} {vh vk : List Value} {o : Obj} {n : Nat} {c d : Cell} {k N : Nat}
theorem Own.num (O : Own w S U bd cells rest aH aK aB vh vk o n) (ok : U.Ok d) : d.tag = 3 → d.num + 1 < S.H.length := by
  intro h
  rw [tag3 h] at ok
  have := ok (.ref (d.num + 1)) (by simp [tgt])
  rw [O.ov.some_] at this
  exact get_isSome.mp this
theorem Own.at0 (O : Own w S U bd cells rest aH aK aB vh vk o n) {a : Nat} (h : a < S.H.length) : At S.H ((a : Int) + 0) (rawc S a) :=
  At.of (rawc_get h) (by have := O.sz; unfold Sto.room at this; omega) (by omega)
theorem Own.at1 (O : Own w S U bd cells rest aH aK aB vh vk o n) {a : Nat} (h : a + 1 < S.H.length) : At S.H ((a : Int) + 1) (rawc S (a + 1)) :=
  At.of (rawc_get h) (by have := O.sz; unfold Sto.room at this; omega) (by omega)
theorem Own.okraw (O : Own w S U bd cells rest aH aK aB vh vk o n) {a : Nat} (h : a < S.H.length) : U.Ok (rawc S a) := O.ov.ok_raw O.ft (rawc_get h)
theorem Own.low0 (O : Own w S U bd cells rest aH aK aB vh vk o n) (lw : Low U N c k) (hd : Deref U c d) (ht : d.tag = 3) (h : d.num < S.H.length) : Low U N (rawc S d.num) (k + 1) := by
  rw [tag3 ht] at hd
  exact lw.child O.ov hd (rawc_get h) (.inl rfl)
theorem Own.low1 (O : Own w S U bd cells rest aH aK aB vh vk o n) (lw : Low U N c k) (hd : Deref U c d) (ht : d.tag = 3) (h : d.num + 1 < S.H.length) : Low U N (rawc S (d.num + 1)) (k + 1) := by
  rw [tag3 ht] at hd
  exact lw.child O.ov hd (rawc_get h) (.inr rfl)
theorem plain_closed {x : Cell} (h : Deref U c d) (hl : ¬ d.tag = 3) (hne : d ≠ x) : ∃ P, Closed U P ∧ (∀ y ∈ tgt d, P y) ∧ ¬ P x := by
  rcases h.end_ with hv | hu
  · have ht : tgt d = [] := by cases d <;> simp_all [tgt, Cell.isVar, Cell.tag]
    exact ⟨fun _ => False, fun _ _ h => h.elim, (by rw [ht]; intro y hy; cases hy), fun h => h⟩
  · refine ⟨fun z => z = d, ?_, ?_, fun e => hne e.symm⟩
    · rintro z e rfl hg he
      rw [hu] at hg
      exact absurd (Option.some.inj hg).symm he
    · intro y hy
      rw [tgt_var (get_var hu)] at hy
      exact List.mem_singleton.mp hy
/-- what a call of the own reading leaves where it says yes -/
def MetS (w : World) (S U : Sto) (cells rest : List (Addr × Obj)) (aH aK aB : Addr) (vh vk : List Value) (o' : Obj) (c d : Cell) : Prop :=
  ∃ bd' U' nb', Met S U c d bd' U' ∧ Own w S U' bd' cells rest aH aK aB vh vk o' nb' ∧ nb' + U'.free ≤ 500
theorem mets_bind {nb : Nat} {o' : Obj} {one two x y d1 d2 : Cell} (O : Own w S U bd cells rest aH aK aB vh vk o nb) (hf : nb + U.free ≤ 500) (h1 : Deref U one d1) (h2 : Deref U two d2) (hxc : (x = d1 ∧ y = d2) ∨ (x = d2 ∧ y = d1)) (hx : U.get x = some x) (hne : y ≠ x) (ok : U.Ok y)
    (hP : ∃ P, Closed U P ∧ (∀ z ∈ tgt y, P z) ∧ ¬ P x) (D : BDict w cells o' (fun z => if z = x then some y else bd z) (nb + 1)) : MetS w S U cells rest aH aK aB vh vk o' one two := by
  obtain ⟨P, p1, p2, p3⟩ := hP
  have M := met_bind O.ov O.ft O.ac h1 h2 hxc hx hne ok p1 p2 p3
  have := free_set hx hne
  exact ⟨_, _, _, M, ⟨O.h, O.k, D, M.ov, M.fit, M.ac, O.sz, O.sub, O.lo, O.hB, O.kB, O.rB⟩, by omega⟩
end
theorem Own.drop {w : World} {S U : Sto} {bd : Cell → Option Cell} {cells rest : List (Addr × Obj)} {aH aK aB : Addr} {vh vk : List Value} {o : Obj} {n : Nat} {e : Addr × Obj} (O : Own w S U bd cells (e :: rest) aH aK aB vh vk o n) (hs : Sub cells rest) : Own w S U bd cells rest aH aK aB vh vk o n :=
  ⟨O.h, O.k, O.d, O.ov, O.ft, O.ac, O.sz, hs, O.lo, O.hB, O.kB, fun p hp => O.rB p (.tail _ hp)⟩
theorem News.tail0 {h₀ h : Heap} {L : Addr} {e : Addr × Obj} {l : List (Addr × Obj)} (N : News h₀ L h (e :: l)) : News h₀ L h l := fun x hx => N x (.tail _ hx)
section
variable {w : World} {S U : Sto} {bd : Cell → Option Cell} {cells rest : List (Addr × Obj)} {aH aK aB : Addr} {vh vk : List Value} {o o' : Obj} {nh nk nb : Nat} {c d d1 d2 x y : Cell} {b : Bool}
abbrev MPost (w : World) (S U : Sto) (cells rest : List (Addr × Obj)) (aH aK aB : Addr) (vh vk : List Value) (nh nk : Nat) (c d : Cell) (r : Value) (news' : List (Addr × Obj)) : Prop :=
  ∃ b o', r = .bool b ∧ news' = lawL aH aK aB vh vk nh nk o' rest ∧ (b = true → MetS w S U cells rest aH aK aB vh vk o' c d) ∧ (b = false → ∀ ρ, Sol U ρ → den ρ c ≠ den ρ d)
theorem post_eq (O : Own w S U bd cells rest aH aK aB vh vk o nb) (hf : nb + U.free ≤ 500) (h1 : Deref U c d1) (h2 : Deref U d d2) (e : d1 = d2) : MPost w S U cells rest aH aK aB vh vk nh nk c d (.bool true) (lawL aH aK aB vh vk nh nk o rest) := by
  subst e
  exact ⟨true, o, rfl, rfl, fun _ => ⟨bd, U, nb, met_eq O.ov O.ft O.ac h1 h2, O, hf⟩, fun h => (nomatch h)⟩
theorem post_no (h1 : Deref U c d1) (h2 : Deref U d d2) (hI : Ins U x y b) (hb : b = true) (hl : y.tag = 3) (hxc : (x = d1 ∧ y = d2) ∨ (x = d2 ∧ y = d1)) : MPost w S U cells rest aH aK aB vh vk nh nk c d (.bool false) (lawL aH aK aB vh vk nh nk o rest) := by
  refine ⟨false, o, rfl, rfl, fun h => (nomatch h), fun _ ρ hρ e => ?_⟩
  have := (hI.yes hb ρ hρ).2 (by rw [tag3 hl]; rfl)
  rw [h1.den hρ, h2.den hρ] at e
  rcases hxc with ⟨rfl, rfl⟩ | ⟨rfl, rfl⟩
  · rw [e] at this; omega
  · rw [e] at this; omega
theorem post_bind (O : Own w S U bd cells rest aH aK aB vh vk o nb) (hf : nb + U.free ≤ 500) (h1 : Deref U c d1) (h2 : Deref U d d2) (o1 : U.Ok d1) (o2 : U.Ok d2) (ne : ¬ d1 = d2) (D : BDict w cells o' (fun z => if z = x then some y else bd z) (nb + 1)) (hxc : (x = d1 ∧ y = d2) ∨ (x = d2 ∧ y = d1)) (hv : x.tag = 0 ∨ x.tag = 1)
    (hy : ¬ y.tag = 3 ∨ Ins U x y false) : MPost w S U cells rest aH aK aB vh vk nh nk c d (.bool true) (lawL aH aK aB vh vk nh nk o' rest) := by
  have hx : U.get x = some x := by
    rcases hxc with ⟨rfl, _⟩ | ⟨rfl, _⟩
    · exact unb_tag h1 hv
    · exact unb_tag h2 hv
  have hne : y ≠ x := by
    rcases hxc with ⟨rfl, rfl⟩ | ⟨rfl, rfl⟩
    · exact fun e => ne e.symm
    · exact ne
  have ok : U.Ok y := by
    rcases hxc with ⟨_, rfl⟩ | ⟨_, rfl⟩
    · exact o2
    · exact o1
  have hP : ∃ P, Closed U P ∧ (∀ z ∈ tgt y, P z) ∧ ¬ P x := by
    rcases hy with hy | hI
    · rcases hxc with ⟨rfl, rfl⟩ | ⟨rfl, rfl⟩
      · exact plain_closed h2 hy hne
      · exact plain_closed h1 hy hne
    · exact hI.no rfl
  exact ⟨true, o', rfl, rfl, fun _ => mets_bind O hf h1 h2 hxc hx hne ok hP D, fun h => (nomatch h)⟩
theorem post_clash (h1 : Deref U c d1) (h2 : Deref U d d2) (ne : ¬ d1 = d2) (v1 : ¬ d1.tag = 0) (v2 : ¬ d1.tag = 1) (v3 : ¬ d2.tag = 0) (v4 : ¬ d2.tag = 1) (hl : ¬ d1.tag = 3 ∨ ¬ d2.tag = 3) : MPost w S U cells rest aH aK aB vh vk nh nk c d (.bool false) (lawL aH aK aB vh vk nh nk o rest) := by
  refine ⟨false, o, rfl, rfl, fun h => (nomatch h), fun _ ρ hρ => ?_⟩
  rw [h1.den hρ, h2.den hρ]
  exact clash (tag_notvar v1 v2) (tag_notvar v3 v4) ne (hl.imp tag_notlis tag_notlis) ρ
theorem post_lis0 (O : Own w S U bd cells rest aH aK aB vh vk o nb) (h1 : Deref U c d1) (h2 : Deref U d d2) (o1 : U.Ok d1) (o2 : U.Ok d2) (t1 : d1.tag = 3) (t2 : d2.tag = 3) (k : ∀ ρ, Sol U ρ → den ρ (rawc S d1.num) ≠ den ρ (rawc S d2.num)) : MPost w S U cells rest aH aK aB vh vk nh nk c d (.bool false) (lawL aH aK aB vh vk nh nk o' rest) := by
  have n1 := O.num o1 t1
  have n2 := O.num o2 t2
  rw [tag3 t1] at h1
  rw [tag3 t2] at h2
  exact ⟨false, o', rfl, rfl, fun h => (nomatch h), fun _ => unmet_lis (bd1 := bd) (T1 := U) O.ov h1 h2 (rawc_get (by omega)) (rawc_get n1) (rawc_get (by omega)) (rawc_get n2) (.inl k)⟩
theorem post_lis1 {bd1 : Cell → Option Cell} {U1 : Sto} (O : Own w S U bd cells rest aH aK aB vh vk o nb) (h1 : Deref U c d1) (h2 : Deref U d d2) (o1 : U.Ok d1) (o2 : U.Ok d2) (t1 : d1.tag = 3) (t2 : d2.tag = 3) (m : Met S U (rawc S d1.num) (rawc S d2.num) bd1 U1)
    (k : ∀ ρ, Sol U1 ρ → den ρ (rawc S (d1.num + 1)) ≠ den ρ (rawc S (d2.num + 1))) : MPost w S U cells rest aH aK aB vh vk nh nk c d (.bool false) (lawL aH aK aB vh vk nh nk o' rest) := by
  have n1 := O.num o1 t1
  have n2 := O.num o2 t2
  rw [tag3 t1] at h1
  rw [tag3 t2] at h2
  exact ⟨false, o', rfl, rfl, fun h => (nomatch h), fun _ => unmet_lis O.ov h1 h2 (rawc_get (by omega)) (rawc_get n1) (rawc_get (by omega)) (rawc_get n2) (.inr ⟨m, k⟩)⟩
theorem post_lis2 {bd1 bd2 : Cell → Option Cell} {U1 U2 : Sto} {nb2 : Nat} (O : Own w S U bd cells rest aH aK aB vh vk o nb) (h1 : Deref U c d1) (h2 : Deref U d d2) (o1 : U.Ok d1) (o2 : U.Ok d2) (t1 : d1.tag = 3) (t2 : d2.tag = 3) (m : Met S U (rawc S d1.num) (rawc S d2.num) bd1 U1)
    (m2 : Met S U1 (rawc S (d1.num + 1)) (rawc S (d2.num + 1)) bd2 U2) (O2 : Own w S U2 bd2 cells rest aH aK aB vh vk o' nb2) (hf2 : nb2 + U2.free ≤ 500) : MPost w S U cells rest aH aK aB vh vk nh nk c d (.bool true) (lawL aH aK aB vh vk nh nk o' rest) := by
  have n1 := O.num o1 t1
  have n2 := O.num o2 t2
  rw [tag3 t1] at h1
  rw [tag3 t2] at h2
  exact ⟨true, o', rfl, rfl, fun _ => ⟨bd2, U2, nb2, met_lis O.ov h1 h2 (rawc_get (by omega)) (rawc_get n1) (rawc_get (by omega)) (rawc_get n2) m m2, O2, hf2⟩, fun h => (nomatch h)⟩
end
local macro_rules | `(tactic| walk_at "MINE unr") => `(tactic| exact News.unlaw1 (by assumption))
def MeetC (w : World) (S : Sto) (cells : List (Addr × Obj)) (aH aK aB : Addr) (vh vk : List Value) (nh nk : Nat) (N n : Nat) : Prop :=
  ∀ k rest U bd o nb v1 v2 c d, Own w S U bd cells rest aH aK aB vh vk o nb → nb + U.free ≤ 500 → k + n = 2 * N + 3 → IsCell cells v1 c → IsCell cells v2 d → U.Ok c → U.Ok d → Low U N c k →
    Does w 390 (n + (2 * N + 8)) [v1, v2, .ref aH, .ref aK, .ref aB] (lawL aH aK aB vh vk nh nk o rest) (fun r news' => ∃ b o', r = .bool b ∧ news' = lawL aH aK aB vh vk nh nk o' rest ∧
      (b = true → MetS w S U cells rest aH aK aB vh vk o' c d) ∧ (b = false → ∀ ρ, Sol U ρ → den ρ c ≠ den ρ d))
theorem MeetC.use {w : World} {S : Sto} {cells : List (Addr × Obj)} {aH aK aB : Addr} {vh vk : List Value} {nh nk : Nat} {N n : Nat} (h : MeetC w S cells aH aK aB vh vk nh nk N n := by assumption) {k : Nat} {rest : List (Addr × Obj)} {U : Sto} {bd : Cell → Option Cell} {o : Obj} {nb : Nat} {v1 v2 : Value} {c d : Cell}
    (O : Own w S U bd cells rest aH aK aB vh vk o nb := by first | assumption | (refine' Own.cons (by assumption) ?_; k_ne)) (hf : nb + U.free ≤ 500 := by assumption) (h1 : IsCell cells v1 c := by assumption) (h2 : IsCell cells v2 d := by assumption) (o1 : U.Ok c := by exact Own.okraw (by assumption) (by omega)) (o2 : U.Ok d := by exact Own.okraw (by assumption) (by omega)) (lw : Low U N c k := by first | exact Own.low0 (by assumption) (by assumption) (by assumption) (by assumption) (by omega) | exact Low.ext (by assumption) (Own.low1 (by assumption) (by assumption) (by assumption) (by assumption) (by omega))) (hk : k + n = 2 * N + 3 := by omega) :
    Does w 390 (n + (2 * N + 8)) [v1, v2, .ref aH, .ref aK, .ref aB] (lawL aH aK aB vh vk nh nk o rest) (fun r news' => ∃ b o', r = .bool b ∧ news' = lawL aH aK aB vh vk nh nk o' rest ∧
      (b = true → MetS w S U cells rest aH aK aB vh vk o' c d) ∧ (b = false → ∀ ρ, Sol U ρ → den ρ c ≠ den ρ d)) := h k rest U bd o nb v1 v2 c d O hf hk h1 h2 o1 o2 lw
theorem inside_use {w : World} {S U : Sto} {bd : Cell → Option Cell} {cells rest : List (Addr × Obj)} {aH aK aB : Addr} {vh vk : List Value} {o : Obj} {nb nh nk : Nat} {vx : Value} {x : Cell} {v : Value} {c : Cell} {N : Nat} (O : Own w S U bd cells rest aH aK aB vh vk o nb := by first | assumption | (refine' Own.cons (by assumption) ?_; k_ne)) (hv : IsCell cells v c := by assumption) (ok : U.Ok c := by assumption) (hvx : IsCell cells vx x := by assumption) (hx : U.get x = some x := by exact unb_tag (by assumption) (by omega)) (hN : N = S.room := by rfl) :
    Does w 383 (2 * N + 5) [vx, v, .ref aH, .ref aK, .ref aB] (lawL aH aK aB vh vk nh nk o rest) (fun r news' => news' = lawL aH aK aB vh vk nh nk o rest ∧ ∃ b, r = .bool b ∧ Ins U x c b) := by
  subst hN
  exact inside_does hvx hx (2 * S.room + 3) 0 rest v c O (by omega) hv ok (Low.start _ _ _)
local macro_rules | `(tactic| walk_at "subscriptTail Name BinOp ref int") => `(tactic| (k_here; (with_reducible show wpAny _ _ (subscriptTail _ _ (Value.ref _) (Value.int _ _)) _ _ _); k_dflt (
  refine' cells_item (hc := by first | exact Own.at0 (by assumption) (by omega) | exact Own.at1 (by assumption) (by omega)) (h := ?_)); k_whole; (repeat intro)))
theorem follow_num {w : World} {S U : Sto} {bd : Cell → Option Cell} {cells rest : List (Addr × Obj)} {aH aK aB : Addr} {vh vk : List Value} {o : Obj} {n nh nk : Nat} {v : Value} {c : Cell} (O : Own w S U bd cells rest aH aK aB vh vk o n := by assumption) (hv : IsCell cells v c := by assumption) (ok : U.Ok c := by assumption) :
   Does w 376 1 [v, .ref aH, .ref aK, .ref aB] (lawL aH aK aB vh vk nh nk o rest) (fun r news' => news' = lawL aH aK aB vh vk nh nk o rest ∧ ∃ d, IsCell cells r d ∧ Deref U c d ∧ (U.Ok d ∧ (d.tag = 3 → d.num + 1 < S.H.length))) := by
  constructor
  intro dp un gd cn cs a ccd cl outer A₀ base h₀ L mean mg mb m s Q E B F X N T hk hdp hun hret
  exact (follow_does O hv ok).use B F X N T hk hdp hun fun r n' h' tk' F' N' ⟨e, d, d1, d2, d3⟩ => hret r n' h' tk' F' N' ⟨e, d, d1, d2, d3, O.num d3⟩
theorem pk_follow {nn tups : List (Addr × Obj)} {P P' P2 : Cell → Prop} : Kof (fun r n' => n' = nn ∧ ∃ d, IsCell tups r d ∧ P d ∧ (P' d ∧ P2 d))
    (fun Z => ∀ d, P d → P' d → ∀ b t u, (b, tupO d.tag t (d.num : Int) u) ∈ tups → IsCell tups (.ref b) d → P2 d → Z (.ref b) nn) := by
  rintro Z h _ _ ⟨rfl, d, h1, h2, h3, h4⟩
  obtain ⟨b, t, u, rfl, hm⟩ := h1.out
  exact h d h2 h3 b t u hm h1 h4
theorem pk_meet {w : World} {S U : Sto} {cells rest : List (Addr × Obj)} {x : Addr × Obj} {aH aK aB : Addr} {vh vk : List Value} {c d : Cell} {NN : Obj → List (Addr × Obj)} {P : Prop} (hs : Sub cells rest) :
    Kof (fun r n' => ∃ b o', r = .bool b ∧ n' = NN o' ∧ (b = true → MetS w S U cells (x :: rest) aH aK aB vh vk o' c d) ∧ (b = false → P))
      (fun Z => (∀ o', (false = false → P) → Z (.bool false) (NN o')) ∧
        (∀ o' bd' U' nb', Met S U c d bd' U' → @LE.le Nat _ (nb' + U'.free) 500 → Ext U U' → Own w S U' bd' cells rest aH aK aB vh vk o' nb' → Z (.bool true) (NN o'))) := by
  rintro Z ⟨h, h'⟩ _ _ ⟨b, o', rfl, rfl, h1, h2⟩
  cases b
  · exact h o' h2
  · obtain ⟨bd', U', nb', hM, hW, hf⟩ := h1 rfl
    exact h' o' bd' U' nb' hM hf hM.ext (Own.drop hW hs)
local macro_rules | `(tactic| walk_at "call ref") => `(tactic| (k_here; k_dflt (first | ((with_reducible show wpAny _ _ (call (Value.ref 376) _) _ _ _); refine' Does.useK (D := follow_num) (k := pk_follow) (ret := ?_)) | ((with_reducible show wpAny _ _ (call (Value.ref 383) _) _ _ _); refine' Does.useK (N := by first | assumption | exact News.law1 (by assumption)) (D := inside_use) (k := pk_bool) (ret := ?_))); walk_at "MINE ret"))
local macro_rules | `(tactic| walk_at "call ref") => `(tactic| (k_here; k_dflt (((with_reducible show wpAny _ _ (call (Value.ref 390) _) _ _ _); refine' Does.useK (N := by first | assumption | exact News.law1 (by assumption)) (D := MeetC.use) (k := (pk_meet (by assumption))) (ret := ?_))); walk_at "MINE ret2"))
local macro_rules | `(tactic| walk_at "setItem ref ref") => `(tactic| (k_here; (with_reducible show wpAny _ _ (setItem (Value.ref _) (Value.ref _) (Value.ref _)) _ _ _); k_dflt (refine' bd_set (h := ?_)); k_whole; intro h' o' tk' F' N' hB'; (try dsimp only [List.cons_append, List.nil_append] at N')))
set_option maxRecDepth 100000 in
set_option maxHeartbeats 8000000 in
theorem meet_does {w : World} {S : Sto} {cells : List (Addr × Obj)} {aH aK aB : Addr} {vh vk : List Value} {nh nk : Nat} : ∀ n, MeetC w S cells aH aK aB vh vk nh nk S.room n := by
  intro n
  induction n with
  | zero =>
    intro k rest U bd o nb v1 v2 c d O hf hk h1 h2 ok1 ok2 lw
    obtain rfl : k = 2 * S.room + 3 := by omega
    exact (Low.end_ O.ac (Nat.le_of_eq O.ov.room) lw).elim
  | succ n ih =>
    intro k rest U bd o nb v1 v2 c d O hf hk hv1 hv2 ok1 ok2 lw
    have Oh := O.h
    have Od := O.d
    have Oo := O.ov
    have Os := O.sub
    have Ol := O.lo
    have OhB := O.hB
    have OkB := O.kB
    have OrB := O.rB
    have hroom : S.H.length ≤ 40 := by have := O.sz; unfold Sto.room at this; omega
    obtain ⟨b1, _, _, rfl, _⟩ := id hv1.out
    obtain ⟨b2, _, _, rfl, _⟩ := id hv2.out
    (w_top off; constructor; intro dp un gd cn cs a ccd cl outer A₀ base h₀ L mean mg mb m s Q E B F X N T hk hdp hun hret; refine wpAny_call ?_; k_dflt ktr_enter)
    k_steps
    all_goals (rename Deref U c _ => hD1)
    all_goals (rename Deref U d _ => hD2)
    all_goals (first
      | (exfalso; omega)
      | exact hret _ _ _ _ (by assumption) (by assumption) (post_eq O hf hD1 hD2 (by assumption))
      | (rename Ins U _ _ _ => hI; exact hret _ _ _ _ (by assumption) (by first | assumption | exact News.drop1 (by assumption)) (post_no hD1 hD2 hI (by assumption) (by assumption) (by first | exact .inl ⟨rfl, rfl⟩ | exact .inr ⟨rfl, rfl⟩)))
      | (rename Ins U _ _ _ => hI; exact hret _ _ _ _ (by assumption) (by first | assumption | exact News.drop1 (by assumption)) (post_bind O hf hD1 hD2 (by assumption) (by assumption) (by assumption) (by assumption) (by first | exact .inl ⟨rfl, rfl⟩ | exact .inr ⟨rfl, rfl⟩) (by omega) (.inr (Ins.no_ hI (by assumption)))))
      | (exact hret _ _ _ _ (by assumption) (by first | assumption | exact News.tail0 (by assumption)) (post_bind O hf hD1 hD2 (by assumption) (by assumption) (by assumption) (by assumption) (by first | exact .inl ⟨rfl, rfl⟩ | exact .inr ⟨rfl, rfl⟩) (by omega) (.inl (by assumption))))
      | (exact hret _ _ _ _ (by assumption) (by assumption) (post_clash (o := o) hD1 hD2 (by assumption) (by omega) (by omega) (by omega) (by omega) (by omega)))
      | skip)
    · rename false = false → _ => hF
      exact hret _ _ _ _ (by assumption) (News.drop1 (by assumption)) (post_lis0 O hD1 hD2 (by assumption) (by assumption) (by assumption) (by assumption) (hF rfl))
    · rename false = false → _ => hF
      exact hret _ _ _ _ (by assumption) (News.drop1 (by assumption)) (post_lis1 O hD1 hD2 (by assumption) (by assumption) (by assumption) (by assumption) (by assumption) (hF rfl))
    · exact hret _ _ _ _ (by assumption) (by first | assumption | exact News.drop1 (by assumption)) (post_lis2 O hD1 hD2 (by assumption) (by assumption) (by assumption) (by assumption) (by assumption) (by assumption) (by assumption) (by assumption))
end meet
section store
set_option maxRecDepth 100000 in
set_option maxHeartbeats 8000000 in
theorem push_does {w : World} {p : SA} {q : SM} {rest : List (Addr × Obj)} {v : Value} (P : Apart p rest := by first | solve_by_elim | (refine' Apart.cons (by solve_by_elim) ?_ ?_; omega; (intro b hb; cases hb))) (hl : q.vh.length < 900 := by assumption) :
   Does w 97 1 [.ref p.xS, v] (led w p q rest) (fun r news' => ∃ t, r = .int (q.vh.length : Int) t ∧ news' = led w p { q with vh := q.vh ++ [v], nh := q.nh + 1 } rest) := by
  obtain ⟨o1, o2, o3, o4, off⟩ := P
  (w_top off; constructor; intro dp un gd cn cs a ccd cl outer A₀ base h₀ L mean mg mb m s Q E B F X N T hk hdp hun hret; refine wpAny_call ?_; k_dflt ktr_enter)
  k_steps
  exact hret _ _ _ _ (by assumption) (by assumption) ⟨_, rfl, rfl⟩
theorem fresh1 {w : World} {p : SA} {q : SM} {rest : List (Addr × Obj)} {d : Addr} {o : Obj} (l1 : @LT.lt Nat _ p.xS d ∧ @LT.lt Nat _ p.dS d ∧ @LT.lt Nat _ p.aH d ∧ @LT.lt Nat _ p.aK d ∧ @LT.lt Nat _ p.aT d ∧ AllLt d rest) : Fresh [(d, o)] (led w p q rest) := by
  intro e he x hx
  rw [List.mem_singleton.mp he]
  simp only [List.mem_cons] at hx
  rcases hx with rfl | rfl | rfl | rfl | rfl | hx
  · exact l1.1
  · exact l1.2.1
  · exact l1.2.2.1
  · exact l1.2.2.2.1
  · exact l1.2.2.2.2.1
  · exact ktn_ltOf l1.2.2.2.2.2 x hx
local macro_rules | `(tactic| walk_at "WhlIf") => `(tactic| (refine WhlIf.no (decide_eq_false (by omega)) ?_))
local macro_rules | `(tactic| walk_at "call ref") => `(tactic| (k_here; k_dflt (((with_reducible show wpAny _ _ (call (Value.ref 97) _) _ _ _); refine' Does.useK (N := by first | assumption | exact News.front1 (by assumption) | exact News.front2 (by assumption)) (D := push_does) (k := pk_int2) (ret := ?_))); walk_at "MINE ret"))
set_option maxRecDepth 100000 in
set_option maxHeartbeats 8000000 in
theorem newvar_does {w : World} {p : SA} {q : SM} {rest : List (Addr × Obj)} (P : Apart p rest := by assumption) (hl : q.vh.length < 900 := by assumption) :
   Does w 104 2 [.ref p.xS] (led w p q rest) (fun r news' => ∃ b o, r = .ref b ∧ news' = led w p { q with vh := q.vh ++ [.ref b], nh := q.nh + 1 } ((b, o) :: rest) ∧ IsCell [(b, o)] (.ref b) (.ref q.vh.length) ∧ Fresh [(b, o)] (led w p q rest)) := by
  have P2 := P
  obtain ⟨o1, o2, o3, o4, off⟩ := P
  (w_top off; constructor; intro dp un gd cn cs a ccd cl outer A₀ base h₀ L mean mg mb m s Q E B F X N T hk hdp hun hret; refine wpAny_call ?_; k_dflt ktr_enter)
  k_steps
  exact hret _ _ _ _ (by assumption) (by assumption) ⟨_, _, rfl, rfl, .ref (.head _), fresh1 (by assumption)⟩
set_option maxRecDepth 100000 in
set_option maxHeartbeats 8000000 in
theorem stackput_does {w : World} {p : SA} {q : SM} {rest : List (Addr × Obj)} {v : Value} {i : Int} {t : Tok} (P : Apart p rest) (hl : q.vk.length < 900) (hi : i = (q.vk.length : Int)) :
   Does w 174 1 [.ref p.xS, .int i t, v] (led w p q rest) (fun _ news' => news' = led w p { q with vk := q.vk ++ [v], nk := q.nk + 1 } rest) := by
  obtain ⟨o1, o2, o3, o4, off⟩ := P
  (w_top off; constructor; intro dp un gd cn cs a ccd cl outer A₀ base h₀ L mean mg mb m s Q E B F X N T hk hdp hun hret; refine wpAny_call ?_; k_dflt ktr_enter)
  k_steps
  exact hret _ _ _ _ (by assumption) (by assumption) rfl
end store
section loop
section
variable {prog : Program} {w : World} {A : Around} {E : Value → Shared → Prop} {s : Shared} {env : Env} {h₀ : Heap} {x : Str} {body : List Stmt} {Q : Flow → Shared → Prop}
/-- the end of a turn of a for over a range -/
def FPost (h₀ : Heap) (L : Addr) (s₁ : Shared) (I : Addr) (it : Obj) (rest : (Str → Option Value) → List (Addr × Obj) → Prop) (Q : Flow → Shared → Prop) (f : Flow) (s₂ : Shared) : Prop :=
  match f with
  | .ret v => Q (.ret v) s₂
  | .brk => Q .next s₂
  | .next => UnrEnd h₀ L s₁ I it rest s₂
  | .cont => UnrEnd h₀ L s₁ I it rest s₂
theorem range_rest {I : Addr} {a : Int} {n : Nat} (J : Nat → (Str → Option Value) → List (Addr × Obj) → Prop)
    (turn : ∀ i m news t h tk, i < n → J i m news → (∀ p ∈ news, p.1 ≠ I) → Fr h₀ env.locals h (fun y => if y = x then some (.int (a + (i : Int)) t) else m y) →
      News h₀ env.locals h ((I, itR (a + ((i + 1 : Nat) : Int)) ((n : Int) - ((i + 1 : Nat) : Int))) :: news) →
      wpAny (model prog w) A (execs body env) (FPost h₀ env.locals { s with heap := h, toks := tk } I (itR (a + ((i + 1 : Nat) : Int)) ((n : Int) - ((i + 1 : Nat) : Int))) (J (i + 1)) Q) E { s with heap := h, toks := tk })
    (done : ∀ m news h tk, J n m news → Fr h₀ env.locals h m → News h₀ env.locals h news → Q .next { s with heap := h, toks := tk }) :
    ∀ k i, i + k = n → ∀ m news, J i m news → (∀ p ∈ news, p.1 ≠ I) → RangeRest prog w A E h₀ env x body Q s I a n k i m news := by
  intro k
  induction k with
  | zero =>
    intro i hi m news hJ off
    obtain rfl : i = n := by omega
    exact RangeRest.zero fun h tk F N => done m news h tk hJ F N
  | succ k ih =>
    intro i hi m news hJ off
    refine RangeRest.succ fun t h tk F N => wpAny_mono (turn i m news t h tk (by omega) hJ off F N) (fun f s₂ p => ?_) fun _ _ e => e
    have fin : UnrEnd h₀ env.locals { s with heap := h, toks := tk } I (itR (a + ((i + 1 : Nat) : Int)) ((n : Int) - ((i + 1 : Nat) : Int))) (J (i + 1)) s₂ →
        UnrEnd h₀ env.locals { s with heap := h, toks := tk } I (itR (a + ((i + 1 : Nat) : Int)) ((n : Int) - ((i + 1 : Nat) : Int))) (RangeRest prog w A E h₀ env x body Q s I a n k (i + 1)) s₂ := by
      rintro ⟨h', tk', m', news', e, F', N', ho, r⟩
      exact ⟨h', tk', m', news', e, F', N', ho, ih (i + 1) (by omega) m' news' r ho⟩
    cases f with
    | ret v => exact p
    | brk => exact p
    | next => exact fin p
    | cont => exact fin p
theorem range_do {r : Addr} {a₀ b₀ : Int} {t₀ u₀ v₀ : Tok} {n : Nat} {m₀ : Str → Option Value} {news : List (Addr × Obj)} (J : Nat → (Str → Option Value) → List (Addr × Obj) → Prop)
    (hr : IsRange s.heap r a₀ b₀ 1 t₀ u₀ v₀) (F : Fr h₀ env.locals s.heap m₀) (N : News h₀ env.locals s.heap news) (hsmall : Builtin.Range.small a₀ b₀ 1 = true) (hn : Builtin.Range.rangeSize a₀ b₀ 1 = (n : Int)) (h0 : J 0 m₀ news)
    (turn : ∀ I i m news t h tk, i < n → J i m news → (∀ p ∈ news, p.1 ≠ I) → Fr h₀ env.locals h (fun y => if y = x then some (.int (a₀ + (i : Int)) t) else m y) →
      News h₀ env.locals h ((I, itR (a₀ + ((i + 1 : Nat) : Int)) ((n : Int) - ((i + 1 : Nat) : Int))) :: news) →
      wpAny (model prog w) A (execs body env) (FPost h₀ env.locals { s with heap := h, toks := tk } I (itR (a₀ + ((i + 1 : Nat) : Int)) ((n : Int) - ((i + 1 : Nat) : Int))) (J (i + 1)) Q) E { s with heap := h, toks := tk })
    (done : ∀ m news h tk, J n m news → Fr h₀ env.locals h m → News h₀ env.locals h news → Q .next { s with heap := h, toks := tk }) (hh : A.handled = none := by rfl) :
    wpAny (model prog w) A (pyIter (.ref r)) (fun it s₂ => LoopAtV prog w A h₀ env x body Q E it s₂) E s :=
  iter_rangeUnr hh hr hsmall hn F N fun I hI => range_rest J (turn I) done n 0 (by omega) m₀ news h0 fun p hp => Nat.ne_of_lt (hI p hp)
theorem comp_do {L : Addr} {m : Str → Option Value} {elt : PySem.Expr} {scope : Scope} {cl : List (Str × Addr)} {S : List (Addr × Obj) → Prop} {P : Nat → Value → Prop} {Fin : List Value → List (Addr × Obj) → Prop} {n : Nat}
    (J : Nat → List Value → List (Addr × Obj) → Prop)
    (turn : ∀ i ys news v I oI C oC D m₂ h tk (E' : Value → Shared → Prop), i < n → J i ys news → P i v → LCg.NsObj oC m₂ → m₂ x = some v → Fr h₀ L h m → News h₀ L h ((I, oI) :: (C, oC) :: (D, LCg.lst ys) :: news) → LCg.Off3 I C D news → ((@Ne Nat I C) ∧ (@Ne Nat I D) ∧ (@Ne Nat C D)) →
      wpAny (model prog w) A (eval elt (compEnvC scope cl C env)) (LCg.CompEnd h₀ L m { s with heap := h, toks := tk } I oI C oC D (LCg.lst ys) S (fun y news' => J (i + 1) (ys ++ [y]) news')) E' { s with heap := h, toks := tk })
    (fin : ∀ ys news, J n ys news → Fin ys news) : ∀ k i, i + k = n → ∀ ys news, J i ys news → LCg.CompRest prog w A h₀ L m env elt x scope cl s S P Fin k i ys news := by
  intro k
  induction k with
  | zero =>
    intro i hi ys news hJ
    obtain rfl : i = n := by omega
    exact LCg.CompRest.zero (fin ys news hJ)
  | succ k ih =>
    intro i hi ys news hJ
    refine LCg.CompRest.succ fun v I oI C oC D m₂ h tk E' h1 h2 h3 h4 h5 h6 h7 => wpAny_mono (turn i ys news v I oI C oC D m₂ h tk E' (by omega) hJ h1 h2 h3 h4 h5 h6 h7) (fun y s₂ p => ?_) fun _ _ e => e
    obtain ⟨h', tk', news', e, F', N', o', S', r⟩ := p
    exact ⟨h', tk', news', e, F', N', o', S', ih (i + 1) (by omega) (ys ++ [y]) news' r⟩
end
end loop
section lawq
theorem Fresh.lts {d : Addr} {o : Obj} {l : List (Addr × Obj)} (h : Fresh [(d, o)] l) : AllLt d l := allLt_of fun e he => h _ (.head _) e he
theorem range_small {k : Int} (h0 : 0 ≤ k) (h1 : k < 100) : Builtin.Range.small 0 k 1 = true := small_one (by omega) (by omega) (by omega) (by omega)
theorem range_size {k : Int} (h0 : 0 ≤ k) : Builtin.Range.rangeSize 0 k 1 = ((k.toNat : Nat) : Int) := by
  rw [rangeSize_one]
  split <;> omega
/-- the store as it is made -/
theorem led_of {h₀ h : Heap} {L aT aK aH x d D R cb : Addr} {w : World} {ws : List Value} {ob : Obj} {t0 t1 t2 t3 t4 t5 t6 t7 t8 t9 t10 : Tok}
    (N : News h₀ L h [(aT, listOf #[] 0), (aK, listOf #[] 0), (aH, listOf #[] 0), (x, instObj 276 d),
      (d, dictOf [⟨PyData.keyHash w.params (Str.ofString "symbols"), .str (Str.ofString "symbols") t0, .none⟩, ⟨PyData.keyHash w.params (Str.ofString "max_heap"), .str (Str.ofString "max_heap") t1, .int 1000 t2⟩,
        ⟨PyData.keyHash w.params (Str.ofString "heap"), .str (Str.ofString "heap") t3, .ref aH⟩, ⟨PyData.keyHash w.params (Str.ofString "stack"), .str (Str.ofString "stack") t4, .ref aK⟩,
        ⟨PyData.keyHash w.params (Str.ofString "trail"), .str (Str.ofString "trail") t5, .ref aT⟩, ⟨PyData.keyHash w.params (Str.ofString "hb"), .str (Str.ofString "hb") t6, .int 0 t7⟩,
        ⟨PyData.keyHash w.params (Str.ofString "bb"), .str (Str.ofString "bb") t8, .int 0 t9⟩] 7), (D, listOf #[.ref R, .int 0 t10] 0), (R, listOf ws.toArray 0), (cb, ob)])
    (l2 : @LT.lt Nat _ d x) (l3 : @LT.lt Nat _ x aH) (l4 : @LT.lt Nat _ aH aK) (l5 : @LT.lt Nat _ aK aT) (l6 : @LT.lt Nat _ D d) (l7 : @LT.lt Nat _ R D) (l8 : @LT.lt Nat _ cb R) :
    ∃ (p : SA) (q : SM), x = p.xS ∧ d = p.dS ∧ aH = p.aH ∧ aK = p.aK ∧ aT = p.aT ∧ q.vh = [] ∧ q.vk = [] ∧ q.vt = [] ∧ q.hb = 0 ∧ q.bb = 0 ∧
      News h₀ L h (led w p q [(D, listOf [.ref R, .int 0 t10].toArray 0), (R, listOf ws.toArray 0), (cb, ob)]) ∧ @LT.lt Nat _ p.dS p.xS ∧ @LT.lt Nat _ p.xS p.aH ∧ @LT.lt Nat _ p.aH p.aK ∧ @LT.lt Nat _ p.aK p.aT ∧ @LT.lt Nat _ D p.dS ∧ @LT.lt Nat _ R D ∧ @LT.lt Nat _ cb R := by
  refine ⟨⟨x, d, aH, aK, aT, t0, t1, t3, t4, t5, t6, t8, t2⟩, ⟨[], [], [], 7, 0, 0, 0, 0, 0, t7, t9⟩, rfl, rfl, rfl, rfl, rfl, rfl, rfl, rfl, rfl, rfl, fun e he => N e ?_, l2, l3, l4, l5, l6, l7, l8⟩
  simp only [List.mem_cons] at he ⊢
  rcases he with h | h | h | h | h | h | h | h | h
  · exact .inr (.inr (.inr (.inl h)))
  · exact .inr (.inr (.inr (.inr (.inl h))))
  · exact .inr (.inr (.inl h))
  · exact .inr (.inl h)
  · exact .inl h
  · exact .inr (.inr (.inr (.inr (.inr (.inl h)))))
  · exact .inr (.inr (.inr (.inr (.inr (.inr (.inl h))))))
  · exact .inr (.inr (.inr (.inr (.inr (.inr (.inr (.inl h)))))))
  · cases h
theorem News.back3 {h₀ h : Heap} {L : Addr} {w : World} {p : SA} {q : SM} {a b c : Addr × Obj} {r : List (Addr × Obj)} (N : News h₀ L h (a :: b :: c :: led w p q r)) : News h₀ L h (led w p q (a :: b :: c :: r)) := N.perm (by walk_at "MINE perm")
theorem Apart.cons3 {w : World} {p : SA} {q : SM} {rest : List (Addr × Obj)} {I C D : Addr} {a b c : Obj} (P : Apart p rest) (off : LCg.Off3 I C D (led w p q rest)) : Apart p ((I, a) :: (C, b) :: (D, c) :: rest) := by
  have h := off.mem
  have h1 := h (p.xS, instObj 276 p.dS) (.head _)
  have h2 := h (p.dS, dictOf (sEnts w p q.hb q.thb q.bb q.tbb) q.nd) (.tail _ (.head _))
  have h3 := h (p.aH, listOf q.vh.toArray q.nh) (.tail _ (.tail _ (.head _)))
  have h4 := h (p.aK, listOf q.vk.toArray q.nk) (.tail _ (.tail _ (.tail _ (.head _))))
  have h5 := h (p.aT, listOf q.vt.toArray q.nt) (.tail _ (.tail _ (.tail _ (.tail _ (.head _)))))
  dsimp only at h1 h2 h3 h4 h5
  refine ⟨P.o1, P.o2, P.o3, P.o4, fun e he y hy => ?_⟩
  simp only [List.mem_cons, List.not_mem_nil, or_false] at hy
  rcases List.mem_cons.mp he with rfl | he
  · rcases hy with rfl | rfl | rfl | rfl | rfl
    · exact h1.1.symm
    · exact h2.1.symm
    · exact h3.1.symm
    · exact h4.1.symm
    · exact h5.1.symm
  rcases List.mem_cons.mp he with rfl | he
  · rcases hy with rfl | rfl | rfl | rfl | rfl
    · exact h1.2.1.symm
    · exact h2.2.1.symm
    · exact h3.2.1.symm
    · exact h4.2.1.symm
    · exact h5.2.1.symm
  rcases List.mem_cons.mp he with rfl | he
  · rcases hy with rfl | rfl | rfl | rfl | rfl
    · exact h1.2.2.symm
    · exact h2.2.2.symm
    · exact h3.2.2.symm
    · exact h4.2.2.symm
    · exact h5.2.2.symm
  exact P.off e he y (by simp only [List.mem_cons, List.not_mem_nil, or_false]; exact hy)
/-- what lies behind the store's objects: the state, the row, the cell of `store`, then the tuples -/
abbrev restL (D R cb : Addr) (st ob : Obj) (ws : List Value) (tups : List (Addr × Obj)) : List (Addr × Obj) := (D, st) :: (R, listOf ws.toArray 0) :: (cb, ob) :: tups
def refs (n : Nat) : List Cell := (List.range n).map .ref
inductive compJ (w : World) (p : SA) (D R cb : Addr) (st ob : Obj) (ws : List Value) (i : Nat) (ys : List Value) (nx : List (Addr × Obj)) : Prop where
  | mk : ∀ q tups, nx = led w p q (restL D R cb st ob ws tups) → q.vh = ys → ys.length = i → AreCells tups ys (refs i) → q.vk = [] → q.vt = [] → q.hb = 0 → q.bb = 0 → Apart p (restL D R cb st ob ws tups) → OwnOff tups [D, R, cb] → compJ w p D R cb st ob ws i ys nx
theorem News.compEnd {h₀ h : Heap} {L : Addr} {w : World} {p : SA} {q : SM} {a b c e d r x : Addr × Obj} {tups : List (Addr × Obj)} (N : News h₀ L h (led w p q (e :: a :: b :: c :: d :: r :: x :: tups))) : News h₀ L h (a :: b :: c :: led w p q (d :: r :: x :: e :: tups)) := N.perm (by walk_at "MINE perm")
theorem comp_end {w : World} {p : SA} {q q' : SM} {D R cb I C Dl b : Addr} {st ob oI oC lo o : Obj} {ws : List Value} {tups : List (Addr × Obj)} (P : Apart p (restL D R cb st ob ws tups)) (off : OwnOff tups [D, R, cb]) (off1 : LCg.Off3 I C Dl (led w p q (restL D R cb st ob ws tups)))
    (hf : Fresh [(b, o)] (led w p q ((I, oI) :: (C, oC) :: (Dl, lo) :: restL D R cb st ob ws tups))) :
    Apart p (restL D R cb st ob ws ((b, o) :: tups)) ∧ OwnOff ((b, o) :: tups) [D, R, cb] ∧ LCg.Off3 I C Dl (led w p q' (restL D R cb st ob ws ((b, o) :: tups))) := by
  have hlt : ∀ x ∈ led w p q ((I, oI) :: (C, oC) :: (Dl, lo) :: restL D R cb st ob ws tups), @LT.lt Nat _ x.1 b := hf _ (.head _)
  have h1 := hlt (p.xS, instObj 276 p.dS) (.head _)
  have h2 := hlt (p.dS, dictOf (sEnts w p q.hb q.thb q.bb q.tbb) q.nd) (.tail _ (.head _))
  have h3 := hlt (p.aH, listOf q.vh.toArray q.nh) (.tail _ (.tail _ (.head _)))
  have h4 := hlt (p.aK, listOf q.vk.toArray q.nk) (.tail _ (.tail _ (.tail _ (.head _))))
  have h5 := hlt (p.aT, listOf q.vt.toArray q.nt) (.tail _ (.tail _ (.tail _ (.tail _ (.head _)))))
  have g1 := hlt (I, oI) (.tail _ (.tail _ (.tail _ (.tail _ (.tail _ (.head _))))))
  have g2 := hlt (C, oC) (.tail _ (.tail _ (.tail _ (.tail _ (.tail _ (.tail _ (.head _)))))))
  have g3 := hlt (Dl, lo) (.tail _ (.tail _ (.tail _ (.tail _ (.tail _ (.tail _ (.tail _ (.head _))))))))
  have k1 := hlt (D, st) (.tail _ (.tail _ (.tail _ (.tail _ (.tail _ (.tail _ (.tail _ (.tail _ (.head _)))))))))
  have k2 := hlt (R, listOf ws.toArray 0) (.tail _ (.tail _ (.tail _ (.tail _ (.tail _ (.tail _ (.tail _ (.tail _ (.tail _ (.head _))))))))))
  have k3 := hlt (cb, ob) (.tail _ (.tail _ (.tail _ (.tail _ (.tail _ (.tail _ (.tail _ (.tail _ (.tail _ (.tail _ (.head _)))))))))))
  dsimp only at h1 h2 h3 h4 h5 g1 g2 g3 k1 k2 k3
  refine ⟨⟨P.o1, P.o2, P.o3, P.o4, fun e he y hy => ?_⟩, fun e he y hy => ?_, LCg.Off3.of fun e he => ?_⟩
  · simp only [List.mem_cons] at he
    rcases he with he | he | he | he | he
    · exact P.off e (by rw [he]; exact .head _) y hy
    · exact P.off e (by rw [he]; exact .tail _ (.head _)) y hy
    · exact P.off e (by rw [he]; exact .tail _ (.tail _ (.head _))) y hy
    · subst he
      simp only [List.mem_cons, List.not_mem_nil, or_false] at hy
      rcases hy with rfl | rfl | rfl | rfl | rfl
      · exact Nat.ne_of_gt h1
      · exact Nat.ne_of_gt h2
      · exact Nat.ne_of_gt h3
      · exact Nat.ne_of_gt h4
      · exact Nat.ne_of_gt h5
    · exact P.off e (.tail _ (.tail _ (.tail _ he))) y hy
  · rcases List.mem_cons.mp he with rfl | he
    · simp only [List.mem_cons, List.not_mem_nil, or_false] at hy
      rcases hy with rfl | rfl | rfl
      · exact Nat.ne_of_gt k1
      · exact Nat.ne_of_gt k2
      · exact Nat.ne_of_gt k3
    · exact off e he y hy
  · have ho := off1.mem
    simp only [List.mem_cons] at he
    rcases he with he | he | he | he | he | he | he | he | he | he
    · subst he; exact ho (p.xS, instObj 276 p.dS) (.head _)
    · subst he; exact ho (p.dS, dictOf (sEnts w p q.hb q.thb q.bb q.tbb) q.nd) (.tail _ (.head _))
    · subst he; exact ho (p.aH, listOf q.vh.toArray q.nh) (.tail _ (.tail _ (.head _)))
    · subst he; exact ho (p.aK, listOf q.vk.toArray q.nk) (.tail _ (.tail _ (.tail _ (.head _))))
    · subst he; exact ho (p.aT, listOf q.vt.toArray q.nt) (.tail _ (.tail _ (.tail _ (.tail _ (.head _)))))
    · exact ho e (by rw [he]; exact .tail _ (.tail _ (.tail _ (.tail _ (.tail _ (.head _))))))
    · exact ho e (by rw [he]; exact .tail _ (.tail _ (.tail _ (.tail _ (.tail _ (.tail _ (.head _)))))))
    · exact ho e (by rw [he]; exact .tail _ (.tail _ (.tail _ (.tail _ (.tail _ (.tail _ (.tail _ (.head _))))))))
    · subst he; exact ⟨Nat.ne_of_gt g1, Nat.ne_of_gt g2, Nat.ne_of_gt g3⟩
    · exact ho e (.tail _ (.tail _ (.tail _ (.tail _ (.tail _ (.tail _ (.tail _ (.tail _ he))))))))
theorem refs_succ (i : Nat) : refs (i + 1) = refs i ++ [.ref i] := by simp [refs, List.range_succ]
theorem apart0 {p : SA} {D R cb : Addr} {st ob : Obj} {ws : List Value} (o1 : @LT.lt Nat _ p.dS p.xS) (o2 : @LT.lt Nat _ p.xS p.aH) (o3 : @LT.lt Nat _ p.aH p.aK) (o4 : @LT.lt Nat _ p.aK p.aT) (o5 : @LT.lt Nat _ D p.dS) (o6 : @LT.lt Nat _ R D) (o7 : @LT.lt Nat _ cb R) :
    Apart p (restL D R cb st ob ws []) := by
  refine ⟨o1, o2, o3, o4, fun e he y hy => ?_⟩
  simp only [List.mem_cons, List.not_mem_nil, or_false] at he hy
  rcases he with rfl | rfl | rfl <;> rcases hy with rfl | rfl | rfl | rfl | rfl <;> exact neN (by dsimp only; omega)
theorem off1_mem {C : Addr} : ∀ {l : List (Addr × Obj)}, LCg.Off1 C l → ∀ e ∈ l, e.1 ≠ C
  | [], _, _, h => nomatch h
  | _ :: _, h, e, he => by
    rcases List.mem_cons.mp he with rfl | he
    · exact h.1
    · exact off1_mem h.2 e he
theorem put_ne1 {m : Str → Option Value} {x y : Str} {v u : Value} (h : m x = some v) (hne : x ≠ y) : (fun z => if z = y then some u else m z) x = some v := by dsimp only; rw [if_neg hne]; exact h
theorem News.pre {h₀ h : Heap} {L : Addr} {w : World} {p : SA} {q : SM} (pre : List (Addr × Obj)) {r : List (Addr × Obj)} (N : News h₀ L h (pre ++ led w p q r)) : News h₀ L h (led w p q (pre ++ r)) := fun e he => N e (by
  simp only [List.mem_cons, List.mem_append] at he ⊢
  rcases he with h | h | h | h | h | h | h <;> simp only [h, true_or, or_true])
theorem At.pick {cl : List Cell} {k : Int} (h0 : 0 ≤ k) (h1 : k < (cl.length : Int)) (h2 : cl.length < 1000000) : At cl k (cl.getD k.toNat (.int 0)) := by
  have hk : k.toNat < cl.length := by omega
  refine At.of (j := k.toNat) ?_ h2 (by omega)
  rw [List.getD_eq_getElem?_getD, List.getElem?_eq_getElem hk]; rfl
theorem pick_mem {cl : List Cell} {k : Int} (h0 : 0 ≤ k) (h1 : k < (cl.length : Int)) : cl.getD k.toNat (.int 0) ∈ cl := by
  have hk : k.toNat < cl.length := by omega
  rw [List.getD_eq_getElem?_getD, List.getElem?_eq_getElem hk]
  exact List.getElem_mem hk
abbrev LR (C D R cb : Addr) (cs st ob : Obj) (ws : List Value) (tups : List (Addr × Obj)) : List (Addr × Obj) := (C, cs) :: (D, st) :: (R, listOf ws.toArray 0) :: (cb, ob) :: tups
/-- the nine addresses that the law keeps -/
abbrev adrs (p : SA) (C D R cb : Addr) : List Addr := [p.xS, p.dS, p.aH, p.aK, p.aT, C, D, R, cb]
/-- an address apart from all that the law keeps -/
structure OffA (p : SA) (C D R cb : Addr) (tups : List (Addr × Obj)) (I : Addr) : Prop where
  ad : ∀ y ∈ adrs p C D R cb, y ≠ I
  tu : ∀ e ∈ tups, e.1 ≠ I
/-- what holds at every step of the law behind the comprehension -/
structure LawI (p : SA) (q : SM) (tups : List (Addr × Obj)) (S : Sto) (tr : List Int) (cv : List Value) (cl : List Cell) (C D R cb : Addr) (ob : Obj) (ws : List Value) : Prop where
  rep : Rep tups q S tr
  cells : AreCells tups cv cl
  o1 : @LT.lt Nat _ p.dS p.xS
  o2 : @LT.lt Nat _ p.xS p.aH
  o3 : @LT.lt Nat _ p.aH p.aK
  o4 : @LT.lt Nat _ p.aK p.aT
  dis : (adrs p C D R cb).Pairwise (· ≠ ·)
  off : OwnOff tups (adrs p C D R cb)
section
variable {w : World} {p : SA} {q q' : SM} {tups : List (Addr × Obj)} {S S' : Sto} {tr tr' : List Int} {cv cv' : List Value} {cl cl' : List Cell} {C D R cb I b : Addr} {cs st ob o : Obj} {ws : List Value} {nc : Nat}
theorem law_key {e : Addr × Obj} (he : e ∈ led w p q (LR C D R cb cs st ob ws tups)) : e.1 ∈ adrs p C D R cb ∨ e ∈ tups := by
  simp only [List.mem_cons] at he
  simp only [adrs, List.mem_cons]
  rcases he with rfl | rfl | rfl | rfl | rfl | rfl | rfl | rfl | rfl | he
  · exact .inl (.inl rfl)
  · exact .inl (.inr (.inl rfl))
  · exact .inl (.inr (.inr (.inl rfl)))
  · exact .inl (.inr (.inr (.inr (.inl rfl))))
  · exact .inl (.inr (.inr (.inr (.inr (.inl rfl)))))
  · exact .inl (.inr (.inr (.inr (.inr (.inr (.inl rfl))))))
  · exact .inl (.inr (.inr (.inr (.inr (.inr (.inr (.inl rfl)))))))
  · exact .inl (.inr (.inr (.inr (.inr (.inr (.inr (.inr (.inl rfl))))))))
  · exact .inl (.inr (.inr (.inr (.inr (.inr (.inr (.inr (.inr (.inl rfl)))))))))
  · exact .inr he
theorem law_has {y : Addr} (hy : y ∈ adrs p C D R cb) : ∃ o, (y, o) ∈ led w p q (LR C D R cb cs st ob ws tups) := by
  simp only [adrs, List.mem_cons, List.not_mem_nil, or_false] at hy
  rcases hy with rfl | rfl | rfl | rfl | rfl | rfl | rfl | rfl | rfl
  · exact ⟨_, .head _⟩
  · exact ⟨_, .tail _ (.head _)⟩
  · exact ⟨_, .tail _ (.tail _ (.head _))⟩
  · exact ⟨_, .tail _ (.tail _ (.tail _ (.head _)))⟩
  · exact ⟨_, .tail _ (.tail _ (.tail _ (.tail _ (.head _))))⟩
  · exact ⟨_, .tail _ (.tail _ (.tail _ (.tail _ (.tail _ (.head _)))))⟩
  · exact ⟨_, .tail _ (.tail _ (.tail _ (.tail _ (.tail _ (.tail _ (.head _))))))⟩
  · exact ⟨_, .tail _ (.tail _ (.tail _ (.tail _ (.tail _ (.tail _ (.tail _ (.head _)))))))⟩
  · exact ⟨_, .tail _ (.tail _ (.tail _ (.tail _ (.tail _ (.tail _ (.tail _ (.tail _ (.head _))))))))⟩
theorem law_tup {e : Addr × Obj} (he : e ∈ tups) : e ∈ led w p q (LR C D R cb cs st ob ws tups) :=
  .tail _ (.tail _ (.tail _ (.tail _ (.tail _ (.tail _ (.tail _ (.tail _ (.tail _ he))))))))
theorem OffA.of (ho : ∀ e ∈ led w p q (LR C D R cb cs st ob ws tups), e.1 ≠ I) : OffA p C D R cb tups I :=
  ⟨fun _ hy => let ⟨_, h⟩ := law_has hy; ho _ h, fun _ he => ho _ (law_tup he)⟩
theorem OffA.lt (h : ∀ e ∈ led w p q (LR C D R cb cs st ob ws tups), @LT.lt Nat _ e.1 I) : OffA p C D R cb tups I := .of (w := w) (q := q) (cs := cs) (st := st) (ob := ob) (ws := ws) fun e he => Nat.ne_of_lt (h e he)
theorem OffA.out (O : OffA p C D R cb tups I) : ∀ e ∈ led w p q (LR C D R cb cs st ob ws tups), e.1 ≠ I := fun e he => by
  rcases law_key he with h | h
  · exact O.ad _ h
  · exact O.tu _ h
theorem OffA.tup (O : OffA p C D R cb tups I) (h : @Ne Nat b I) : OffA p C D R cb ((b, o) :: tups) I := ⟨O.ad, fun e he => by
  rcases List.mem_cons.mp he with rfl | he
  · exact h
  · exact O.tu e he⟩
theorem OffA.app {tl : List (Addr × Obj)} (O : OffA p C D R cb tups I) (h : ∀ e ∈ tl, e.1 ≠ I) : OffA p C D R cb (tl ++ tups) I := ⟨O.ad, fun e he => by
  rcases List.mem_append.mp he with he | he
  · exact h e he
  · exact O.tu e he⟩
theorem OffA.c (O : OffA p C D R cb tups I) : @Ne Nat I C := (O.ad C (.tail _ (.tail _ (.tail _ (.tail _ (.tail _ (.head _))))))).symm
theorem OffA.d (O : OffA p C D R cb tups I) : @Ne Nat I D := (O.ad D (.tail _ (.tail _ (.tail _ (.tail _ (.tail _ (.tail _ (.head _)))))))).symm
theorem LawI.tup (h : LawI p q tups S tr cv cl C D R cb ob ws) (O : OffA p C D R cb tups b) : LawI p q ((b, o) :: tups) S tr cv cl C D R cb ob ws :=
  ⟨h.rep.mono fun e he => .tail _ he, h.cells.mono fun e he => .tail _ he, h.o1, h.o2, h.o3, h.o4, h.dis, fun e he y hy => by
    rcases List.mem_cons.mp he with rfl | he
    · exact (O.ad y hy).symm
    · exact h.off e he y hy⟩
theorem LawI.app {tl : List (Addr × Obj)} (h : LawI p q tups S tr cv cl C D R cb ob ws) (R' : Rep (tl ++ tups) q' S' tr') (hf : ∀ e ∈ tl, ∀ y ∈ adrs p C D R cb, e.1 ≠ y) : LawI p q' (tl ++ tups) S' tr' cv cl C D R cb ob ws :=
  ⟨R', h.cells.mono fun e he => List.mem_append.mpr (.inr he), h.o1, h.o2, h.o3, h.o4, h.dis, fun e he y hy => by
    rcases List.mem_append.mp he with he | he
    · exact hf e he y hy
    · exact h.off e he y hy⟩
theorem LawI.reps (h : LawI p q tups S tr cv cl C D R cb ob ws) (R' : Rep tups q' S' tr') : LawI p q' tups S' tr' cv cl C D R cb ob ws := ⟨R', h.cells, h.o1, h.o2, h.o3, h.o4, h.dis, h.off⟩
theorem LawI.cellsTo (h : LawI p q tups S tr cv cl C D R cb ob ws) (k : AreCells tups cv' cl') : LawI p q tups S tr cv' cl' C D R cb ob ws := ⟨h.rep, k, h.o1, h.o2, h.o3, h.o4, h.dis, h.off⟩
theorem pw_ne {l : List Addr} (h : l.Pairwise (· ≠ ·)) : ∀ (i j : Nat) (a b : Addr), l[i]? = some a → l[j]? = some b → i ≠ j → a ≠ b := by
  intro i j a b hi hj hij
  obtain ⟨i1, rfl⟩ := List.getElem?_eq_some_iff.mp hi
  obtain ⟨j1, rfl⟩ := List.getElem?_eq_some_iff.mp hj
  rw [List.pairwise_iff_getElem] at h
  rcases Nat.lt_or_gt_of_ne hij with k | k
  · exact h i j i1 j1 k
  · exact (h j i j1 i1 k).symm
theorem LawI.apart {ob' : Obj} (h : LawI p q tups S tr cv cl C D R cb ob ws) {pre : List (Addr × Obj)} (hp : ∀ e ∈ pre, OffA p C D R cb tups e.1) : Apart p (pre ++ LR C D R cb cs st ob' ws tups) := by
  refine ⟨h.o1, h.o2, h.o3, h.o4, fun e he y hy => ?_⟩
  have hy5 : ∃ j, j < 5 ∧ (adrs p C D R cb)[j]? = some y := by
    simp only [List.mem_cons, List.not_mem_nil, or_false] at hy
    rcases hy with rfl | rfl | rfl | rfl | rfl
    · exact ⟨0, by omega, rfl⟩
    · exact ⟨1, by omega, rfl⟩
    · exact ⟨2, by omega, rfl⟩
    · exact ⟨3, by omega, rfl⟩
    · exact ⟨4, by omega, rfl⟩
  obtain ⟨j, hj, hy⟩ := hy5
  have hya : y ∈ adrs p C D R cb := List.mem_of_getElem? hy
  rcases List.mem_append.mp he with he | he
  · exact ((hp e he).ad y hya).symm
  · simp only [List.mem_cons] at he
    rcases he with rfl | rfl | rfl | rfl | he
    · exact pw_ne h.dis 5 j C y rfl hy (by omega)
    · exact pw_ne h.dis 6 j D y rfl hy (by omega)
    · exact pw_ne h.dis 7 j R y rfl hy (by omega)
    · exact pw_ne h.dis 8 j cb y rfl hy (by omega)
    · exact h.off e he y hya
theorem LawI.apart2 {ob' : Obj} (h : LawI p q tups S tr cv cl C D R cb ob ws) {a b : Addr × Obj} (O : OffA p C D R cb tups a.1) (O2 : OffA p C D R cb tups b.1) : Apart p (a :: b :: LR C D R cb cs st ob' ws tups) :=
  h.apart (pre := [a, b]) fun e he => by
    simp only [List.mem_cons, List.not_mem_nil, or_false] at he
    rcases he with rfl | rfl
    · exact O
    · exact O2
theorem LawI.apart1 {ob' : Obj} (h : LawI p q tups S tr cv cl C D R cb ob ws) {a : Addr × Obj} (O : OffA p C D R cb tups a.1) : Apart p (a :: LR C D R cb cs st ob' ws tups) :=
  h.apart (pre := [a]) fun e he => by rw [List.mem_singleton.mp he]; exact O
theorem LawI.apart0 {ob' : Obj} (h : LawI p q tups S tr cv cl C D R cb ob ws) : Apart p (LR C D R cb cs st ob' ws tups) :=
  h.apart (pre := []) fun e he => nomatch he
theorem Split.app {d : Addr} {o : Obj} {pre l a b : List (Addr × Obj)} (hp : ∀ e ∈ pre, e.1 ≠ d) (h : Split d o l a b) : Split d o (pre ++ l) (pre ++ a) b := by
  induction pre with
  | nil => exact h
  | cons x r ih => exact .tail (hp x (.head _)) (ih fun e he => hp e (.tail _ he))
theorem LawI.splitD (h : LawI p q tups S tr cv cl C D R cb ob ws) : Split D st (led w p q (LR C D R cb cs st ob ws tups)) (led w p q [(C, cs)]) ((R, listOf ws.toArray 0) :: (cb, ob) :: tups) := by
  have n := pw_ne h.dis
  refine .tail (n 0 6 _ _ rfl rfl (by decide)) (.tail (n 1 6 _ _ rfl rfl (by decide)) (.tail (n 2 6 _ _ rfl rfl (by decide)) (.tail (n 3 6 _ _ rfl rfl (by decide)) (.tail (n 4 6 _ _ rfl rfl (by decide)) (.tail (n 5 6 _ _ rfl rfl (by decide)) (.head ?_))))))
  intro e he
  simp only [List.mem_cons] at he
  rcases he with rfl | rfl | he
  · exact n 7 6 _ _ rfl rfl (by decide)
  · exact n 8 6 _ _ rfl rfl (by decide)
  · exact h.off e he D (.tail _ (.tail _ (.tail _ (.tail _ (.tail _ (.tail _ (.head _)))))))
theorem LawI.offC (h : LawI p q tups S tr cv cl C D R cb ob ws) : ∀ e ∈ (D, st) :: (R, listOf ws.toArray 0) :: (cb, ob) :: tups, e.1 ≠ C := by
  have n := pw_ne h.dis
  intro e he
  simp only [List.mem_cons] at he
  rcases he with rfl | rfl | rfl | he
  · exact n 6 5 _ _ rfl rfl (by decide)
  · exact n 7 5 _ _ rfl rfl (by decide)
  · exact n 8 5 _ _ rfl rfl (by decide)
  · exact h.off e he C (.tail _ (.tail _ (.tail _ (.tail _ (.tail _ (.head _))))))
theorem Upd.app {d : Addr} {o o' : Obj} {pre l l' : List (Addr × Obj)} (hp : ∀ e ∈ pre, e.1 ≠ d) (h : Upd d o o' l l') : Upd d o o' (pre ++ l) (pre ++ l') := by
  induction pre with
  | nil => exact h
  | cons x r ih => exact .tail (hp x (.head _)) (ih fun e he => hp e (.tail _ he))
theorem LawI.updC (h : LawI p q tups S tr cv cl C D R cb ob ws) (cs cs' : Obj) : Upd C cs cs' (led w p q' (LR C D R cb cs st ob ws tups)) (led w p q' (LR C D R cb cs' st ob ws tups)) := by
  have n := pw_ne h.dis
  refine .tail (n 0 5 _ _ rfl rfl (by decide)) (.tail (n 1 5 _ _ rfl rfl (by decide)) (.tail (n 2 5 _ _ rfl rfl (by decide)) (.tail (n 3 5 _ _ rfl rfl (by decide)) (.tail (n 4 5 _ _ rfl rfl (by decide)) (.head ?_)))))
  exact h.offC
theorem LawI.updS {o o' o0 o1 o2 o3 : Obj} (h : LawI p q tups S tr cv cl C D R cb ob ws) : Upd p.dS o o' ((p.xS, o0) :: (p.dS, o) :: (p.aH, o1) :: (p.aK, o2) :: (p.aT, o3) :: LR C D R cb cs st ob ws tups) ((p.xS, o0) :: (p.dS, o') :: (p.aH, o1) :: (p.aK, o2) :: (p.aT, o3) :: LR C D R cb cs st ob ws tups) := by
  have n := pw_ne h.dis
  refine .tail (n 0 1 _ _ rfl rfl (by decide)) (.head fun e he => ?_)
  simp only [List.mem_cons] at he
  rcases he with rfl | rfl | rfl | rfl | rfl | rfl | rfl | he
  · exact n 2 1 _ _ rfl rfl (by decide)
  · exact n 3 1 _ _ rfl rfl (by decide)
  · exact n 4 1 _ _ rfl rfl (by decide)
  · exact n 5 1 _ _ rfl rfl (by decide)
  · exact n 6 1 _ _ rfl rfl (by decide)
  · exact n 7 1 _ _ rfl rfl (by decide)
  · exact n 8 1 _ _ rfl rfl (by decide)
  · exact h.off e he p.dS (.tail _ (.head _))
theorem LawI.updCmid (h : LawI p q tups S tr cv cl C D R cb ob ws) {a b : Addr × Obj} (O : OffA p C D R cb tups a.1) (O2 : OffA p C D R cb tups b.1) (cs cs' : Obj) : Upd C cs cs' (led w p q' (a :: b :: LR C D R cb cs st ob ws tups)) (led w p q' (a :: b :: LR C D R cb cs' st ob ws tups)) := by
  have n := pw_ne h.dis
  refine .tail (n 0 5 _ _ rfl rfl (by decide)) (.tail (n 1 5 _ _ rfl rfl (by decide)) (.tail (n 2 5 _ _ rfl rfl (by decide)) (.tail (n 3 5 _ _ rfl rfl (by decide)) (.tail (n 4 5 _ _ rfl rfl (by decide)) (.tail O.c (.tail O2.c (.head ?_)))))))
  exact h.offC
theorem LawI.updC1 (h : LawI p q tups S tr cv cl C D R cb ob ws) {a : Addr × Obj} (O : OffA p C D R cb tups a.1) (cs cs' : Obj) : Upd C cs cs' (a :: led w p q' (LR C D R cb cs st ob ws tups)) (a :: led w p q' (LR C D R cb cs' st ob ws tups)) := .tail O.c (h.updC cs cs')
theorem LawI.updC2 (h : LawI p q tups S tr cv cl C D R cb ob ws) {a b : Addr × Obj} (O : OffA p C D R cb tups a.1) (O2 : OffA p C D R cb tups b.1) (cs cs' : Obj) : Upd C cs cs' (a :: b :: led w p q' (LR C D R cb cs st ob ws tups)) (a :: b :: led w p q' (LR C D R cb cs' st ob ws tups)) := .tail O.c (h.updC1 O2 cs cs')
theorem OffA.conj (h : @LT.lt Nat _ p.xS b ∧ @LT.lt Nat _ p.dS b ∧ @LT.lt Nat _ p.aH b ∧ @LT.lt Nat _ p.aK b ∧ @LT.lt Nat _ p.aT b ∧ @LT.lt Nat _ C b ∧ @LT.lt Nat _ D b ∧ @LT.lt Nat _ R b ∧ @LT.lt Nat _ cb b ∧ AllLt b tups) : OffA p C D R cb tups b := by
  obtain ⟨h1, h2, h3, h4, h5, h6, h7, h8, h9, h10⟩ := h
  refine ⟨fun y hy => ?_, fun e he => Nat.ne_of_lt (ktn_ltOf h10 e he)⟩
  simp only [adrs, List.mem_cons, List.not_mem_nil, or_false] at hy
  rcases hy with rfl | rfl | rfl | rfl | rfl | rfl | rfl | rfl | rfl
  · exact Nat.ne_of_lt h1
  · exact Nat.ne_of_lt h2
  · exact Nat.ne_of_lt h3
  · exact Nat.ne_of_lt h4
  · exact Nat.ne_of_lt h5
  · exact Nat.ne_of_lt h6
  · exact Nat.ne_of_lt h7
  · exact Nat.ne_of_lt h8
  · exact Nat.ne_of_lt h9
theorem OffA.conjMid {M : Addr} (h : @LT.lt Nat _ p.xS b ∧ @LT.lt Nat _ p.dS b ∧ @LT.lt Nat _ p.aH b ∧ @LT.lt Nat _ p.aK b ∧ @LT.lt Nat _ p.aT b ∧ @LT.lt Nat _ M b ∧ @LT.lt Nat _ I b ∧ @LT.lt Nat _ C b ∧ @LT.lt Nat _ D b ∧ @LT.lt Nat _ R b ∧ @LT.lt Nat _ cb b ∧ AllLt b tups) : OffA p C D R cb tups b :=
  .conj ⟨h.1, h.2.1, h.2.2.1, h.2.2.2.1, h.2.2.2.2.1, h.2.2.2.2.2.2.2⟩
end
theorem law_start {w : World} {p : SA} {q : SM} {S : Sto} {tr : List Int} {cv : List Value} {cl : List Cell} {C D R cb : Addr} {st ob : Obj} {ws : List Value} {tups : List (Addr × Obj)} (P : Apart p (restL D R cb st ob ws tups)) (off : OwnOff tups [D, R, cb]) (ho : ∀ e ∈ led w p q (restL D R cb st ob ws tups), e.1 ≠ C)
    (o6 : @LT.lt Nat _ R D) (o7 : @LT.lt Nat _ cb R) (rep : Rep tups q S tr) (hc : AreCells tups cv cl) : LawI p q tups S tr cv cl C D R cb ob ws := by
  have h1 := ho (p.xS, instObj 276 p.dS) (.head _)
  have h2 := ho (p.dS, dictOf (sEnts w p q.hb q.thb q.bb q.tbb) q.nd) (.tail _ (.head _))
  have h3 := ho (p.aH, listOf q.vh.toArray q.nh) (.tail _ (.tail _ (.head _)))
  have h4 := ho (p.aK, listOf q.vk.toArray q.nk) (.tail _ (.tail _ (.tail _ (.head _))))
  have h5 := ho (p.aT, listOf q.vt.toArray q.nt) (.tail _ (.tail _ (.tail _ (.tail _ (.head _)))))
  have k1 := ho (D, st) (.tail _ (.tail _ (.tail _ (.tail _ (.tail _ (.head _))))))
  have k2 := ho (R, listOf ws.toArray 0) (.tail _ (.tail _ (.tail _ (.tail _ (.tail _ (.tail _ (.head _)))))))
  have k3 := ho (cb, ob) (.tail _ (.tail _ (.tail _ (.tail _ (.tail _ (.tail _ (.tail _ (.head _))))))))
  have a1 := P.o1
  have a2 := P.o2
  have a3 := P.o3
  have a4 := P.o4
  have d1 := P.off (D, st) (.head _)
  have d2 := P.off (R, listOf ws.toArray 0) (.tail _ (.head _))
  have d3 := P.off (cb, ob) (.tail _ (.tail _ (.head _)))
  dsimp only at h1 h2 h3 h4 h5 k1 k2 k3 d1 d2 d3
  refine ⟨rep, hc, a1, a2, a3, a4, ?_, fun e he y hy => ?_⟩
  · refine .cons ?_ (.cons ?_ (.cons ?_ (.cons ?_ (.cons ?_ (.cons ?_ (.cons ?_ (.cons ?_ (.cons (fun _ h => (nomatch h)) .nil))))))))
    all_goals (intro y hy; simp only [List.mem_cons, List.not_mem_nil, or_false] at hy)
    · rcases hy with rfl | rfl | rfl | rfl | rfl | rfl | rfl | rfl
      · exact Nat.ne_of_gt a1
      · exact Nat.ne_of_lt a2
      · exact Nat.ne_of_lt (Nat.lt_trans a2 a3)
      · exact Nat.ne_of_lt (Nat.lt_trans a2 (Nat.lt_trans a3 a4))
      · exact h1
      · exact (d1 _ (.head _)).symm
      · exact (d2 _ (.head _)).symm
      · exact (d3 _ (.head _)).symm
    · rcases hy with rfl | rfl | rfl | rfl | rfl | rfl | rfl
      · exact Nat.ne_of_lt (Nat.lt_trans a1 a2)
      · exact Nat.ne_of_lt (Nat.lt_trans a1 (Nat.lt_trans a2 a3))
      · exact Nat.ne_of_lt (Nat.lt_trans a1 (Nat.lt_trans a2 (Nat.lt_trans a3 a4)))
      · exact h2
      · exact (d1 _ (.tail _ (.head _))).symm
      · exact (d2 _ (.tail _ (.head _))).symm
      · exact (d3 _ (.tail _ (.head _))).symm
    · rcases hy with rfl | rfl | rfl | rfl | rfl | rfl
      · exact Nat.ne_of_lt a3
      · exact Nat.ne_of_lt (Nat.lt_trans a3 a4)
      · exact h3
      · exact (d1 _ (.tail _ (.tail _ (.head _)))).symm
      · exact (d2 _ (.tail _ (.tail _ (.head _)))).symm
      · exact (d3 _ (.tail _ (.tail _ (.head _)))).symm
    · rcases hy with rfl | rfl | rfl | rfl | rfl
      · exact Nat.ne_of_lt a4
      · exact h4
      · exact (d1 _ (.tail _ (.tail _ (.tail _ (.head _))))).symm
      · exact (d2 _ (.tail _ (.tail _ (.tail _ (.head _))))).symm
      · exact (d3 _ (.tail _ (.tail _ (.tail _ (.head _))))).symm
    · rcases hy with rfl | rfl | rfl | rfl
      · exact h5
      · exact (d1 _ (.tail _ (.tail _ (.tail _ (.tail _ (.head _)))))).symm
      · exact (d2 _ (.tail _ (.tail _ (.tail _ (.tail _ (.head _)))))).symm
      · exact (d3 _ (.tail _ (.tail _ (.tail _ (.tail _ (.head _)))))).symm
    · rcases hy with rfl | rfl | rfl
      · exact k1.symm
      · exact k2.symm
      · exact k3.symm
    · rcases hy with rfl | rfl
      · exact Nat.ne_of_gt o6
      · exact Nat.ne_of_gt (Nat.lt_trans o7 o6)
    · rcases hy with rfl
      exact Nat.ne_of_gt o7
  · have hf := fun y hy => P.off e (.tail _ (.tail _ (.tail _ he))) y hy
    simp only [List.mem_cons, List.not_mem_nil, or_false] at hy
    rcases hy with rfl | rfl | rfl | rfl | rfl | rfl | hy
    · exact hf _ (.head _)
    · exact hf _ (.tail _ (.head _))
    · exact hf _ (.tail _ (.tail _ (.head _)))
    · exact hf _ (.tail _ (.tail _ (.tail _ (.head _))))
    · exact hf _ (.tail _ (.tail _ (.tail _ (.tail _ (.head _)))))
    · exact ho e (.tail _ (.tail _ (.tail _ (.tail _ (.tail _ (.tail _ (.tail _ (.tail _ he))))))))
    · exact off e he y (by simp only [List.mem_cons, List.not_mem_nil, or_false]; exact hy)
section
variable {w : World} {p : SA} {q : SM} {tups : List (Addr × Obj)} {S : Sto} {tr : List Int} {cv ws : List Value} {cl : List Cell} {ns : List Int} {C D R cb : Addr} {cs ob : Obj} {n f : Nat} {most : Int} {t0 tm : Tok}
abbrev stN (R : Addr) (n : Nat) (t : Tok) : Obj := listOf [Value.ref R, .int (n : Int) t].toArray 0
/-- so many more items may be taken -/
structure Room (n f : Nat) : Prop where
  h : n + f ≤ 200
abbrev takeP (w : World) (p : SA) (q : SM) (C D R cb : Addr) (cs ob : Obj) (ws : List Value) (tups pre : List (Addr × Obj)) (n f : Nat) (most : Int) (r : Value) (news' : List (Addr × Obj)) : Prop :=
  ∃ k t2 t3, r = .int k t2 ∧ 0 ≤ k ∧ k < most ∧ Room (n + 1) f ∧ news' = pre ++ led w p q (LR C D R cb cs (stN R (n + 1) t3) ob ws tups)
theorem take_law (pre : List (Addr × Obj)) (L : LawI p q tups S tr cv cl C D R cb ob ws) (hp : ∀ e ∈ pre, OffA p C D R cb tups e.1) (hws : IntsAre ws ns) (hl : ns.length ≤ 40) (h1 : Room n (f + 1)) (hm : 0 < most) :
    Does w 369 1 [.ref D, .int most tm] (pre ++ led w p q (LR C D R cb cs (stN R n t0) ob ws tups)) (takeP w p q C D R cb cs ob ws tups pre n f most) := by
  constructor
  intro dp un gd cn csc a ccd cl' outer A₀ base h₀ L' mean mg mb m s Q E B F X N T hk hdp hun hret
  have hn := h1.h
  refine (take_does (n := 0) (n2 := 0) (t := t0) (at0 := (n : Int)) (Split.app (fun e he => (hp e he).d) L.splitD) (List.mem_append.mpr (.inr ?_)) (pw_ne L.dis 7 6 _ _ rfl rfl (by decide)) hws hl (by omega) (by omega) hm).run dp un gd cn csc a ccd cl' outer A₀ base h₀ L' mean mg mb m s Q E B F X N T hk hdp hun ?_
  · exact .tail _ (.tail _ (.tail _ (.tail _ (.tail _ (.tail _ (.tail _ (.head _)))))))
  · rintro r n' h' tk' F' N' ⟨k, t2, t3, rfl, k1, k2, rfl⟩
    refine hret _ _ h' tk' F' ?_ ⟨k, t2, t3, rfl, k1, k2, ⟨by omega⟩, rfl⟩
    rw [List.append_assoc] at N'
    exact N'
theorem take_law0 (L : LawI p q tups S tr cv cl C D R cb ob ws := by assumption) (hws : IntsAre ws ns := by assumption) (hl : ns.length ≤ 40 := by assumption) (h1 : Room n (f + 1) := by assumption) (hm : 0 < most := by first | exact len2_pos _ | assumption | decide) :
    Does w 369 1 [.ref D, .int most tm] (led w p q (LR C D R cb cs (stN R n t0) ob ws tups)) (takeP w p q C D R cb cs ob ws tups [] n f most) :=
  take_law [] L (fun _ h => (nomatch h)) hws hl h1 hm
theorem take_law1 {a : Addr × Obj} (L : LawI p q tups S tr cv cl C D R cb ob ws := by assumption) (O : OffA p C D R cb tups a.1 := by assumption) (hws : IntsAre ws ns := by assumption) (hl : ns.length ≤ 40 := by assumption) (h1 : Room n (f + 1) := by assumption) (hm : 0 < most := by first | exact len2_pos _ | assumption | decide) :
    Does w 369 1 [.ref D, .int most tm] (a :: led w p q (LR C D R cb cs (stN R n t0) ob ws tups)) (takeP w p q C D R cb cs ob ws tups [a] n f most) :=
  take_law [a] L (fun e h => by rw [List.mem_singleton.mp h]; exact O) hws hl h1 hm
theorem take_law3 {a b c : Addr × Obj} (L : LawI p q tups S tr cv cl C D R cb ob ws := by assumption) (O : OffA p C D R cb tups a.1 := by assumption) (O2 : OffA p C D R cb tups b.1 := by assumption) (O3 : OffA p C D R cb tups c.1 := by assumption) (hws : IntsAre ws ns := by assumption) (hl : ns.length ≤ 40 := by assumption) (h1 : Room n (f + 1) := by assumption) (hm : 0 < most := by first | exact len2_pos _ | assumption | decide) :
    Does w 369 1 [.ref D, .int most tm] (a :: b :: c :: led w p q (LR C D R cb cs (stN R n t0) ob ws tups)) (takeP w p q C D R cb cs ob ws tups [a, b, c] n f most) :=
  take_law [a, b, c] L (fun e h => by
    simp only [List.mem_cons, List.not_mem_nil, or_false] at h
    rcases h with rfl | rfl | rfl
    · exact O
    · exact O2
    · exact O3) hws hl h1 hm
theorem pk_take0 : Kof (takeP w p q C D R cb cs ob ws tups [] n f most) (fun Z => ∀ k t2 t3, 0 ≤ k → k < most → Room (n + 1) f → Z (.int k t2) (led w p q (LR C D R cb cs (stN R (n + 1) t3) ob ws tups))) := by
  rintro Z h _ _ ⟨k, t2, t3, rfl, h1, h2, h3, rfl⟩; exact h k t2 t3 h1 h2 h3
theorem pk_take1 {a : Addr × Obj} : Kof (takeP w p q C D R cb cs ob ws tups [a] n f most) (fun Z => ∀ k t2 t3, 0 ≤ k → k < most → Room (n + 1) f → Z (.int k t2) (a :: led w p q (LR C D R cb cs (stN R (n + 1) t3) ob ws tups))) := by
  rintro Z h _ _ ⟨k, t2, t3, rfl, h1, h2, h3, rfl⟩; exact h k t2 t3 h1 h2 h3
theorem pk_take3 {a b c : Addr × Obj} : Kof (takeP w p q C D R cb cs ob ws tups [a, b, c] n f most) (fun Z => ∀ k t2 t3, 0 ≤ k → k < most → Room (n + 1) f → Z (.int k t2) (a :: b :: c :: led w p q (LR C D R cb cs (stN R (n + 1) t3) ob ws tups))) := by
  rintro Z h _ _ ⟨k, t2, t3, rfl, h1, h2, h3, rfl⟩; exact h k t2 t3 h1 h2 h3
theorem len2_pos (n : Nat) : (0 : Int) < (n : Int) + 2 := by omega
theorem updM {M : Addr} {o o' st : Obj} {a : Addr × Obj} (O : OffA p C D R cb tups M) (h : @Ne Nat a.1 M) : Upd M o o' ((M, o) :: a :: led w p q (LR C D R cb cs st ob ws tups)) ((M, o') :: a :: led w p q (LR C D R cb cs st ob ws tups)) :=
  .head fun e he => by
    rcases List.mem_cons.mp he with rfl | he
    · exact h
    · exact O.out e he
end
section
variable {prog : Program} {w : World} {A : Around} {E : Value → Shared → Prop} {s : Shared} {h₀ : Heap} {L D : Addr} {m : Str → Option Value} {news : List (Addr × Obj)} {n : Nat}
theorem len_L {vs : List Value} {Q : Value → Shared → Prop} (N : News h₀ L s.heap news := by assumption) (hm : (D, listOf vs.toArray n) ∈ news := by k_mem) (hf : vs.length ≤ 100 := by assumption) (h : Q (.int (vs.length : Int) (s.toks + 1)) { s with toks := s.toks + 1 + 1 }) :
    wpAny (model prog w) A (call (.builtin "len") [.ref D]) Q E s :=
  KM.len_K N hm (n := vs.length) (by simp) (by omega) h
theorem pickc {n₁ : List (Addr × Obj)} {cv : List Value} {cl : List Cell} {k : Int} (hcs : AreCells n₁ cv cl) (h0 : 0 ≤ k) (h1 : k < (cv.length : Int)) (h2 : cv.length ≤ 100) : At cl k (cl.getD k.toNat (.int 0)) :=
  At.pick h0 (by rw [← hcs.1]; exact h1) (by rw [← hcs.1]; omega)
theorem append_M {vs : List Value} {x : Value} {Q : Value → Shared → Prop} {news' : List (Addr × Obj)} (F : Fr h₀ L s.heap m := by assumption) (N : News h₀ L s.heap news := by assumption) (U : Upd D (listOf vs.toArray n) (listOf (vs ++ [x]).toArray (n + 1)) news news' := by first | exact Upd.tail (by assumption) (updM (by assumption) (by assumption)) | exact Upd.tail (ne_c2 (by assumption)) (Upd.tail (by assumption) (updM (by assumption) (by assumption))) | exact Upd.tail (conjC1 (by assumption)) (LawI.updC1 (by assumption) (by assumption) _ _) | exact Upd.tail (OffA.conjMid (by assumption)).c (LawI.updCmid (by assumption) (by assumption) (by assumption) _ _))
    (hsz : vs.length ≤ 100 := by assumption) (h : ∀ h', Fr h₀ L h' m → News h₀ L h' news' → Q .none { s with heap := h' }) : wpAny (model prog w) A (call (.builtin "list.append") [.ref D, x]) Q E s :=
  append_L F N U (by omega) h
end
section
variable {h₀ h : Heap} {L I : Addr} {it : Obj} {s₁ : Shared} {m : Str → Option Value} {news : List (Addr × Obj)} {rest : (Str → Option Value) → List (Addr × Obj) → Prop} {Q : Flow → Shared → Prop} {tk : Nat}
theorem fpost_next (F : Fr h₀ L h m) (N : News h₀ L h ((I, it) :: news)) (ho : ∀ e ∈ news, e.1 ≠ I) (r : rest m news) : FPost h₀ L s₁ I it rest Q .next { s₁ with heap := h, toks := tk } := ⟨h, tk, m, news, rfl, F, N, ho, r⟩
theorem fpost_cont (F : Fr h₀ L h m) (N : News h₀ L h ((I, it) :: news)) (ho : ∀ e ∈ news, e.1 ≠ I) (r : rest m news) : FPost h₀ L s₁ I it rest Q .cont { s₁ with heap := h, toks := tk } := ⟨h, tk, m, news, rfl, F, N, ho, r⟩
end
inductive itemJ (w : World) (p : SA) (q : SM) (S : Sto) (cv : List Value) (cl : List Cell) (C D R cb M I : Addr) (it ob : Obj) (ws : List Value) (nc a0 : Nat) (i : Nat) (m : Str → Option Value) (nx : List (Addr × Obj)) : Prop where
  | mk : ∀ tups iv ni its n0 t0, nx = (M, listOf iv.toArray ni) :: (I, it) :: led w p q (LR C D R cb (listOf cv.toArray nc) (stN R n0 t0) ob ws tups) → m (Str.ofString "state") = some (.ref D) → m (Str.ofString "cells") = some (.ref C) → m (Str.ofString "items") = some (.ref M) → LawI p q tups S [] cv cl C D R cb ob ws → AreCells tups iv its → its.length = i → (∀ c ∈ its, Item S c) → OffA p C D R cb tups M → OffA p C D R cb tups I → n0 = a0 + i → itemJ w p q S cv cl C D R cb M I it ob ws nc a0 i m nx
inductive pairJ (w : World) (p : SA) (C D R cb : Addr) (ob : Obj) (ws : List Value) (i : Nat) (m : Str → Option Value) (nx : List (Addr × Obj)) : Prop where
  | mk : ∀ q tups S cv cl nc n0 t0, nx = led w p q (LR C D R cb (listOf cv.toArray nc) (stN R n0 t0) ob ws tups) → m (Str.ofString "state") = some (.ref D) → m (Str.ofString "cells") = some (.ref C) → LawI p q tups S [] cv cl C D R cb ob ws → Pairs S cl i → n0 = 2 + 2 * i → pairJ w p C D R cb ob ws i m nx
theorem int_item {n : Nat} {k : Int} {b : Addr} {t u : Tok} {tups : List (Addr × Obj)} (h : ¬ k < (n : Int)) : IsCell ((b, tupO 5 t (k - (n : Int)) u) :: tups) (.ref b) (.int (k - (n : Int)).toNat) := by
  obtain ⟨j, hj⟩ : ∃ j : Nat, k - (n : Int) = (j : Int) := ⟨(k - (n : Int)).toNat, by omega⟩
  rw [hj]
  exact .int (.head _)
theorem News.tup3 {h₀ h : Heap} {L : Addr} {w : World} {p : SA} {q : SM} {C D R cb : Addr} {cs st ob : Obj} {ws : List Value} {tups : List (Addr × Obj)} {a x y z : Addr × Obj} (N : News h₀ L h (x :: y :: z :: a :: led w p q (LR C D R cb cs st ob ws tups))) : News h₀ L h (x :: y :: z :: led w p q (LR C D R cb cs st ob ws (a :: tups))) := N.perm (by walk_at "MINE perm")
theorem News.last3 {h₀ h : Heap} {L : Addr} {a x y z : Addr × Obj} {l : List (Addr × Obj)} (N : News h₀ L h (a :: x :: y :: z :: l)) : News h₀ L h (x :: y :: z :: a :: l) := N.perm (by walk_at "MINE perm")
theorem ne_c2 {x y b : Nat} {r : Prop} (h : x < b ∧ y < b ∧ r) : @Ne Nat b y := Nat.ne_of_gt h.2.1
theorem items_push {S : Sto} {its : List Cell} {x : Cell} (h : ∀ c ∈ its, Item S c) (k : Item S x) : ∀ c ∈ its ++ [x], Item S c := fun c hc => by
  rcases List.mem_append.mp hc with hc | hc
  · exact h c hc
  · rw [List.mem_singleton.mp hc]; exact k
theorem pair_item {S : Sto} {cl : List Cell} {cv : List Value} {i : Nat} {k : Int} {n₁ : List (Addr × Obj)} (P : Pairs S cl i) (hcs : AreCells n₁ cv cl) (h0 : 0 ≤ k) (h1 : k < (cv.length : Int)) : Item S (cl.getD k.toNat (.int 0)) :=
  P.ok _ (pick_mem h0 (by rw [← hcs.1]; exact h1))
theorem two_of {n₁ : List (Addr × Obj)} {iv : List Value} {its : List Cell} (h : AreCells n₁ iv its) (hl : its.length = 2) : ∃ b0 b1 c0 c1, iv = [.ref b0, .ref b1] ∧ its = [c0, c1] ∧ IsCell n₁ (.ref b0) c0 ∧ IsCell n₁ (.ref b1) c1 := by
  obtain ⟨c0, c1, rfl⟩ : ∃ c0 c1, its = [c0, c1] := by
    rcases its with _ | ⟨c0, _ | ⟨c1, _ | _⟩⟩ <;> first | exact ⟨_, _, rfl⟩ | (simp at hl)
  have hl2 := h.1
  obtain ⟨v0, v1, rfl⟩ : ∃ v0 v1, iv = [v0, v1] := by
    rcases iv with _ | ⟨c0, _ | ⟨c1, _ | _⟩⟩ <;> first | exact ⟨_, _, rfl⟩ | (simp at hl2)
  obtain ⟨v, e, k0⟩ := h.2 0 c0 rfl
  cases e
  obtain ⟨v, e, k1⟩ := h.2 1 c1 rfl
  cases e
  obtain ⟨b0, _, _, rfl, _⟩ := id k0.out
  obtain ⟨b1, _, _, rfl, _⟩ := id k1.out
  exact ⟨b0, b1, c0, c1, rfl, rfl, k0, k1⟩
theorem News.endPair {h₀ h : Heap} {L : Addr} {w : World} {p : SA} {q : SM} {C D R cb : Addr} {cs st ob : Obj} {ws : List Value} {tups : List (Addr × Obj)} {a m i : Addr × Obj} (N : News h₀ L h (a :: led w p q (m :: i :: LR C D R cb cs st ob ws tups))) : News h₀ L h (i :: led w p q (LR C D R cb cs st ob ws (a :: tups))) := N.perm (by walk_at "MINE perm")
theorem sub_tail {a : Addr × Obj} {l : List (Addr × Obj)} : ∀ e ∈ l, e ∈ a :: l := fun _ h => .tail _ h
theorem law_pair {p : SA} {q : SM} {tups : List (Addr × Obj)} {S : Sto} {tr : List Int} {cv ws : List Value} {cl : List Cell} {C D R cb b b0 b1 : Addr} {ob : Obj} {c0 c1 : Cell} {t u : Tok} (L : LawI p q tups S tr cv cl C D R cb ob ws) (O : OffA p C D R cb tups b)
    (k0 : IsCell tups (.ref b0) c0) (k1 : IsCell tups (.ref b1) c1) :
    LawI p ⟨q.vh ++ [.ref b0] ++ [.ref b1], q.vk, q.vt, q.nd, q.nh + 1 + 1, q.nk, q.nt, q.hb, q.bb, q.thb, q.tbb⟩ ((b, tupO 3 t (q.vh.length : Int) u) :: tups) ⟨S.H ++ [c0] ++ [c1], S.K⟩ tr (cv ++ [.ref b]) (cl ++ [.lis S.H.length]) C D R cb ob ws := by
  have R : Rep ((b, tupO 3 t (q.vh.length : Int) u) :: tups) ⟨q.vh ++ [.ref b0] ++ [.ref b1], q.vk, q.vt, q.nd, q.nh + 1 + 1, q.nk, q.nt, q.hb, q.bb, q.thb, q.tbb⟩ ⟨S.H ++ [c0] ++ [c1], S.K⟩ tr :=
    ⟨((L.rep.h.mono sub_tail).push (k0.mono sub_tail)).push (k1.mono sub_tail), L.rep.k.mono sub_tail, L.rep.t⟩
  refine ((L.tup O).reps R).cellsTo ((L.cells.mono sub_tail).push ?_)
  rw [← L.rep.h.1]
  exact .lis (.head _)
theorem law_hb {h₀ h : Heap} {Lo : Addr} {w : World} {p : SA} {q : SM} {tups : List (Addr × Obj)} {S : Sto} {tr : List Int} {cv ws : List Value} {cl : List Cell} {C D R cb : Addr} {cs st ob : Obj} {hb bb : Int} {thb tbb : Tok} (L : LawI p q tups S tr cv cl C D R cb ob ws)
    (N : News h₀ Lo h ((p.xS, instObj 276 p.dS) :: (p.dS, dictOf (sEnts w p hb thb bb tbb) q.nd) :: (p.aH, listOf q.vh.toArray q.nh) :: (p.aK, listOf q.vk.toArray q.nk) :: (p.aT, listOf q.vt.toArray q.nt) :: LR C D R cb cs st ob ws tups)) :
    ∃ q2, LawI p q2 tups S tr cv cl C D R cb ob ws ∧ News h₀ Lo h (led w p q2 (LR C D R cb cs st ob ws tups)) :=
  ⟨⟨q.vh, q.vk, q.vt, q.nd, q.nh, q.nk, q.nt, hb, bb, thb, tbb⟩, L.reps ⟨L.rep.h, L.rep.k, L.rep.t⟩, N⟩
theorem take40 {ws : List Value} {l : List Int} (_ : IntsAre ws (List.take 40 l)) : (List.take 40 l).length ≤ 40 := by simp only [List.length_take]; omega
end lawq
section lawr
variable {w : World} {p : SA} {q : SM} {tups : List (Addr × Obj)} {S : Sto} {tr : List Int} {cv ws : List Value} {cl : List Cell} {C D R cb b I : Addr} {cs st ob o : Obj}
theorem OffA.conj1 {x : Nat} (h : @LT.lt Nat _ x b ∧ @LT.lt Nat _ p.xS b ∧ @LT.lt Nat _ p.dS b ∧ @LT.lt Nat _ p.aH b ∧ @LT.lt Nat _ p.aK b ∧ @LT.lt Nat _ p.aT b ∧ @LT.lt Nat _ C b ∧ @LT.lt Nat _ D b ∧ @LT.lt Nat _ R b ∧ @LT.lt Nat _ cb b ∧ AllLt b tups) : OffA p C D R cb tups b := .conj h.2
theorem OffA.conjL {x : Nat} (_ : LawI p q tups S tr cv cl C D R cb ob ws) (h : @LT.lt Nat _ x b ∧ @LT.lt Nat _ p.xS b ∧ @LT.lt Nat _ p.dS b ∧ @LT.lt Nat _ p.aH b ∧ @LT.lt Nat _ p.aK b ∧ @LT.lt Nat _ p.aT b ∧ @LT.lt Nat _ C b ∧ @LT.lt Nat _ D b ∧ @LT.lt Nat _ R b ∧ @LT.lt Nat _ cb b ∧ AllLt b tups) : OffA p C D R cb tups b := .conj h.2
theorem conjC1 {x a1 a2 a3 a4 a5 C b : Nat} {r : Prop} (h : x < b ∧ a1 < b ∧ a2 < b ∧ a3 < b ∧ a4 < b ∧ a5 < b ∧ C < b ∧ r) : @Ne Nat b C := Nat.ne_of_gt h.2.2.2.2.2.2.1
theorem ne_c1 {x b : Nat} {r : Prop} (h : x < b ∧ r) : @Ne Nat b x := Nat.ne_of_gt h.1
theorem News.tup1 {h₀ h : Heap} {L : Addr} {a x : Addr × Obj} (N : News h₀ L h (a :: x :: led w p q (LR C D R cb cs st ob ws tups))) : News h₀ L h (x :: led w p q (LR C D R cb cs st ob ws (a :: tups))) := N.perm (by walk_at "MINE perm")
theorem bind_law {a : Addr × Obj} {vx : Value} {x : Cell} {t u : Tok} {k : Int} (L : LawI p q tups S tr cv cl C D R cb ob ws := by assumption) (Ob : OffA p C D R cb tups b := by exact OffA.conj1 (by assumption)) (OI : OffA p C D R cb tups a.1 := by assumption) (hba : @Ne Nat b a.1 := by exact ne_c1 (by assumption)) (hx : IsCell tups vx x := by assumption) (hg : S.get x = some x := by assumption) (hk : 0 ≤ k := by assumption) (hr : S.room < 1000 := by assumption) (ht : tr.length < 1000 := by assumption) :
    Does w 139 1 [.ref p.xS, vx, .ref b] ((b, tupO 5 t k u) :: a :: led w p q (LR C D R cb cs st ob ws tups)) (fun _ news' => ∃ q' tr', news' = a :: led w p q' (LR C D R cb cs st ob ws ((b, tupO 5 t k u) :: tups)) ∧
      LawI p q' ((b, tupO 5 t k u) :: tups) (S.set x (.int k.toNat)) tr' cv cl C D R cb ob ws ∧ OffA p C D R cb ((b, tupO 5 t k u) :: tups) a.1 ∧ tr'.length ≤ tr.length + S.room) := by
  have L2 : LawI p q ((b, tupO 5 t k u) :: tups) S tr cv cl C D R cb ob ws := L.tup Ob
  have hv : IsCell ((b, tupO 5 t k u) :: tups) (.ref b) (.int k.toNat) := by
    obtain ⟨j, rfl⟩ : ∃ j : Nat, k = (j : Int) := ⟨k.toNat, by omega⟩
    exact .int (.head _)
  have hne : (Cell.int k.toNat) ≠ x := fun e => by subst e; exact absurd (get_var hg) (by simp [Cell.isVar])
  refine (bind_does (rest := (b, tupO 5 t k u) :: a :: LR C D R cb cs st ob ws tups) L2.rep ?_ (L.apart2 (a := (b, tupO 5 t k u)) Ob OI) hr ht (hx.mono sub_tail) hv hg hne).news ?_ ?_
  · intro e he
    rcases List.mem_cons.mp he with rfl | he
    · exact .head _
    · exact .tail _ (.tail _ (.tail _ (.tail _ (.tail _ (.tail _ he)))))
  · walk_at "MINE perm"
  · rintro r n' ⟨q', tr', rfl, R', M'⟩
    have hm := M'.room
    have hf := free_le S
    refine ⟨_, ?_, q', tr', rfl, L2.reps R', OI.tup hba, by omega⟩
    walk_at "MINE perm"
theorem binds_room {i : Nat} (B : Binds S cl i) : S.room ≤ 12 := by
  have h1 := B.hl
  have h2 := B.k
  unfold Sto.room
  rw [h2]
  simpa using h1
inductive bindJ (w : World) (p : SA) (cv : List Value) (cl : List Cell) (C D R cb : Addr) (ob : Obj) (ws : List Value) (nc a0 : Nat) (i : Nat) (m : Str → Option Value) (nx : List (Addr × Obj)) : Prop where
  | mk : ∀ q tups S tr n0 t0, nx = led w p q (LR C D R cb (listOf cv.toArray nc) (stN R n0 t0) ob ws tups) → m (Str.ofString "state") = some (.ref D) → m (Str.ofString "cells") = some (.ref C) → LawI p q tups S tr cv cl C D R cb ob ws → Binds S cl i → tr.length ≤ 12 * i → n0 ≤ a0 + 2 * i → bindJ w p cv cl C D R cb ob ws nc a0 i m nx
inductive slotJ (w : World) (p : SA) (tr : List Int) (C D R cb : Addr) (ob : Obj) (ws : List Value) (a0 : Nat) (i : Nat) (m : Str → Option Value) (nx : List (Addr × Obj)) : Prop where
  | mk : ∀ q tups S cv cl nc n0 t0, nx = led w p q (LR C D R cb (listOf cv.toArray nc) (stN R n0 t0) ob ws tups) → m (Str.ofString "state") = some (.ref D) → m (Str.ofString "cells") = some (.ref C) → LawI p q tups S tr cv cl C D R cb ob ws → Slots S cl i → n0 ≤ a0 + i → slotJ w p tr C D R cb ob ws a0 i m nx
theorem three_cells {b1 b2 : Addr} {t1 u1 t2 u2 : Tok} {i : Nat} {v : Value} {c : Cell} (h : IsCell tups v c) : AreCells ((b2, tupO 5 t2 (i : Int) u2) :: (b1, tupO 1 t1 (i : Int) u1) :: tups) [.ref b1, .ref b2, v] [.srf i, .int i, c] := by
  refine ⟨rfl, fun j d hj => ?_⟩
  rcases j with _ | _ | _ | j
  · cases hj; exact ⟨_, rfl, .srf (.tail _ (.head _))⟩
  · cases hj; exact ⟨_, rfl, .int (.head _)⟩
  · cases hj; exact ⟨_, rfl, h.mono fun e he => .tail _ (.tail _ he)⟩
  · cases hj
theorem three_of {h₀ h : Heap} {Lo : Addr} {l3 : Addr × Obj} {b1 b2 : Addr} {t1 u1 t2 u2 : Tok} {i : Nat} {v : Value} {c : Cell} {r : List (Addr × Obj)} (_ : News h₀ Lo h (l3 :: (b2, tupO 5 t2 (i : Int) u2) :: (b1, tupO 1 t1 (i : Int) u1) :: r)) (h : IsCell tups v c) :
    AreCells ((b2, tupO 5 t2 (i : Int) u2) :: (b1, tupO 1 t1 (i : Int) u1) :: tups) [.ref b1, .ref b2, v] [.srf i, .int i, c] := three_cells h
theorem three_slot {i : Nat} {k : Int} (h0 : 0 ≤ k) (h1 : k < 3) (hi : i < 4) : [Cell.srf i, .int i, .ref i].getD k.toNat (.int 0) = .srf i ∨ [Cell.srf i, .int i, .ref i].getD k.toNat (.int 0) = .ref i ∧ i < 4 ∨ ∃ n, [Cell.srf i, .int i, .ref i].getD k.toNat (.int 0) = .int n := by
  rcases (by omega : k = 0 ∨ k = 1 ∨ k = 2) with rfl | rfl | rfl
  · exact .inl rfl
  · exact .inr (.inr ⟨i, rfl⟩)
  · exact .inr (.inl ⟨rfl, hi⟩)
theorem three_at {i : Nat} {k : Int} (h0 : 0 ≤ k) (h1 : k < 3) : At [Cell.srf i, .int i, .ref i] k ([Cell.srf i, .int i, .ref i].getD k.toNat (.int 0)) := At.pick h0 h1 (by show 3 < 1000000; decide)
theorem stackput_law {a l3 : Addr × Obj} {b1 b2 : Addr} {o1 o2 : Obj} {v : Value} {i : Int} {t : Tok} {d : Cell} (L : LawI p q tups S tr cv cl C D R cb ob ws := by assumption) (O1 : OffA p C D R cb tups b1 := by exact OffA.conj1 (by assumption)) (O2 : OffA p C D R cb ((b1, o1) :: tups) b2 := by exact OffA.tup (OffA.conj1 (And.right (by assumption))) (Ne.symm (ne_c1 (by assumption)))) (OI : OffA p C D R cb tups a.1 := by assumption) (h1 : @Ne Nat b1 a.1 := by exact ne_c1 (by assumption)) (h2 : @Ne Nat b2 a.1 := by exact ne_c2 (by assumption))
    (hv : IsCell ((b2, o2) :: (b1, o1) :: tups) v d := by assumption) (hl : S.K.length < 900 := by assumption) (hi : i = (S.K.length : Int) := by assumption) :
    Does w 174 1 [.ref p.xS, .int i t, v] (l3 :: (b2, o2) :: (b1, o1) :: a :: led w p q (LR C D R cb cs st ob ws tups)) (fun _ news' => ∃ q', news' = a :: led w p q' (LR C D R cb cs st ob ws ((b2, o2) :: (b1, o1) :: tups)) ∧
      LawI p q' ((b2, o2) :: (b1, o1) :: tups) ⟨S.H, S.K ++ [d]⟩ tr cv cl C D R cb ob ws ∧ OffA p C D R cb ((b2, o2) :: (b1, o1) :: tups) a.1) := by
  have L2 : LawI p q ((b2, o2) :: (b1, o1) :: tups) S tr cv cl C D R cb ob ws := (L.tup O1).tup O2
  have OA : OffA p C D R cb ((b2, o2) :: (b1, o1) :: tups) a.1 := (OI.tup h1).tup h2
  have hk : q.vk.length = S.K.length := L.rep.k.1
  refine (stackput_does (q := q) (rest := a :: LR C D R cb cs st ob ws ((b2, o2) :: (b1, o1) :: tups)) (v := v) (i := i) (t := t) (L2.apart1 OA) (by omega) (by omega)).news ?_ ?_
  · walk_at "MINE perm"
  · rintro r n' rfl
    refine ⟨_, ?_, ⟨q.vh, q.vk ++ [v], q.vt, q.nd, q.nh, q.nk + 1, q.nt, q.hb, q.bb, q.thb, q.tbb⟩, rfl, L2.reps ⟨L2.rep.h, L2.rep.k.push hv, L2.rep.t⟩, OA⟩
    walk_at "MINE perm"
end lawr
section lawt
variable {w : World} {p : SA} {q q' : SM} {tups tups' : List (Addr × Obj)} {S : Sto} {tr : List Int} {cv ws : List Value} {cl : List Cell} {C D R cb b I : Addr} {cs st ob o : Obj}
theorem pick_ok {k : Int} {n₁ : List (Addr × Obj)} (h : ∀ c ∈ cl, S.Ok c) (hcs : AreCells n₁ cv cl) (h0 : 0 ≤ k) (h1 : k < (cv.length : Int)) : S.Ok (cl.getD k.toNat (.int 0)) := h _ (pick_mem h0 (by rw [← hcs.1]; exact h1))
theorem LawI.lenH (L : LawI p q tups S tr cv cl C D R cb ob ws) (h : S.room ≤ 40) : q.vh.length ≤ 1000 := by
  rw [L.rep.h.1]; unfold Sto.room at h; omega
theorem LawI.lenK (L : LawI p q tups S tr cv cl C D R cb ob ws) (h : S.room ≤ 40) : q.vk.length ≤ 1000 := by
  rw [L.rep.k.1]; unfold Sto.room at h; omega
theorem LawI.lenT (L : LawI p q tups S tr cv cl C D R cb ob ws) (h : tr.length < 500) : q.vt.length ≤ 1000 := by
  rw [L.rep.t.length]; omega
theorem copy_L {prog : Program} {A : Around} {E : Value → Shared → Prop} {s : Shared} {h₀ : Heap} {Lo l : Addr} {m : Str → Option Value} {news : List (Addr × Obj)} {n : Nat} {vs : List Value} {Q : Value → Shared → Prop} (F : Fr h₀ Lo s.heap m := by assumption) (N : News h₀ Lo s.heap news := by assumption) (hm : (l, listOf vs.toArray n) ∈ news := by k_mem) (hf : vs.length ≤ 1000 := by first | exact LawI.lenH (by assumption) (by assumption) | exact LawI.lenK (by assumption) (by assumption) | exact LawI.lenT (by assumption) (by assumption))
    (h : ∀ d c h', Fr h₀ Lo h' m → News h₀ Lo h' ((d, listOf vs.toArray c) :: news) → AllLt d news → Q (.ref d) { s with heap := h' }) :
    wpAny (model prog w) A (call (.type "list") [.ref l]) Q E s :=
  list_copyK F N (News.isList N hm) (fun d c h' F' N' k => h d c h' F' N' (allLt_of k)) (by rw [PySem.sizeLine_eq, List.size_toArray]; omega)
theorem Does.mono {f : Addr} {n n' : Nat} {vs : List Value} {news : List (Addr × Obj)} {Post : Value → List (Addr × Obj) → Prop} (d : Does w f n vs news Post) (h : n ≤ n') : Does w f n' vs news Post := by
  constructor
  intro dp un gd cn csc a ccd cl' outer A₀ base h₀ L' mean mg mb m s Q E B F X N T hk hdp hun hret
  exact d.run dp un gd cn csc a ccd cl' outer A₀ base h₀ L' mean mg mb m s Q E B F X N T hk (by omega) (by omega) hret
theorem bdict_start {prog : Program} {o' : Obj} (h : o'.IsDictOf (intKind prog w) ([] : List (Int × Value))) : BDict w tups o' (fun _ => none) 0 := by
  obtain ⟨es, ep, h1, h2, _, h4, _⟩ := h
  have he : es.toList = [] := by
    have := h4.length
    exact List.eq_nil_of_length_eq_zero (by simpa using this)
  exact ⟨es, ep, [], h1, h2, by rw [he]; rfl, .nil, fun _ h => (nomatch h), Nat.le_refl _, fun _ _ => rfl, fun _ _ h => (nomatch h)⟩
theorem own_start {prog : Program} {l1 l2 B : Addr} {o' : Obj} {rest : List (Addr × Obj)} (L : LawI p q tups S tr cv cl C D R cb ob ws) (W : S.WF) (A : Acyc S) (hs : S.room ≤ 40) (sub : Sub tups rest) (d : o'.IsDictOf (intKind prog w) ([] : List (Int × Value))) (lo : (B == sysModules) = false) (h1 : l1 ≠ B) (h2 : l2 ≠ B) (h3 : ∀ e ∈ rest, e.1 ≠ B) :
    Own w S S (fun _ => none) tups rest l1 l2 B q.vh q.vk o' 0 := ⟨L.rep.h, L.rep.k, bdict_start d, .refl S, W.fit, A, hs, sub, lo, h1, h2, h3⟩
theorem meet_law {prog : Program} {l1 l2 B : Addr} {o' : Obj} {n1 n2 : Nat} {x3 x4 a : Addr × Obj} {v1 v2 : Value} {c d : Cell} (L : LawI p q tups S tr cv cl C D R cb ob ws := by assumption) (W : S.WF := by assumption) (A : Acyc S := by assumption) (hs : S.room ≤ 40 := by assumption) (hd : o'.IsDictOf (intKind prog w) ([] : List (Int × Value)) := by assumption) (lo : (B == sysModules) = false := by assumption)
    (hne : ∀ e ∈ x4 :: x3 :: (l2, listOf q.vk.toArray n2) :: (l1, listOf q.vh.toArray n1) :: a :: led w p q (LR C D R cb cs st ob ws tups), e.1 ≠ B := by assumption) (hv1 : IsCell tups v1 c := by assumption) (hv2 : IsCell tups v2 d := by assumption) (ok1 : S.Ok c := by exact pick_ok (by assumption) (by assumption) (by assumption) (by assumption)) (ok2 : S.Ok d := by exact pick_ok (by assumption) (by assumption) (by assumption) (by assumption)) :
    Does w 390 171 [v1, v2, .ref l1, .ref l2, .ref B] ((B, o') :: x4 :: x3 :: (l2, listOf q.vk.toArray n2) :: (l1, listOf q.vh.toArray n1) :: a :: led w p q (LR C D R cb cs st ob ws tups)) (fun r news' => ∃ b, r = .bool b ∧ (b = true ↔ Unif S c d) ∧
      news' = x4 :: x3 :: (l2, listOf q.vk.toArray n2) :: (l1, listOf q.vh.toArray n1) :: a :: led w p q (LR C D R cb cs st ob ws tups)) := by
  have hsub : Sub tups (x4 :: x3 :: a :: led w p q (LR C D R cb cs st ob ws tups)) := fun e he => .tail _ (.tail _ (.tail _ (law_tup he)))
  have O := own_start (l1 := l1) (l2 := l2) L W A hs hsub hd lo (hne (l1, _) (.tail _ (.tail _ (.tail _ (.head _))))) (hne (l2, _) (.tail _ (.tail _ (.head _)))) (fun e he => hne e ((by walk_at "MINE perm" : ∀ e ∈ x4 :: x3 :: a :: led w p q (LR C D R cb cs st ob ws tups), e ∈ x4 :: x3 :: (l2, listOf q.vk.toArray n2) :: (l1, listOf q.vh.toArray n1) :: a :: led w p q (LR C D R cb cs st ob ws tups)) e he))
  have hfr := free_le S
  have M := (meet_does (w := w) (S := S) (cells := tups) (aH := l1) (aK := l2) (aB := B) (vh := q.vh) (vk := q.vk) (nh := n1) (nk := n2) (2 * S.room + 3)).use O (by omega) hv1 hv2 ok1 ok2 (Low.start S S.room c) (by omega)
  refine (M.mono (by omega)).news ?_ ?_
  · walk_at "MINE perm"
  · rintro r n' ⟨b, o'', rfl, rfl, yes, no⟩
    refine ⟨_, ?_, b, rfl, due_unif (fun hb => ?_) no, rfl⟩
    · walk_at "MINE perm"
    · obtain ⟨bd', U', nb', M', _, _⟩ := yes hb
      exact ⟨U', M'.ac, M'.sol⟩
theorem trial_law {x1 x2 x3 x4 a : Addr × Obj} {v1 v2 : Value} {c d : Cell} {b0 : Bool} (L : LawI p q tups S tr cv cl C D R cb ob ws := by assumption) (W : S.WF := by assumption) (A : Acyc S := by assumption) (hs : S.room ≤ 40 := by assumption) (ht : tr.length < 500 := by assumption) (O1 : OffA p C D R cb tups x1.1 := by exact OffA.conj1 (And.right (And.right (And.right (by assumption))))) (O2 : OffA p C D R cb tups x2.1 := by exact OffA.conj1 (And.right (And.right (by assumption)))) (O3 : OffA p C D R cb tups x3.1 := by exact OffA.conj1 (And.right (by assumption))) (O4 : OffA p C D R cb tups x4.1 := by exact OffA.conj1 (by assumption)) (OI : OffA p C D R cb tups a.1 := by assumption)
    (hv1 : IsCell tups v1 c := by assumption) (hv2 : IsCell tups v2 d := by assumption) (ok1 : S.Ok c := by exact pick_ok (by assumption) (by assumption) (by assumption) (by assumption)) (ok2 : S.Ok d := by exact pick_ok (by assumption) (by assumption) (by assumption) (by assumption)) (hb : b0 = true ↔ Unif S c d := by assumption) :
    Does w 355 9 [.ref p.xS, v1, v2, .bool true] (x1 :: x2 :: x3 :: x4 :: a :: led w p q (LR C D R cb cs st ob ws tups)) (fun r news' => ∃ q' tl, r = .bool b0 ∧ news' = x1 :: x2 :: x3 :: x4 :: a :: led w p q' (LR C D R cb cs st ob ws (tl ++ tups)) ∧
      LawI p q' (tl ++ tups) S tr cv cl C D R cb ob ws ∧ q'.hb = q.hb ∧ q'.bb = q.bb ∧ OffA p C D R cb (tl ++ tups) a.1) := by
  have P : Apart p (x1 :: x2 :: x3 :: x4 :: a :: LR C D R cb cs st ob ws tups) := show Apart p ([x1, x2, x3, x4, a] ++ LR C D R cb cs st ob ws tups) from L.apart
    (List.forall_mem_cons.mpr ⟨O1, List.forall_mem_cons.mpr ⟨O2, List.forall_mem_cons.mpr ⟨O3, List.forall_mem_cons.mpr ⟨O4, List.forall_mem_cons.mpr ⟨OI, fun _ h => nomatch h⟩⟩⟩⟩⟩)
  have hsub : Sub tups (x1 :: x2 :: x3 :: x4 :: a :: LR C D R cb cs st ob ws tups) := fun e he => .tail _ (.tail _ (.tail _ (.tail _ (.tail _ (.tail _ (.tail _ (.tail _ (.tail _ he))))))))
  refine (trial_does L.rep hsub P W A hs ht hv1 hv2 ok1 ok2).news ?_ ?_
  · walk_at "MINE perm"
  · rintro r n' ⟨q', tl, b, rfl, rfl, R', h1, h2, hf, hiff⟩
    have hin : ∀ y ∈ adrs p C D R cb, ∃ o, (y, o) ∈ led w p q (x1 :: x2 :: x3 :: x4 :: a :: LR C D R cb cs st ob ws tups) := by
      intro y hy
      obtain ⟨o, ho⟩ := law_has (w := w) (q := q) (cs := cs) (st := st) (ob := ob) (ws := ws) (tups := tups) hy
      refine ⟨o, ?_⟩
      revert ho
      generalize (y, o) = e
      revert e
      walk_at "MINE perm"
    have hI : (a.1, a.2) ∈ led w p q (x1 :: x2 :: x3 :: x4 :: a :: LR C D R cb cs st ob ws tups) := .tail _ (.tail _ (.tail _ (.tail _ (.tail _ (.tail _ (.tail _ (.tail _ (.tail _ (.head _)))))))))
    refine ⟨_, ?_, q', tl, ?_, rfl, L.app R' (fun e he y hy => ?_), h1, h2, OI.app fun e he => Nat.ne_of_gt (hf e he _ hI)⟩
    · (repeat (refine subc (by first | k_mem | exact .tail _ (.tail _ (.tail _ (.tail _ (.tail _ (List.mem_append_right tl (by k_mem))))))) ?_))
      intro e he
      rcases List.mem_append.mp he with he | he
      · exact .tail _ (.tail _ (.tail _ (.tail _ (.tail _ (List.mem_append_left _ he)))))
      · exact .tail _ (.tail _ (.tail _ (.tail _ (.tail _ (List.mem_append_right tl (.tail _ (.tail _ (.tail _ (.tail _ (.tail _ (.tail _ (.tail _ (.tail _ (.tail _ he))))))))))))))
    · have : b = b0 := by rw [Bool.eq_iff_iff, hiff, hb]
      rw [this]
    · obtain ⟨o, ho⟩ := hin y hy
      exact Nat.ne_of_gt (hf e he _ ho)
theorem unify_law {v1 v2 : Value} {c d : Cell} {b0 : Bool} (L : LawI p q tups S tr cv cl C D R cb ob ws := by assumption) (W : S.WF := by assumption) (A : Acyc S := by assumption) (hs : S.room ≤ 40 := by assumption) (ht : tr.length < 500 := by assumption) (hv1 : IsCell tups v1 c := by assumption) (hv2 : IsCell tups v2 d := by assumption) (ok1 : S.Ok c := by assumption) (ok2 : S.Ok d := by assumption) (hb : b0 = true ↔ Unif S c d := by assumption) :
    Does w 341 8 [.ref p.xS, v1, v2, .bool true] (led w p q (LR C D R cb cs st ob ws tups)) (fun r news' => r = .bool b0 ∧ news' = []) := by
  refine (unify_does L.rep (fun e he => .tail _ (.tail _ (.tail _ (.tail _ he)))) L.apart0 W A hs ht hv1 hv2 ok1 ok2).news (fun e he => he) ?_
  rintro r n' ⟨q', S', tr', b, rfl, rfl, _, _, hiff⟩
  have : b = b0 := by rw [Bool.eq_iff_iff, hiff, hb]
  exact ⟨[], fun _ h => (nomatch h), by rw [this], rfl⟩
/-- the data that a cell is -/
def dat (c : Cell) : PyData := .tuple [.int c.tag, .int (c.num : Int)]
section
variable {s : Shared} {h₀ : Heap} {Lo : Addr} {news news' : List (Addr × Obj)}
theorem cells_reads (N : News h₀ Lo s.heap news) : ∀ {cs : List Cell} {vs : List Value}, AreCells news vs cs → ∃ as, ReadsAll s.heap vs (cs.map dat) as
  | [], vs, h => by
    obtain rfl : vs = [] := List.eq_nil_of_length_eq_zero h.1
    exact ⟨_, .nil⟩
  | c :: cs, [], h => by cases h.1
  | c :: cs, v :: vs, h => by
    obtain ⟨u, hu, k⟩ := h.2 0 c rfl
    cases hu
    obtain ⟨as, r⟩ := cell_reads N k
    obtain ⟨bs, rs⟩ := cells_reads N (cs := cs) (vs := vs) ⟨by have := h.1; simpa using this, fun i d hd => h.2 (i + 1) d hd⟩
    exact ⟨_, .cons r rs⟩
theorem ints_reads {h : Heap} {vs : List Value} {ns : List Int} (k : IntsAre vs ns) : ∃ as, ReadsAll h vs (ns.map .int) as := by
  induction k with
  | nil => exact ⟨_, .nil⟩
  | cons n t _ ih =>
    obtain ⟨as, r⟩ := ih
    exact ⟨_, .cons (.int n t) r⟩
theorem canLay_cells (cs : List Cell) : PyData.canLayAll0 (cs.map dat) = true := by
  induction cs with
  | nil => rfl
  | cons c cs ih => simp only [List.map_cons, PyData.canLayAll0, ih, Bool.and_true]; rfl
theorem canLay_ints (ns : List Int) : PyData.canLayAll0 (ns.map .int) = true := by
  induction ns with
  | nil => rfl
  | cons c cs ih => simp only [List.map_cons, PyData.canLayAll0, ih, Bool.and_true]; rfl
theorem depth_cells (cs : List Cell) : PyData.depthAll (cs.map dat) ≤ 1 := by
  induction cs with
  | nil => exact Nat.zero_le _
  | cons c cs ih => exact Nat.max_le.mpr ⟨Nat.le_refl 1, ih⟩
theorem depth_ints (ns : List Int) : PyData.depthAll (ns.map .int) ≤ 1 := by
  induction ns with
  | nil => exact Nat.zero_le _
  | cons c cs ih => exact Nat.max_le.mpr ⟨Nat.zero_le _, ih⟩
def befD (S : Sto) (tr : List Int) (hb bb : Int) : PyData := .tuple [.list (S.H.map dat), .list (S.K.map dat), .list (tr.map .int), .int hb, .int bb]
theorem bef_shaped (S : Sto) (tr : List Int) (hb bb : Int) : SeqAt.shaped (befD S tr hb bb) = true := by
  have h1 := depth_cells S.H
  have h2 := depth_cells S.K
  have h3 := depth_ints tr
  unfold SeqAt.shaped befD
  rw [Bool.and_eq_true, decide_eq_true_eq]
  refine ⟨?_, ?_⟩
  · simp only [PyData.canLay0, PyData.canLayAll0, canLay_cells, canLay_ints, Bool.and_true]
  · simp only [PyData.depth, PyData.depthAll]; omega
theorem bef_eqv (S : Sto) (tr : List Int) (hb bb : Int) : PyData.eqv (befD S tr hb bb) (befD S tr hb bb) = true := SeqAt.eqv_refl _ (Bool.and_eq_true_iff.mp (bef_shaped S tr hb bb)).1
abbrev befO (l1 l2 l3 : Addr) (hb : Int) (thb : Tok) (bb : Int) (tbb : Tok) : Obj := { cls := .type "tuple", data := .seq #[.ref l1, .ref l2, .ref l3, .int hb thb, .int bb tbb] }
theorem bef_reads {T l1 l2 l3 : Addr} {vh vk vt : List Value} {n1 n2 n3 : Nat} {hb bb : Int} {thb tbb : Tok} (N : News h₀ Lo s.heap news) (m0 : (T, befO l1 l2 l3 hb thb bb tbb) ∈ news) (m1 : (l1, listOf vh.toArray n1) ∈ news) (m2 : (l2, listOf vk.toArray n2) ∈ news) (m3 : (l3, listOf vt.toArray n3) ∈ news)
    (h : AreCells news vh S.H) (k : AreCells news vk S.K) (t : IntsAre vt tr) : ∃ as, Reads s.heap (.ref T) (befD S tr hb bb) as := by
  obtain ⟨as, r1⟩ := cells_reads N h
  obtain ⟨bs, r2⟩ := cells_reads N k
  obtain ⟨cs, r3⟩ := ints_reads (h := s.heap) t
  exact ⟨_, reads_tuple_at (N.get m0) rfl rfl (.cons (reads_list_at (N.get m1) rfl rfl (by simpa using r1)) (.cons (reads_list_at (N.get m2) rfl rfl (by simpa using r2)) (.cons (reads_list_at (N.get m3) rfl rfl (by simpa using r3)) (.cons (.int _ _) (.cons (.int _ _) .nil)))))⟩
theorem bef_ne {prog : Program} {A : Around} {E : Value → Shared → Prop} {Q : Value → Shared → Prop} {T l1 l2 l3 T' k1 k2 k3 : Addr} {n1 n2 n3 j1 j2 j3 : Nat} {thb tbb uhb ubb : Tok} {a : Addr × Obj} {hb bb : Int}
    (N : News h₀ Lo s.heap ((T', befO k1 k2 k3 q'.hb uhb q'.bb ubb) :: (k3, listOf q'.vt.toArray j3) :: (k2, listOf q'.vk.toArray j2) :: (k1, listOf q'.vh.toArray j1) :: (T, befO l1 l2 l3 hb thb bb tbb) :: (l3, listOf q.vt.toArray n3) :: (l2, listOf q.vk.toArray n2) :: (l1, listOf q.vh.toArray n1) :: a :: led w p q' (LR C D R cb cs st ob ws (tups' ++ tups))))
    (L : LawI p q tups S tr cv cl C D R cb ob ws) (L' : LawI p q' (tups' ++ tups) S tr cv cl C D R cb ob ws) (e1 : q'.hb = hb) (e2 : q'.bb = bb) (hu : A.units + 64 < cLine) (h : Q (.bool false) s) :
    wpAny (model prog w) A (compareOp .NotEq (.ref T') (.ref T)) Q E s := by
  subst e1 e2
  have hsub : ∀ e ∈ tups' ++ tups, e ∈ ((T', befO k1 k2 k3 q'.hb uhb q'.bb ubb) :: (k3, listOf q'.vt.toArray j3) :: (k2, listOf q'.vk.toArray j2) :: (k1, listOf q'.vh.toArray j1) :: (T, befO l1 l2 l3 q'.hb thb q'.bb tbb) :: (l3, listOf q.vt.toArray n3) :: (l2, listOf q.vk.toArray n2) :: (l1, listOf q.vh.toArray n1) :: a :: led w p q' (LR C D R cb cs st ob ws (tups' ++ tups))) :=
    fun e he => .tail _ (.tail _ (.tail _ (.tail _ (.tail _ (.tail _ (.tail _ (.tail _ (.tail _ (law_tup he)))))))))
  have hsub2 : ∀ e ∈ tups, e ∈ tups' ++ tups := fun e he => List.mem_append.mpr (.inr he)
  have R1 := L.rep.mono hsub2 |>.mono hsub
  have R2 := L'.rep.mono hsub
  obtain ⟨as, r⟩ := bef_reads N (.tail _ (.tail _ (.tail _ (.tail _ (.head _))))) (.tail _ (.tail _ (.tail _ (.tail _ (.tail _ (.tail _ (.tail _ (.head _)))))))) (.tail _ (.tail _ (.tail _ (.tail _ (.tail _ (.tail _ (.head _))))))) (.tail _ (.tail _ (.tail _ (.tail _ (.tail _ (.head _)))))) R1.h R1.k R1.t
  obtain ⟨bs, r'⟩ := bef_reads N (.head _) (.tail _ (.tail _ (.tail _ (.head _)))) (.tail _ (.tail _ (.head _))) (.tail _ (.head _)) R2.h R2.k R2.t
  exact ne_dataH r' r (bef_shaped ..) (bef_shaped ..) hu (by rw [bef_eqv]; exact h)
end
inductive trialJ (w : World) (p : SA) (S : Sto) (tr : List Int) (cv : List Value) (cl : List Cell) (C D R cb : Addr) (ob : Obj) (ws : List Value) (nc a0 : Nat) (i : Nat) (m : Str → Option Value) (nx : List (Addr × Obj)) : Prop where
  | mk : ∀ q tups n0 t0, nx = led w p q (LR C D R cb (listOf cv.toArray nc) (stN R n0 t0) ob ws tups) → m (Str.ofString "state") = some (.ref D) → m (Str.ofString "cells") = some (.ref C) → LawI p q tups S tr cv cl C D R cb ob ws → n0 ≤ a0 + 2 * i → (i = 0 ∨ ∃ v1 v2 c d b, m (Str.ofString "one") = some (.ref v1) ∧ m (Str.ofString "two") = some (.ref v2) ∧ m (Str.ofString "due") = some (.bool b) ∧       IsCell tups (.ref v1) c ∧ IsCell tups (.ref v2) d ∧ S.Ok c ∧ S.Ok d ∧ (b = true ↔ Unif S c d)) → trialJ w p S tr cv cl C D R cb ob ws nc a0 i m nx
theorem ne_same {prog : Program} {A : Around} {E : Value → Shared → Prop} {s : Shared} {Q : Value → Shared → Prop} {x : Bool} (h : Q (.bool false) s) : wpAny (model prog w) A (compareOp .NotEq (.bool x) (.bool x)) Q E s := ne_bool (by simpa using h)
theorem eq_same {prog : Program} {A : Around} {E : Value → Shared → Prop} {s : Shared} {Q : Value → Shared → Prop} {x : Bool} (h : Q (.bool true) s) : wpAny (model prog w) A (compareOp .Eq (.bool x) (.bool x)) Q E s := eq_bool (by simpa using h)
theorem News.drop8 {h₀ h : Heap} {L : Addr} {a1 a2 a3 a4 a5 a6 a7 a8 : Addr × Obj} {l : List (Addr × Obj)} (N : News h₀ L h (a1 :: a2 :: a3 :: a4 :: a5 :: a6 :: a7 :: a8 :: l)) : News h₀ L h l := fun e he => N e (.tail _ (.tail _ (.tail _ (.tail _ (.tail _ (.tail _ (.tail _ (.tail _ he))))))))
theorem sub_app {tl l : List (Addr × Obj)} : ∀ e ∈ l, e ∈ tl ++ l := fun _ h => List.mem_append.mpr (.inr h)
end lawt
section law
local macro_rules | `(tactic| k_qdec) => `(tactic| decide +kernel)
local macro_rules | `(tactic| walk_at "MINE dp") => `(tactic| exact Nat.le_of_ble_eq_true rfl)
local macro_rules | `(tactic| walk_at "setAttr ref") => `(tactic| (k_here; (with_reducible show wpAny _ _ (setAttr (Value.ref (SA.xS _)) _ (Value.int _ _)) _ _ _); k_dflt (refine' setS (h := ?_)); walk_at "MINE sw"))
theorem pk_newvar {NN : Addr → Obj → List (Addr × Obj)} {P P' : Addr → Obj → Prop} : Kof (fun r n' => ∃ b o, r = .ref b ∧ n' = NN b o ∧ P b o ∧ P' b o) (fun Z => ∀ b o, P b o → P' b o → Z (.ref b) (NN b o)) := by
  rintro Z h _ _ ⟨b, o, rfl, rfl, h1, h2⟩; exact h b o h1 h2
theorem pk_bindlaw {NN : SM → List (Addr × Obj)} {P P' P2 : SM → List Int → Prop} : Kof (fun _ n' => ∃ q' tr', n' = NN q' ∧ P q' tr' ∧ P' q' tr' ∧ P2 q' tr') (fun Z => ∀ r q' tr', P q' tr' → P' q' tr' → P2 q' tr' → Z r (NN q')) := by
  rintro Z h r _ ⟨q', tr', rfl, h1, h2, h3⟩; exact h r q' tr' h1 h2 h3
theorem pk_put {NN : SM → List (Addr × Obj)} {P P' : SM → Prop} : Kof (fun _ n' => ∃ q', n' = NN q' ∧ P q' ∧ P' q') (fun Z => ∀ r q', P q' → P' q' → Z r (NN q')) := by
  rintro Z h r _ ⟨q', rfl, h1, h2⟩; exact h r q' h1 h2
theorem pk_trial {v : Value} {NN : SM → List (Addr × Obj) → List (Addr × Obj)} {P P1 P2 P3 : SM → List (Addr × Obj) → Prop} : Kof (fun r n' => ∃ q' tl, r = v ∧ n' = NN q' tl ∧ P q' tl ∧ P1 q' tl ∧ P2 q' tl ∧ P3 q' tl) (fun Z => ∀ q' tl, P q' tl → P1 q' tl → P2 q' tl → P3 q' tl → Z v (NN q' tl)) := by
  rintro Z h _ _ ⟨q', tl, rfl, rfl, h1, h2, h3, h4⟩; exact h q' tl h1 h2 h3 h4
local macro_rules | `(tactic| walk_at "call ref") => `(tactic| (k_here; k_dflt (first | ((with_reducible show wpAny _ _ (call (Value.ref 369) _) _ _ _); refine' Does.useK (D := take_law0) (k := pk_take0) (ret := ?_)) | ((with_reducible show wpAny _ _ (call (Value.ref 369) _) _ _ _); refine' Does.useK (D := take_law1) (k := pk_take1) (ret := ?_)) | ((with_reducible show wpAny _ _ (call (Value.ref 369) _) _ _ _); refine' Does.useK (D := take_law3) (k := pk_take3) (ret := ?_)) | ((with_reducible show wpAny _ _ (call (Value.ref 104) _) _ _ _); refine' Does.useK (N := by first | assumption | exact News.back3 (by assumption)) (D := newvar_does (P := by exact Apart.cons3 (by assumption) (by assumption))) (k := pk_newvar) (ret := ?_)) | ((with_reducible show wpAny _ _ (call (Value.ref 97) _) _ _ _); refine' Does.useK (D := push_does (P := by exact LawI.apart2 (by assumption) (by assumption) (by assumption)) (hl := by first | assumption | apply_assumption)) (k := pk_int2) (ret := ?_)) | ((with_reducible show wpAny _ _ (call (Value.ref 139) _) _ _ _); refine' Does.useK (D := bind_law) (k := pk_bindlaw) (ret := ?_)) | ((with_reducible show wpAny _ _ (call (Value.ref 174) _) _ _ _); refine' Does.useK (D := stackput_law) (k := pk_put) (ret := ?_)) | ((with_reducible show wpAny _ _ (call (Value.ref 390) _) _ _ _); refine' Does.useK (D := meet_law) (k := pk_bool2) (ret := ?_)) | ((with_reducible show wpAny _ _ (call (Value.ref 355) _) _ _ _); refine' Does.useK (D := trial_law) (k := pk_trial) (ret := ?_)) | ((with_reducible show wpAny _ _ (call (Value.ref 341) _) _ _ _); refine' Does.useK (D := unify_law) (k := pk_val2) (ret := ?_))); walk_at "MINE ret"))
local macro_rules | `(tactic| walk_at "call type:range") => `(tactic| (k_here; (rename Fr _ _ _ _ => F'); (rename News _ _ _ _ => N'); (with_unfolding_all refine range1_rows F' N' ?_); intro h' tk' t' u' v' R' F'' N'' K'))
local macro_rules | `(tactic| walk_at "subscriptTail") => `(tactic| (k_here; k_dflt (first
  | ((with_reducible show wpAny _ _ (subscriptTail _ _ (Value.ref _) (Value.int 1 _)) _ _ _); refine' cells_item (hl := by exact List.mem_of_getElem? (i := 5) rfl) (hc := by exact ⟨1, rfl, rfl, by decide⟩) (h := ?_))
  | ((with_reducible show wpAny _ _ (subscriptTail _ _ (Value.ref _) (Value.int 0 _)) _ _ _); refine' cells_item (hl := by exact List.mem_of_getElem? (i := 5) rfl) (hc := by exact ⟨0, rfl, rfl, by decide⟩) (h := ?_))
  | ((with_reducible show wpAny _ _ (subscriptTail _ _ (Value.ref _) (Value.int _ _)) _ _ _); refine' cells_item (hc := by first | assumption | exact pickc (by assumption) (by assumption) (by assumption) (by assumption)) (h := ?_))); k_whole; (repeat intro)))
local macro_rules | `(tactic| walk_at "call builtin:len") => `(tactic| (k_here; (with_reducible show wpAny _ _ (call (Value.builtin "len") [Value.ref _]) _ _ _); k_dflt (refine' len_L (h := ?_)); k_whole))
local macro_rules | `(tactic| walk_at "call builtin:list.append") => `(tactic| (k_here; k_dflt (refine' append_M (h := ?_)); walk_at "MINE sw"))
local macro_rules | `(tactic| walk_at "subscriptTail List") => `(tactic| (k_here; (with_reducible show wpAny _ _ (subscriptTail _ _ (Value.ref _) (Value.int _ _)) _ _ _); k_dflt (
  refine' cells_item (hl := by exact List.Mem.head _) (hcs := by exact three_of (by assumption) (by assumption)) (hc := by exact three_at (by assumption) (by assumption)) (h := ?_)); k_whole; (repeat intro)))
local macro_rules | `(tactic| walk_at "call type:list") => `(tactic| (k_here; (with_reducible show wpAny _ _ (call (Value.type _) [Value.ref _]) _ _ _); k_dflt (refine' copy_L (h := ?_)); k_whole; intro D' c' h' F' N' l1; (try dsimp only [AllLt] at l1); (try k_sweep)))
local macro_rules | `(tactic| walk_at "eval Dict nil nil") => `(tactic| (refine Dict_empty_made2 (by assumption) (by assumption) (modules_low (by first | assumption | exact Glob.nolimit (by assumption))) ?_; intro h' o' F' N' lo' hs' fs' hi' fi' ne'; dsimp only at F' N' lo' ne'; (try k_sweep)))
local macro_rules | `(tactic| walk_at "compareOp NotEq bool bool") => `(tactic| with_reducible refine ne_same ?_)
local macro_rules | `(tactic| walk_at "compareOp Eq bool bool") => `(tactic| with_reducible refine eq_same ?_)
local macro_rules | `(tactic| walk_at "compareOp NotEq ref ref") => `(tactic| (k_here; (with_reducible show wpAny _ _ (compareOp CmpOp.NotEq (Value.ref _) (Value.ref _)) _ _ _); k_dflt (
  (refine' bef_ne ?N ?L ?L2 ?e1 ?e2 ?u ?_; (case N => assumption); (case L => assumption); (case L2 => assumption); (case e1 => assumption); (case e2 => assumption); (case u => first | exact Nat.le_of_ble_eq_true rfl | ktr_units | (dsimp only [Around.deeper, ktrTop]; omega)); k_whole))))
set_option maxRecDepth 100000 in
set_option maxHeartbeats 8000000 in
theorem t1 : PySem.Challenge.rw_rr0022_01.Holds := hd2 (by
  w_top off
  k_go0
  all_goals (try k_fold)
  repeat' ((fail_if_success (with_reducible show wpAny _ _ (exec (Stmt.Assign _ (PySem.Expr.ListComp _ _ _ _) _) _) _ _ _)); first | (k_unfold; (try dsimp only)) | (k_end; wrow_close) | walk1 | (dsimp only; walk1) | (leave1; walk_say "STEP leave1"; try dsimp only) | fail "no step")
  have NX := led_of (by assumption) (by assumption) (by omega) (by omega) (by omega) (by omega) (by omega) (by omega)
  obtain ⟨p, q, rfl, rfl, rfl, rfl, rfl, hq1, hq2, hq3, hq4, hq5, N0, o1, o2, o3, o4, o5, o6, o7⟩ := NX
  rename Fr _ _ _ _ => Fz
  (try clear Fz)
  rename Obj => ob
  rename Obj.data ob = _ => hob
  rename IntsAre _ (List.take 40 _) => hI
  rename (List.take 40 _).length = _ => hC
  have h40 := take40 hI
  (try clear hC)
  k_dflt (refine LCg.Assign_ListComp_U (F₀ := by k_asm) (by rfl) (by with_unfolding_all rfl) (by rfl) (by decide) (by rfl) (by decide) (by rfl) (by rfl) (by rfl) ?_)
  k_dflt (repeat' ((fail_if_success (with_reducible show LCg.CompSrc _ _ _ _ _ _ _ _ _ _ _ _ _ _)); first | walk1 | (dsimp only; walk1)))
  refine LCg.CompSrc.range (n := 4) (by rfl) (by assumption) (by assumption) (by assumption) (by rfl) (by rfl) (by decide) ?_
  intro g
  refine comp_do (compJ _ p _ _ _ _ ob _) ?turn ?fin 4 0 rfl [] _ ⟨q, [], rfl, hq1, rfl, ⟨rfl, fun i c h => (nomatch h)⟩, hq2, hq3, hq4, hq5, ?ap, ?of⟩
  case of => intro e he; cases he
  case ap => exact apart0 o1 o2 o3 o4 o5 o6 o7
  case fin =>
    repeat (rename News _ _ _ _ => Nz; clear Nz)
    repeat (rename Fr _ _ _ _ => Fz; clear Fz)
    intro ys nx hJ C h tk F1 N1 offC
    try k_fold
    obtain ⟨q, tups, rfl, rfl, hl, hcs, hk, ht, hh, hbb, P, off⟩ := hJ
    replace N1 := News.front1 N1
    have L0 : LawI p q tups ⟨refs 4, []⟩ [] q.vh (refs 4) C _ _ _ ob _ := law_start P off (off1_mem offC) o6 o7 ⟨hcs, by rw [hk]; exact ⟨rfl, fun i c h => (nomatch h)⟩, by rw [ht]; exact .nil⟩ hcs
    replace N1 : News _ _ _ (led _ p q (LR C _ _ _ _ (stN _ 0 _) ob _ tups)) := N1
    (try clear offC); (try clear P); (try clear off); (try clear o1); (try clear o2); (try clear o3); (try clear o4); (try clear o5); (try clear o6); (try clear o7); (try clear hq1); (try clear hq2); (try clear hq3); (try clear hq4); (try clear hq5); (try clear hk); (try clear ht); (try clear hh); (try clear hbb); (try clear hcs); (try clear hl)
    repeat (rename (_ < _ ∧ _) => hz; clear hz)
    have rm0 : Room 0 100 := ⟨by decide⟩
    repeat' ((fail_if_success (with_reducible show wpAny _ _ (exec (Stmt.For _ _ _ _ _) _) _ _ _)); first | (k_unfold; (try dsimp only)) | (k_end; wrow_close) | walk1 | (dsimp only; walk1) | (leave1; walk_say "STEP leave1"; try dsimp only) | fail "no step")
    obtain ⟨q2, L2, N2⟩ := law_hb L0 (by assumption)
    (try clear N1); (try clear F1)
    repeat' ((fail_if_success (with_reducible show wpAny _ _ (pyIter _) _ _ _)); first | (k_unfold; (try dsimp only)) | (k_end; wrow_close) | walk1 | (dsimp only; walk1) | (leave1; walk_say "STEP leave1"; try dsimp only) | fail "no step")
    rename IsRange _ _ _ _ _ _ _ _ => hR
    rename Fr _ _ _ _ => F3
    rename News _ _ _ _ => N3
    (try clear N2)
    rename (_ < (5 : Int)) => hk5
    refine range_do (pairJ _ p C _ _ _ ob _) hR F3 N3 (range_small (by assumption) (by omega)) (range_size (by assumption)) ⟨q2, tups, ⟨refs 4, []⟩, q.vh, refs 4, _, _, _, rfl, rfl, rfl, L2, pairs_start, rfl⟩ ?turn1 ?done1
    case done1 =>
      intro m₁ nx h₁ tk₁ hJ F1 N1
      try k_fold
      obtain ⟨q1, tups1, S1, cv, cl, nc, n0, t0, rfl, e1, e2, L1, PS, hn0⟩ := hJ
      replace F1 := fr_put2 F1 e1 e2
      have hcvl : cv.length ≤ 20 := by rw [L1.cells.1, PS.hc]; omega
      have hn10 : n0 ≤ 10 := by omega
      have BS := binds_start PS (by omega)
      (try clear hR); (try clear F3); (try clear N3); (try clear hk5); (try clear PS); (try clear hn0)
      repeat' ((fail_if_success (with_reducible show wpAny _ _ (pyIter _) _ _ _)); first | (k_unfold; (try dsimp only)) | (k_end; wrow_close) | walk1 | (dsimp only; walk1) | (leave1; walk_say "STEP leave1"; try dsimp only) | fail "no step")
      rename IsRange _ _ _ _ _ _ _ _ => hR
      rename Fr _ _ _ _ => F3
      rename News _ _ _ _ => N3
      refine range_do (n := 4) (bindJ _ p cv cl C _ _ _ ob _ nc n0) hR F3 N3 (by rfl) (by rfl) ⟨q1, tups1, S1, [], n0, _, rfl, rfl, rfl, L1, BS, Nat.le_refl _, Nat.le_refl _⟩ ?turn3 ?done3
      case turn3 =>
        intro I i m nx t h tk hi hJ offI F4 N4
        try k_fold
        obtain ⟨q2, tups2, S2, tr2, n2, t2, rfl, e3, e4, L2, B2, htr, hn2⟩ := hJ
        rw [Int.zero_add] at F4
        replace F4 := fr_put2 F4 (put_ne1 e3 (by decide)) (put_ne1 e4 (by decide))
        have OI := OffA.of offI
        have rm2 : Room n2 50 := ⟨by omega⟩
        have hcells := L2.cells
        have hat : At cl (i : Int) (.ref i) := At.of (B2.first i hi) (by have := B2.hc; omega) rfl
        have hget : S2.get (.ref i) = some (.ref i) := B2.free i (Nat.le_refl _) hi
        have hrm := binds_room B2
        have hroom : S2.room < 1000 := by omega
        have htrl : tr2.length < 1000 := by omega
        (try clear offI); (try clear hR); (try clear F3); (try clear N3); (try clear F1); (try clear N1)
        repeat' ((fail_if_success (with_reducible show FPost _ _ _ _ _ _ _ _ _)); first | (k_unfold; (try dsimp only)) | (k_end; wrow_close) | walk1 | (dsimp only; walk1) | (leave1; walk_say "STEP leave1"; try dsimp only) | fail "no step")
        · rename LawI _ _ (_ :: tups2) _ _ _ _ _ _ _ _ _ _ => L9
          rename OffA _ _ _ _ _ (_ :: tups2) _ => O9
          rename List.length _ ≤ List.length tr2 + _ => htr9
          refine fpost_next (by assumption) (by assumption) O9.out ?_
          exact ⟨_, _, _, _, _, _, rfl, rfl, rfl, L9, binds_bind B2 hi, by omega, by omega⟩
        · refine fpost_next (by assumption) (by assumption) OI.out ?_
          exact ⟨_, _, _, _, _, _, rfl, rfl, rfl, L2, binds_skip B2, by omega, by omega⟩
      case done3 =>
        intro m₁ nx h₁ tk₁ hJ F4 N4
        try k_fold
        obtain ⟨q2, tups2, S2, tr2, n2, t2, rfl, e3, e4, L2, B2, htr, hn2⟩ := hJ
        replace F4 := fr_put2 F4 e3 e4
        have SS := slots_start B2
        have hn18 : n2 ≤ 18 := by omega
        (try clear hR); (try clear F3); (try clear N3); (try clear hcvl); (try clear hn10); (try clear BS); (try clear L1); (try clear e1); (try clear e2); (try clear F1); (try clear N1); (try clear B2)

        repeat' ((fail_if_success (with_reducible show wpAny _ _ (pyIter _) _ _ _)); first | (k_unfold; (try dsimp only)) | (k_end; wrow_close) | walk1 | (dsimp only; walk1) | (leave1; walk_say "STEP leave1"; try dsimp only) | fail "no step")

        rename IsRange _ _ _ _ _ _ _ _ => hR
        rename Fr _ _ _ _ => F3
        rename News _ _ _ _ => N3

        refine range_do (n := 3) (slotJ _ p tr2 C _ _ _ ob _ n2) hR F3 N3 (by rfl) (by rfl) ⟨q2, tups2, S2, cv, cl, nc, n2, _, rfl, rfl, rfl, L2, SS, Nat.le_refl _⟩ ?turn4 ?done4

        case turn4 =>
          intro I i m nx t h tk hi hJ offI F4 N4
          try k_fold
          obtain ⟨q3, tups3, S3, cv3, cl3, nc3, n3, t3, rfl, e5, e6, L3, P3, hn3⟩ := hJ
          rw [Int.zero_add] at F4
          replace F4 := fr_put2 F4 (put_ne1 e5 (by decide)) (put_ne1 e6 (by decide))
          have OI := OffA.of offI
          have rm2 : Room n3 50 := ⟨by omega⟩
          have hcells := L3.cells
          have hclen : cv3.length ≤ 100 := by rw [L3.cells.1]; have := P3.hc; omega
          have hat : At cl3 (i : Int) (.ref i) := At.of (P3.first i (by omega)) (by have := P3.hc; omega) rfl
          have hkl : S3.K.length < 900 := by rw [P3.k]; omega
          have hki : (i : Int) = (S3.K.length : Int) := by rw [P3.k]
          (try clear offI); (try clear hR); (try clear F3); (try clear N3); (try clear F1); (try clear N1)

          repeat' ((fail_if_success (with_reducible show FPost _ _ _ _ _ _ _ _ _)); first | (k_unfold; (try dsimp only)) | (k_end; wrow_close) | walk1 | (dsimp only; walk1) | (leave1; walk_say "STEP leave1"; try dsimp only) | fail "no step")

          rename LawI _ _ (_ :: _ :: tups3) _ _ _ _ _ _ _ _ _ _ => L9
          rename OffA _ _ _ _ _ (_ :: _ :: tups3) _ => O9
          rename (I < _ ∧ _) => lb
          have Ob := OffA.conjL L9 lb
          have N9 := News.tup1 (by assumption)
          refine fpost_next (by assumption) N9 (O9.tup (ne_c1 lb)).out ?_
          exact ⟨_, _, _, _, cl3 ++ [.srf i], _, _, _, rfl, rfl, rfl, (L9.tup Ob).cellsTo ((L9.cells.mono sub_tail).push (.srf (.head _))), slots_step P3 (three_slot (by assumption) (by assumption) (by omega)), by omega⟩
        case done4 =>
          intro m₁ nx h₁ tk₁ hJ F4 N4
          try k_fold
          obtain ⟨q3, tups3, S3, cv3, cl3, nc3, n3, t3, rfl, e3, e4, L3, P3, hn3⟩ := hJ
          replace F4 := fr_put2 F4 e3 e4
          have WF3 := slots_wf P3
          have AC3 := slots_acyc P3
          have RM3 := slots_room P3 (by omega)
          have hok3 := P3.ok
          have htr3 : tr2.length < 500 := by omega
          have hcl3 : cv3.length ≤ 100 := by rw [L3.cells.1]; have := P3.hc; omega
          have hcp3 : (0 : Int) < (cv3.length : Int) := by rw [L3.cells.1]; have := P3.h5; omega
          have hn21 : n3 ≤ 21 := by omega
          have rm3 : Room n3 100 := ⟨by omega⟩
          (try clear hR); (try clear F3); (try clear N3); (try clear L2); (try clear SS); (try clear P3); (try clear htr); (try clear hn2); (try clear hn18); (try clear hn3); (try clear F1); (try clear N1)
          repeat' ((fail_if_success (with_reducible show wpAny _ _ (exec (Stmt.For _ _ _ _ _) _) _ _ _)); first | (k_unfold; (try dsimp only)) | (k_end; wrow_close) | walk1 | (dsimp only; walk1) | (leave1; walk_say "STEP leave1"; try dsimp only) | fail "no step")
          obtain ⟨q4, L4, N5⟩ := law_hb L3 (by assumption)
          repeat' ((fail_if_success (with_reducible show wpAny _ _ (pyIter _) _ _ _)); first | (k_unfold; (try dsimp only)) | (k_end; wrow_close) | walk1 | (dsimp only; walk1) | (leave1; walk_say "STEP leave1"; try dsimp only) | fail "no step")
          rename IsRange _ _ _ _ _ _ _ _ => hR
          rename Fr _ _ _ _ => F5
          rename News _ _ _ _ => N6
          rename _ < (4 : Int) => hk4
          refine range_do (trialJ _ p S3 tr2 cv3 cl3 C _ _ _ ob _ nc3 (n3 + 1 + 1)) hR F5 N6 (range_small (by omega) (by omega)) (range_size (by omega)) ⟨q4, tups3, _, _, rfl, rfl, rfl, L4, Nat.le_refl _, .inl rfl⟩ ?turn5 ?done5
          case turn5 =>
            intro I i m nx t h tk hi hJ offI F6 N7
            try k_fold
            obtain ⟨q5, tups5, n5, t5, rfl, e5, e6, L5, hn5, _⟩ := hJ
            replace F6 := fr_put2 F6 (put_ne1 e5 (by decide)) (put_ne1 e6 (by decide))
            have OI := OffA.of offI
            have rm5 : Room n5 20 := ⟨by omega⟩
            have hcells := L5.cells
            (try clear offI); (try clear hR); (try clear F5); (try clear N6); (try clear F1); (try clear N1); (try clear L3); (try clear L4); (try clear rm3); (try clear hk4)
            repeat' ((fail_if_success (with_reducible show FPost _ _ _ _ _ _ _ _ _)); first | (k_unfold; (try dsimp only)) | (k_end; wrow_close) | walk1 | (dsimp only; walk1) | (leave1; walk_say "STEP leave1"; try dsimp only) | fail "no step")
            rename LawI _ _ (_ ++ tups5) _ _ _ _ _ _ _ _ _ _ => L9
            rename OffA _ _ _ _ _ (_ ++ tups5) _ => O9
            rename (_ = true ↔ Unif S3 _ _) => hiff
            have N9 := News.drop8 (by assumption)
            refine fpost_next (by assumption) N9 O9.out ?_
            exact ⟨_, _, _, _, rfl, rfl, rfl, L9, by omega, .inr ⟨_, _, _, _, _, rfl, rfl, rfl, IsCell.mono sub_app (by assumption), IsCell.mono sub_app (by assumption), pick_ok hok3 hcells (by assumption) (by assumption), pick_ok hok3 hcells (by assumption) (by assumption), hiff⟩⟩
          case done5 =>
            intro m₁ nx h₁ tk₁ hJ F6 N7
            try k_fold
            obtain ⟨q5, tups5, n5, t5, rfl, e5, e6, L5, hn5, hone⟩ := hJ
            (try clear hR); (try clear F5); (try clear N6); (try clear F1); (try clear N1); (try clear L3); (try clear L4); (try clear rm3); (try clear hk4)
            rcases hone with h0 | ⟨v1, v2, c, d, b, e7, e8, e9, hv1, hv2, okc, okd, hiff⟩
            · exfalso
              omega
            · replace F6 := fr_put3 F6 e7 e8 e9
              repeat' ((fail_if_success (with_reducible show GoodW _ _ _ _ _ _ _)); first | (k_unfold; (try dsimp only)) | (k_end; wrow_close) | walk1 | (dsimp only; walk1) | (leave1; walk_say "STEP leave1"; try dsimp only) | fail "no step")
              refine goodW_bool (by with_reducible assumption) (by with_reducible assumption) (raisesW_false ?_) ?_
              · wrow_none_raised
              · refine postW_of (by wrow_shape) (w_eq_bool (w_res rfl) w_lit) ?_
                exact rfl
    case turn1 =>
      intro I i m₁ nx t h₁ tk₁ hi hJ offI F1 N1
      try k_fold
      obtain ⟨q1, tups1, S1, cv, cl, nc, n0, t0, rfl, e1, e2, L1, PS, hn0⟩ := hJ
      replace F1 := fr_put2 F1 (put_ne1 e1 (by decide)) (put_ne1 e2 (by decide))
      have OI := OffA.of offI
      have hi5 : i < 5 := by omega
      have hcvl : cv.length ≤ 100 := by rw [L1.cells.1, PS.hc]; omega
      have rm1 : Room n0 50 := ⟨by omega⟩
      (try clear hR); (try clear F3); (try clear N3)
      repeat' ((fail_if_success (with_reducible show wpAny _ _ (exec (Stmt.For _ _ _ _ _) _) _ _ _)); first | (k_unfold; (try dsimp only)) | (k_end; wrow_close) | walk1 | (dsimp only; walk1) | (leave1; walk_say "STEP leave1"; try dsimp only) | fail "no step")
      rename (I < _ ∧ _) => lM
      have OM := OffA.conj lM.2
      have hIM : @Ne Nat I _ := Nat.ne_of_lt lM.1
      (try clear lM)
      repeat' ((fail_if_success (with_reducible show wpAny _ _ (pyIter _) _ _ _)); first | (k_unfold; (try dsimp only)) | (k_end; wrow_close) | walk1 | (dsimp only; walk1) | (leave1; walk_say "STEP leave1"; try dsimp only) | fail "no step")
      rename IsRange _ _ _ _ _ _ _ _ => hR3
      rename Fr _ _ _ _ => F3
      rename News _ _ _ (_ :: (I, _) :: _) => N3
      refine range_do (n := 2) (itemJ _ p q1 S1 cv cl C _ _ _ _ I _ ob _ nc n0) hR3 F3 N3 (by rfl) (by rfl) ⟨tups1, [], _, [], n0, t0, rfl, rfl, rfl, rfl, L1, ⟨rfl, fun i c h => (nomatch h)⟩, rfl, fun c h => (nomatch h), OM, OI, rfl⟩ ?turn2 ?done2
      (try clear hR3); (try clear F3); (try clear N3); (try clear F1); (try clear N1)
      case done2 =>
        intro m₂ nx h₂ tk₂ hJ F4 N4
        try k_fold
        obtain ⟨tups2, iv, ni, its, n2, t2, rfl, e3, e4, e5, L2, hiv, hil, hit, OM2, OI2, rfl⟩ := hJ
        replace F4 := fr_put3 F4 e3 e4 e5
        obtain ⟨b0, b1, c0, c1, rfl, rfl, hb0, hb1⟩ := two_of hiv hil
        have it0 := hit c0 (.head _)
        have it1 := hit c1 (.tail _ (.head _))
        replace N4 := News.pre [_, _] N4
        dsimp only [List.cons_append, List.nil_append] at N4
        have hvh : q1.vh.length < 900 := by rw [L2.rep.h.1, PS.hl]; omega
        have hvh2 : ∀ v, (q1.vh ++ [v]).length < 900 := by intro v; rw [List.length_append, L2.rep.h.1, PS.hl, List.length_singleton]; omega
        (try clear hil); (try clear hit); (try clear hi); (try clear hi5); (try clear rm1); (try clear hb0); (try clear hb1)
        repeat' ((fail_if_success (with_reducible show FPost _ _ _ _ _ _ _ _ _)); first | (k_unfold; (try dsimp only)) | (k_end; wrow_close) | walk1 | (dsimp only; walk1) | (leave1; walk_say "STEP leave1"; try dsimp only) | fail "no step")
        rename (p.xS < _ ∧ _) => lb
        rename News _ _ _ ((_, tupO 3 _ _ _) :: _) => N8
        rename IsCell tups2 (Value.ref _) c0 => k0
        rename IsCell tups2 (Value.ref _) c1 => k1
        have Ob := OffA.conjMid lb
        have N9 := News.endPair N8
        refine fpost_next (by assumption) N9 (OI2.tup (Nat.ne_of_gt lb.2.2.2.2.2.2.1)).out ?_
        exact ⟨_, _, ⟨S1.H ++ [c0] ++ [c1], S1.K⟩, _, cl ++ [.lis S1.H.length], _, _, _, rfl, rfl, rfl, law_pair L2 Ob k0 k1, pairs_step PS it0 it1, by omega⟩
      case turn2 =>
        intro I2 j m₂ nx t₂ h₂ tk₂ hj hJ offI2 F4 N4
        try k_fold
        obtain ⟨tups2, iv, ni, its, n2, t2, rfl, e3, e4, e5, L2, hiv, hil, hit, OM2, OI2, rfl⟩ := hJ
        replace F4 := fr_put3 F4 (put_ne1 e3 (by decide)) (put_ne1 e4 (by decide)) (put_ne1 e5 (by decide))
        have OJ := OffA.of (fun e he => offI2 e (.tail _ (.tail _ he)))
        have hMJ := offI2 _ (.head _)
        have hIJ := offI2 _ (.tail _ (.head _))
        dsimp only at hMJ hIJ
        have hJM := Ne.symm hMJ
        (try clear offI2); (try clear offI)
        have hcv2 := L2.cells
        have hivl : iv.length ≤ 100 := by rw [hiv.1]; omega
        have rm2 : Room (n0 + j) 20 := ⟨by omega⟩
        (try clear rm1); (try clear hi); (try clear hn0); (try clear hj); (try clear hi5)
        repeat' ((fail_if_success (with_reducible show FPost _ _ _ _ _ _ _ _ _)); first | (k_unfold; (try dsimp only)) | (k_end; wrow_close) | walk1 | (dsimp only; walk1) | (leave1; walk_say "STEP leave1"; try dsimp only) | fail "no step")
        · rename IsCell _ (Value.ref _) (List.getD _ _ _) => hb
          refine fpost_next (by assumption) (by assumption) (List.forall_mem_cons.mpr ⟨hMJ, List.forall_mem_cons.mpr ⟨hIJ, OJ.out⟩⟩) ?_
          exact ⟨tups2, _, _, _, _, _, rfl, rfl, rfl, rfl, L2, hiv.push hb, by simp [hil], items_push hit (pair_item PS hcv2 (by assumption) (by assumption)), OM2, OI2, rfl⟩
        · rename (I2 < _ ∧ _) => lb
          rename ¬ _ < _ => hnk
          have Ob := OffA.conj lb.2.2.2
          refine fpost_next (by assumption) (News.tup3 (News.last3 (by assumption))) (List.forall_mem_cons.mpr ⟨hMJ, List.forall_mem_cons.mpr ⟨hIJ, (OJ.tup (Nat.ne_of_gt lb.1)).out⟩⟩) ?_
          exact ⟨_, _, _, _, _, _, rfl, rfl, rfl, rfl, L2.tup Ob, (hiv.mono fun e he => .tail _ he).push (int_item hnk), by simp [hil], items_push hit (item_int S1 _), OM2.tup (Nat.ne_of_gt lb.2.1), OI2.tup (Nat.ne_of_gt lb.2.2.1), rfl⟩
  case turn =>
    intro i ys nx v I oI C oC D m₂ h tk E' hi hJ hP hNs hmx F1 N1 off1 ne1
    try k_fold
    obtain ⟨q, tups, rfl, rfl, hl, hcs, hk, ht, hh, hbb, P, off⟩ := hJ
    have hvh : q.vh.length < 900 := by rw [hl]; omega
    repeat' ((fail_if_success (with_reducible show LCg.CompEnd _ _ _ _ _ _ _ _ _ _ _ _ _ _)); first | (k_unfold; (try dsimp only)) | (k_end; wrow_close) | walk1 | (dsimp only; walk1) | (leave1; walk_say "STEP leave1"; try dsimp only) | fail "no step")
    rename Fresh _ _ => hf
    rename IsCell [_] _ _ => hc
    obtain ⟨P', off', off3⟩ := comp_end (q' := { q with vh := q.vh ++ [_], nh := q.nh + 1 }) P off off1 hf
    refine ⟨_, _, _, rfl, by assumption, News.compEnd (by assumption), off3, trivial, _, _, rfl, rfl, by simp [hl], ?_, hk, ht, hh, hbb, P', off'⟩
    rw [refs_succ]
    exact (hcs.mono fun e he => .tail _ he).push (by rw [← hl]; exact hc.mono fun e he => by rw [List.mem_singleton.mp he]; exact .head _)
)
end law
end Mine
theorem PySem.Challenge.cw_rr0022_01_holds : PySem.Challenge.rw_rr0022_01.Holds :=
  Mine.t1
