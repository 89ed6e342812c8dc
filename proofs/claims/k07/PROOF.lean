import PyProof.Rows.All
import Wide.All
import OpenK.AllK
import Wide.FinOn
import HandS.ForMost
import HandS.TupSets
import HandS.TupMul
import HandS.Flow
import HandS.Conv
import HandS.Codes
import KE.SortData
import PySem.Challenge.RW_covernets_k07_whole_complements_are_inve
set_option Elab.async false
set_option linter.all false
set_option maxRecDepth 100000
set_option maxHeartbeats 8000000
/-! CvMath: closed sets of markings and lists of limits, in plain Lean (no program here). A tuple is a List Int; -1 is "any number" in a limit. -/
namespace Cv
abbrev T := List Int

/-! ### the order of limits -/
def le1 (x y : Int) : Bool := y == -1 || (x != -1 && decide (x ≤ y))
theorem le1_iff {x y : Int} : le1 x y = true ↔ y = -1 ∨ (x ≠ -1 ∧ x ≤ y) := by
  unfold le1; simp
def leT : T → T → Bool
  | x :: a, y :: b => le1 x y && leT a b
  | _, _ => true
theorem leT_cons {x y : Int} {a b : T} : leT (x :: a) (y :: b) = true ↔ le1 x y = true ∧ leT a b = true := by
  show (le1 x y && leT a b) = true ↔ _
  rw [Bool.and_eq_true]
theorem leT_nil {b : T} : leT [] b = true := by cases b <;> rfl
/-- by places -/
theorem leT_iff : ∀ {a b : T}, leT a b = true ↔ ∀ (j : Nat) (x y : Int), a[j]? = some x → b[j]? = some y → le1 x y = true
  | [], b => ⟨fun _ j x y h => by simp at h, fun _ => leT_nil⟩
  | x :: a, [] => ⟨fun _ j x y _ h => by simp at h, fun _ => rfl⟩
  | x :: a, y :: b => by
    rw [leT_cons, leT_iff (a := a) (b := b)]
    constructor
    · intro ⟨h1, h2⟩ j u v hu hv
      cases j with
      | zero => simp at hu hv; subst hu; subst hv; exact h1
      | succ j => exact h2 j u v (by simpa using hu) (by simpa using hv)
    · intro h
      exact ⟨h 0 x y rfl rfl, fun j u v hu hv => h (j + 1) u v (by simpa using hu) (by simpa using hv)⟩
theorem leT_refl (a : T) : leT a a = true := leT_iff.mpr fun j x y h1 h2 => by
  rw [h1] at h2; cases h2
  rw [le1_iff]; omega
theorem at_len {a : T} {b : T} (h : a.length = b.length) {j : Nat} {x : Int} (hx : a[j]? = some x) : ∃ y, b[j]? = some y := by
  have h1 : j < a.length := (List.getElem?_eq_some_iff.mp hx).1
  exact ⟨b[j]'(by omega), List.getElem?_eq_getElem (by omega)⟩
theorem leT_trans {a b c : T} (hab : a.length = b.length) (h1 : leT a b = true) (h2 : leT b c = true) : leT a c = true := leT_iff.mpr fun j x z hx hz => by
  obtain ⟨y, hy⟩ := at_len hab hx
  have e1 := leT_iff.mp h1 j x y hx hy
  have e2 := leT_iff.mp h2 j y z hy hz
  rw [le1_iff] at e1 e2 ⊢
  omega
theorem leT_antisymm {a b : T} (hab : a.length = b.length) (h1 : leT a b = true) (h2 : leT b a = true) : a = b := by
  refine List.ext_getElem? fun j => ?_
  cases hx : a[j]? with
  | none =>
    have : b[j]? = none := by
      rw [List.getElem?_eq_none_iff] at hx ⊢; omega
    rw [this]
  | some x =>
    obtain ⟨y, hy⟩ := at_len hab hx
    have e1 := leT_iff.mp h1 j x y hx hy
    have e2 := leT_iff.mp h2 j y x hy hx
    rw [le1_iff] at e1 e2
    rw [hy]
    congr 1
    omega
/-- no negative number -/
def NN (a : T) : Prop := ∀ x ∈ a, 0 ≤ x
/-- on markings the order is by places -/
theorem leT_nn {a b : T} (ha : NN a) (hb : NN b) : leT a b = true ↔ ∀ (j : Nat) (x y : Int), a[j]? = some x → b[j]? = some y → x ≤ y := by
  rw [leT_iff]
  constructor
  · intro h j x y hx hy
    have e := h j x y hx hy
    have := hb y (List.mem_of_getElem? hy)
    rw [le1_iff] at e; omega
  · intro h j x y hx hy
    have e := h j x y hx hy
    have := ha x (List.mem_of_getElem? hx)
    rw [le1_iff]; omega
theorem leT_false {a b : T} (h : leT a b = false) : ∃ (j : Nat) (x y : Int), a[j]? = some x ∧ b[j]? = some y ∧ le1 x y = false := by
  refine Classical.byContradiction fun hc => ?_
  have : leT a b = true := leT_iff.mpr fun j x y hx hy => by
    cases e : le1 x y with
    | true => rfl
    | false => exact absurd ⟨j, x, y, hx, hy, e⟩ hc
  rw [h] at this; cases this

/-! ### down-sets, up-sets -/
def Dn (R : List T) (m : T) : Prop := ∃ l ∈ R, leT m l = true
def Up (R : List T) (m : T) : Prop := ∃ b ∈ R, leT b m = true
/-- strictly ascending -/
def Asc (R : List T) : Prop := R.Pairwise (· < ·)
def Anti (R : List T) : Prop := ∀ x ∈ R, ∀ y ∈ R, leT x y = true → x = y
structure Can (n : Nat) (R : List T) : Prop where
  asc : Asc R
  anti : Anti R
  len : ∀ l ∈ R, l.length = n
theorem lt_irr (a : T) : ¬ a < a := List.lt_irrefl a
theorem lt_tr {a b c : T} (h1 : a < b) (h2 : b < c) : a < c := List.lt_trans h1 h2
theorem Asc.nodup {R : List T} (h : Asc R) : R.Nodup := List.Pairwise.imp (fun {a b} hab e => by subst e; exact lt_irr a hab) h
/-- two strictly ascending lists of the same members are one -/
theorem asc_ext : ∀ {R R' : List T}, Asc R → Asc R' → (∀ x, x ∈ R ↔ x ∈ R') → R = R'
  | [], [], _, _, _ => rfl
  | [], y :: R', _, _, h => absurd ((h y).mpr List.mem_cons_self) (by simp)
  | x :: R, [], _, _, h => absurd ((h x).mp List.mem_cons_self) (by simp)
  | x :: R, y :: R', h1, h2, h => by
    obtain ⟨a1, a2⟩ := List.pairwise_cons.mp h1
    obtain ⟨b1, b2⟩ := List.pairwise_cons.mp h2
    have e : x = y := by
      rcases List.mem_cons.mp ((h x).mp List.mem_cons_self) with e | e
      · exact e
      · rcases List.mem_cons.mp ((h y).mpr List.mem_cons_self) with e' | e'
        · exact e'.symm
        · exact absurd (lt_tr (a1 y e') (b1 x e)) (lt_irr x)
    subst e
    congr 1
    refine asc_ext a2 b2 fun z => ⟨fun hz => ?_, fun hz => ?_⟩
    · rcases List.mem_cons.mp ((h z).mp (List.mem_cons_of_mem _ hz)) with e | e
      · subst e; exact absurd (a1 z hz) (lt_irr z)
      · exact e
    · rcases List.mem_cons.mp ((h z).mpr (List.mem_cons_of_mem _ hz)) with e | e
      · subst e; exact absurd (b1 z hz) (lt_irr z)
      · exact e

/-! ### a frame is known by its markings -/
/-- a number above all of a list's, not negative -/
theorem big (xs : List Int) : ∃ N : Int, 0 ≤ N ∧ ∀ x ∈ xs, x < N := by
  induction xs with
  | nil => exact ⟨0, by decide, fun x h => by cases h⟩
  | cons y xs ih =>
    obtain ⟨N, h0, h⟩ := ih
    refine ⟨if y < N then N else y + 1, by split <;> omega, fun x hx => ?_⟩
    rcases List.mem_cons.mp hx with e | hx
    · subst e; split <;> omega
    · have := h x hx; split <;> omega
/-- limits have numbers from -1 on -/
def GE (a : T) : Prop := ∀ x ∈ a, -1 ≤ x
theorem prime {R : List T} {l : T} {n : Nat} (hl : l.length = n) (hg : GE l) (h : ∀ m : T, m.length = n → NN m → leT m l = true → Dn R m) : Dn R l := by
  obtain ⟨N, h0, hN⟩ := big R.flatten
  have hm : NN (l.map fun x => if x = -1 then N else x) := by
    intro y hy
    obtain ⟨x, hx, e⟩ := List.mem_map.mp hy
    have := hg x hx
    rw [← e]; split <;> omega
  obtain ⟨r, hr, hle⟩ := h _ (by rw [List.length_map]; exact hl) hm (leT_iff.mpr fun j x y hx hy => by
    rw [List.getElem?_map, hy] at hx
    have e : (if y = -1 then N else y) = x := Option.some.inj hx
    rw [le1_iff, ← e]
    split <;> omega)
  refine ⟨r, hr, leT_iff.mpr fun j x y hx hy => ?_⟩
  have e := leT_iff.mp hle j (if x = -1 then N else x) y (by rw [List.getElem?_map, hx]; rfl) hy
  have hy' := hN y (List.mem_flatten.mpr ⟨r, hr, List.mem_of_getElem? hy⟩)
  rw [le1_iff] at e ⊢
  by_cases c : x = -1
  · rw [if_pos c] at e; omega
  · rw [if_neg c] at e; omega
theorem frame_sub {n : Nat} {R R' : List T} (h1 : Can n R) (h2 : Can n R') (g1 : ∀ l ∈ R, GE l) (g2 : ∀ l ∈ R', GE l) (h : ∀ m : T, m.length = n → NN m → (Dn R m ↔ Dn R' m)) : ∀ x ∈ R, x ∈ R' := by
  intro x hx
  obtain ⟨y, hy, e1⟩ := prime (h1.len x hx) (g1 x hx) (fun m a b c => (h m a b).mp ⟨x, hx, c⟩)
  obtain ⟨z, hz, e2⟩ := prime (h2.len y hy) (g2 y hy) (fun m a b c => (h m a b).mpr ⟨y, hy, c⟩)
  have l1 : x.length = y.length := (h1.len x hx).trans (h2.len y hy).symm
  have e3 : x = z := h1.anti x hx z hz (leT_trans l1 e1 e2)
  subst e3
  rw [leT_antisymm l1 e1 e2]
  exact hy
/-- THE FRAME -/
theorem frame_eq {n : Nat} {R R' : List T} (h1 : Can n R) (h2 : Can n R') (g1 : ∀ l ∈ R, GE l) (g2 : ∀ l ∈ R', GE l) (h : ∀ m : T, m.length = n → NN m → (Dn R m ↔ Dn R' m)) : R = R' :=
  asc_ext h1.asc h2.asc fun x => ⟨frame_sub h1 h2 g1 g2 h x, frame_sub h2 h1 g2 g1 (fun m a b => (h m a b).symm) x⟩
theorem basis_sub {n : Nat} {R R' : List T} (h1 : Can n R) (h2 : Can n R') (g1 : ∀ l ∈ R, NN l) (g2 : ∀ l ∈ R', NN l) (h : ∀ m : T, m.length = n → NN m → (Up R m ↔ Up R' m)) : ∀ x ∈ R, x ∈ R' := by
  intro x hx
  obtain ⟨y, hy, e1⟩ := (h x (h1.len x hx) (g1 x hx)).mp ⟨x, hx, leT_refl x⟩
  obtain ⟨z, hz, e2⟩ := (h y (h2.len y hy) (g2 y hy)).mpr ⟨y, hy, leT_refl y⟩
  have l1 : y.length = x.length := (h2.len y hy).trans (h1.len x hx).symm
  have l2 : z.length = y.length := (h1.len z hz).trans (h2.len y hy).symm
  have e3 : z = x := h1.anti z hz x hx (leT_trans l2 e2 e1)
  subst e3
  rw [leT_antisymm l2 e2 e1]
  exact hy
/-- THE BASIS -/
theorem basis_eq {n : Nat} {R R' : List T} (h1 : Can n R) (h2 : Can n R') (g1 : ∀ l ∈ R, NN l) (g2 : ∀ l ∈ R', NN l) (h : ∀ m : T, m.length = n → NN m → (Up R m ↔ Up R' m)) : R = R' :=
  asc_ext h1.asc h2.asc fun x => ⟨basis_sub h1 h2 g1 g2 h x, basis_sub h2 h1 g2 g1 (fun m a b => (h m a b).symm) x⟩

/-! ### the greatest ones of a list -/
theorem countP_lt {α : Type} {p q : α → Bool} : ∀ {l : List α}, (∀ x ∈ l, p x = true → q x = true) → (∃ x ∈ l, q x = true ∧ p x = false) → l.countP p < l.countP q
  | [], _, ⟨x, hx, _⟩ => by cases hx
  | y :: l, h, ⟨x, hx, hq, hp⟩ => by
    have mono : l.countP p ≤ l.countP q := List.countP_mono_left fun z hz => h z (List.mem_cons_of_mem _ hz)
    rw [List.countP_cons, List.countP_cons]
    rcases List.mem_cons.mp hx with e | hx
    · subst e
      rw [hq, hp]; simp; omega
    · have ih := countP_lt (p := p) (q := q) (l := l) (fun z hz => h z (List.mem_cons_of_mem _ hz)) ⟨x, hx, hq, hp⟩
      by_cases c : p y = true
      · rw [c, h y List.mem_cons_self c]; simp; exact ih
      · have c' : p y = false := by cases z : p y <;> simp_all
        rw [c']; simp; omega
/-- l is within no other of ks -/
def Top (ks : List T) (l : T) : Prop := ∀ o ∈ ks, o ≠ l → leT l o = false
theorem top_above {n : Nat} {ks : List T} (hn : ∀ l ∈ ks, l.length = n) : ∀ (N : Nat) (l : T), l ∈ ks → ks.countP (fun o => o != l && leT l o) ≤ N → ∃ t ∈ ks, leT l t = true ∧ Top ks t := by
  intro N
  induction N with
  | zero =>
    intro l hl hc
    refine ⟨l, hl, leT_refl l, fun o ho hne => ?_⟩
    have := List.countP_eq_zero.mp (Nat.le_zero.mp hc) o ho
    simpa [hne] using this
  | succ N ih =>
    intro l hl hc
    by_cases h : Top ks l
    · exact ⟨l, hl, leT_refl l, h⟩
    · obtain ⟨o, ho, hne, hle⟩ : ∃ o ∈ ks, o ≠ l ∧ leT l o = true := by
        refine Classical.byContradiction fun hc => h fun o ho hne => ?_
        cases e : leT l o with
        | false => rfl
        | true => exact absurd ⟨o, ho, hne, e⟩ hc
      have llo : l.length = o.length := (hn l hl).trans (hn o ho).symm
      have hlt : ks.countP (fun x => x != o && leT o x) < ks.countP (fun x => x != l && leT l x) := by
        refine countP_lt (fun x hx hp => ?_) ⟨o, ho, by simp [hne, hle], by simp⟩
        have hp' : x ≠ o ∧ leT o x = true := by simpa using hp
        have hlx : leT l x = true := leT_trans llo hle hp'.2
        have hne' : x ≠ l := fun e => by
          subst e
          exact hne (leT_antisymm llo hle hp'.2).symm
        simp [hne', hlx]
      obtain ⟨t, ht, h1, h2⟩ := ih o ho (by omega)
      exact ⟨t, ht, leT_trans llo hle h1, h2⟩
/-- what frame_of hands back: R out of s, the strictly ascending list of ks -/
theorem frame_of_ok {n : Nat} {ks s R : List T} (hn : ∀ l ∈ ks, l.length = n) (hs : Asc s) (hm : ∀ x, x ∈ s ↔ x ∈ ks) (hsub : R.Sublist s) (hR : ∀ x ∈ s, x ∈ R ↔ Top ks x) :
    Can n R ∧ (∀ l ∈ R, l ∈ ks) ∧ ∀ m : T, m.length = n → (Dn R m ↔ Dn ks m) := by
  have sub : ∀ l ∈ R, l ∈ ks := fun l hl => (hm l).mp (hsub.subset hl)
  refine ⟨⟨hs.sublist hsub, fun x hx y hy h => ?_, fun l hl => hn l (sub l hl)⟩, sub, fun m hl => ⟨fun ⟨l, h1, h2⟩ => ⟨l, sub l h1, h2⟩, fun ⟨l, h1, h2⟩ => ?_⟩⟩
  · have t := (hR x (hsub.subset hx)).mp hx
    refine Classical.byContradiction fun hne => ?_
    have := t y (sub y hy) (fun e => hne e.symm)
    rw [h] at this; cases this
  · obtain ⟨t, ht, a, b⟩ := top_above hn _ l h1 (Nat.le_refl _)
    exact ⟨t, (hR t ((hm t).mpr ht)).mpr b, leT_trans (hl.trans (hn l h1).symm) h2 a⟩

/-! ### the least ones of a list, one after the other -/
theorem lt_of_leT : ∀ {a b : T}, a.length = b.length → NN a → NN b → leT a b = true → ¬ b < a
  | [], [], _, _, _, _ => lt_irr []
  | x :: a, y :: b, hl, ha, hb, h => by
    intro hlt
    rw [leT_cons, le1_iff] at h
    have h0 := hb y List.mem_cons_self
    rcases List.cons_lt_cons_iff.mp hlt with c | ⟨_, c⟩
    · omega
    · exact lt_of_leT (by simpa using hl) (fun z hz => ha z (List.mem_cons_of_mem _ hz)) (fun z hz => hb z (List.mem_cons_of_mem _ hz)) h.2 c
/-- F: what basis_of has found in the first i of s -/
structure BasI (s : List T) (i : Nat) (F : List T) : Prop where
  sub : F.Sublist (s.take i)
  anti : Anti F
  all : ∀ x ∈ s.take i, ∃ y ∈ F, leT y x = true
theorem BasI.zero (s : List T) : BasI s 0 [] := ⟨by simp, fun x hx => by simp at hx, fun x hx => by simp at hx⟩
theorem take_at {α : Type} {l : List α} {i : Nat} {x : α} (h : l[i]? = some x) : l.take (i + 1) = l.take i ++ [x] := by
  rw [List.take_add_one, h]; rfl
theorem BasI.skip {s F : List T} {i : Nat} {x : T} (B : BasI s i F) (h : s[i]? = some x) (hc : ∃ o ∈ F, leT o x = true) : BasI s (i + 1) F := by
  refine ⟨?_, B.anti, fun z hz => ?_⟩
  · rw [take_at h]
    exact B.sub.trans (List.sublist_append_left _ _)
  · rw [take_at h] at hz
    rcases List.mem_append.mp hz with c | c
    · exact B.all z c
    · rw [List.mem_singleton.mp c]; exact hc
theorem BasI.add {s F : List T} {i n : Nat} {x : T} (B : BasI s i F) (hs : Asc s) (hn : ∀ l ∈ s, l.length = n) (hN : ∀ l ∈ s, NN l) (h : s[i]? = some x) (hc : ∀ o ∈ F, leT o x = false) : BasI s (i + 1) (F ++ [x]) := by
  have hx : x ∈ s := List.mem_of_getElem? h
  have inS : ∀ o ∈ F, o ∈ s := fun o ho => List.mem_of_mem_take (B.sub.subset ho)
  have before : ∀ o ∈ F, o < x := fun o ho => by
    have ht : Asc (s.take i ++ [x]) := by
      rw [← take_at h]
      exact hs.sublist (List.take_sublist _ _)
    exact (List.pairwise_append.mp ht).2.2 o (B.sub.subset ho) x (List.mem_singleton.mpr rfl)
  refine ⟨?_, fun a ha b hb hab => ?_, fun z hz => ?_⟩
  · rw [take_at h]
    exact B.sub.append (List.Sublist.refl _)
  · rcases List.mem_append.mp ha with c | c
    · rcases List.mem_append.mp hb with d | d
      · exact B.anti a c b d hab
      · rw [List.mem_singleton.mp d, hc a c] at hab; cases hab
    · rw [List.mem_singleton.mp c] at hab ⊢
      rcases List.mem_append.mp hb with d | d
      · exact absurd (before b d) (lt_of_leT ((hn x hx).trans (hn b (inS b d)).symm) (hN x hx) (hN b (inS b d)) hab)
      · exact (List.mem_singleton.mp d).symm
  · rw [take_at h] at hz
    rcases List.mem_append.mp hz with c | c
    · obtain ⟨y, h1, h2⟩ := B.all z c
      exact ⟨y, List.mem_append_left _ h1, h2⟩
    · exact ⟨x, List.mem_append_right _ (List.mem_singleton.mpr rfl), by rw [List.mem_singleton.mp c]; exact leT_refl x⟩
/-- what basis_of hands back -/
theorem basis_of_ok {n : Nat} {ks s R : List T} (hn : ∀ l ∈ ks, l.length = n) (hs : Asc s) (hm : ∀ x, x ∈ s ↔ x ∈ ks) (B : BasI s s.length R) :
    Can n R ∧ (∀ l ∈ R, l ∈ ks) ∧ ∀ m : T, m.length = n → (Up R m ↔ Up ks m) := by
  have hsub : R.Sublist s := by have := B.sub; rwa [List.take_length] at this
  have sub : ∀ l ∈ R, l ∈ ks := fun l hl => (hm l).mp (hsub.subset hl)
  refine ⟨⟨hs.sublist hsub, B.anti, fun l hl => hn l (sub l hl)⟩, sub, fun m hl => ⟨fun ⟨l, h1, h2⟩ => ⟨l, sub l h1, h2⟩, fun ⟨l, h1, h2⟩ => ?_⟩⟩
  obtain ⟨y, a, b⟩ := B.all l (by rw [List.take_length]; exact (hm l).mpr h1)
  exact ⟨y, a, leT_trans ((hn y (sub y a)).trans (hn l h1).symm) b h2⟩
end Cv
/-! CvMath2: meets, complements, sizes. -/
namespace Cv

/-! ### meets -/
def ls1 (x y : Int) : Int := if x = -1 then y else if y = -1 then x else if y < x then y else x
def mx1 (x y : Int) : Int := if y > x then y else x
def lsT (a b : T) : T := List.zipWith ls1 a b
def jnT (a b : T) : T := List.zipWith mx1 a b
theorem zip_at {f : Int → Int → Int} {a b : T} {j : Nat} {z : Int} : (List.zipWith f a b)[j]? = some z ↔ ∃ x y, a[j]? = some x ∧ b[j]? = some y ∧ f x y = z := by
  rw [List.getElem?_zipWith]
  cases a[j]? with
  | none => simp
  | some x =>
    cases b[j]? with
    | none => simp
    | some y => simp
theorem lsT_len {a b : T} {n : Nat} (ha : a.length = n) (hb : b.length = n) : (lsT a b).length = n := by
  unfold lsT; rw [List.length_zipWith]; omega
theorem jnT_len {a b : T} {n : Nat} (ha : a.length = n) (hb : b.length = n) : (jnT a b).length = n := by
  unfold jnT; rw [List.length_zipWith]; omega
theorem le1_ls {m x y : Int} : le1 m (ls1 x y) = true ↔ le1 m x = true ∧ le1 m y = true := by
  rw [le1_iff, le1_iff, le1_iff]
  unfold ls1
  split
  · omega
  · split
    · omega
    · split <;> omega
theorem leT_ls {m a b : T} {n : Nat} (ha : a.length = n) (hb : b.length = n) : leT m (lsT a b) = true ↔ leT m a = true ∧ leT m b = true := by
  rw [leT_iff, leT_iff, leT_iff]
  constructor
  · intro h
    refine ⟨fun j x y hx hy => ?_, fun j x y hx hy => ?_⟩
    · obtain ⟨z, hz⟩ := at_len (ha.trans hb.symm) hy
      exact (le1_ls.mp (h j x _ hx (zip_at.mpr ⟨y, z, hy, hz, rfl⟩))).1
    · obtain ⟨z, hz⟩ := at_len (hb.trans ha.symm) hy
      exact (le1_ls.mp (h j x _ hx (zip_at.mpr ⟨z, y, hz, hy, rfl⟩))).2
  · intro ⟨h1, h2⟩ j x z hx hz
    obtain ⟨u, v, hu, hv, e⟩ := zip_at.mp hz
    rw [← e]
    exact le1_ls.mpr ⟨h1 j x u hx hu, h2 j x v hx hv⟩
theorem leT_jn {a b m : T} {n : Nat} (ha : a.length = n) (hb : b.length = n) (nm : NN m) (na : NN a) (nb : NN b) : leT (jnT a b) m = true ↔ leT a m = true ∧ leT b m = true := by
  rw [leT_iff, leT_iff, leT_iff]
  have key : ∀ x y z : Int, 0 ≤ x → 0 ≤ y → 0 ≤ z → (le1 (mx1 x y) z = true ↔ le1 x z = true ∧ le1 y z = true) := fun x y z hx hy hz => by
    rw [le1_iff, le1_iff, le1_iff]
    unfold mx1
    split <;> omega
  constructor
  · intro h
    refine ⟨fun j x z hx hz => ?_, fun j y z hy hz => ?_⟩
    · obtain ⟨y, hy⟩ := at_len (ha.trans hb.symm) hx
      exact ((key x y z (na x (List.mem_of_getElem? hx)) (nb y (List.mem_of_getElem? hy)) (nm z (List.mem_of_getElem? hz))).mp (h j _ z (zip_at.mpr ⟨x, y, hx, hy, rfl⟩) hz)).1
    · obtain ⟨x, hx⟩ := at_len (hb.trans ha.symm) hy
      exact ((key x y z (na x (List.mem_of_getElem? hx)) (nb y (List.mem_of_getElem? hy)) (nm z (List.mem_of_getElem? hz))).mp (h j _ z (zip_at.mpr ⟨x, y, hx, hy, rfl⟩) hz)).2
  · intro ⟨h1, h2⟩ j w z hw hz
    obtain ⟨x, y, hx, hy, e⟩ := zip_at.mp hw
    rw [← e]
    exact (key x y z (na x (List.mem_of_getElem? hx)) (nb y (List.mem_of_getElem? hy)) (nm z (List.mem_of_getElem? hz))).mpr ⟨h1 j x z hx hz, h2 j y z hy hz⟩
/-- all pairs, as the two loops append them -/
def prod (f : T → T → T) (A B : List T) : List T := A.flatMap fun a => B.map (f a)
theorem mem_prod {f : T → T → T} {A B : List T} {x : T} : x ∈ prod f A B ↔ ∃ a ∈ A, ∃ b ∈ B, x = f a b := by
  unfold prod
  rw [List.mem_flatMap]
  constructor
  · intro ⟨a, ha, h⟩
    obtain ⟨b, hb, e⟩ := List.mem_map.mp h
    exact ⟨a, ha, b, hb, e.symm⟩
  · intro ⟨a, ha, b, hb, e⟩
    exact ⟨a, ha, List.mem_map.mpr ⟨b, hb, e.symm⟩⟩
theorem prod_len {f : T → T → T} (A B : List T) : (prod f A B).length = A.length * B.length := by
  unfold prod
  induction A with
  | nil => simp
  | cons a A ih => rw [List.flatMap_cons, List.length_append, ih, List.length_map, List.length_cons, Nat.succ_mul, Nat.add_comm]
theorem dn_prod {n : Nat} {A B : List T} (hA : ∀ l ∈ A, l.length = n) (hB : ∀ l ∈ B, l.length = n) {m : T} : Dn (prod lsT A B) m ↔ Dn A m ∧ Dn B m := by
  constructor
  · intro ⟨l, hl, h⟩
    obtain ⟨a, ha, b, hb, rfl⟩ := mem_prod.mp hl
    obtain ⟨h1, h2⟩ := (leT_ls (hA a ha) (hB b hb)).mp h
    exact ⟨⟨a, ha, h1⟩, b, hb, h2⟩
  · intro ⟨⟨a, ha, h1⟩, b, hb, h2⟩
    exact ⟨_, mem_prod.mpr ⟨a, ha, b, hb, rfl⟩, (leT_ls (hA a ha) (hB b hb)).mpr ⟨h1, h2⟩⟩
theorem up_prod {n : Nat} {A B : List T} (hA : ∀ l ∈ A, l.length = n) (hB : ∀ l ∈ B, l.length = n) (nA : ∀ l ∈ A, NN l) (nB : ∀ l ∈ B, NN l) {m : T} (nm : NN m) : Up (prod jnT A B) m ↔ Up A m ∧ Up B m := by
  constructor
  · intro ⟨l, hl, h⟩
    obtain ⟨a, ha, b, hb, rfl⟩ := mem_prod.mp hl
    obtain ⟨h1, h2⟩ := (leT_jn (hA a ha) (hB b hb) nm (nA a ha) (nB b hb)).mp h
    exact ⟨⟨a, ha, h1⟩, b, hb, h2⟩
  · intro ⟨⟨a, ha, h1⟩, b, hb, h2⟩
    exact ⟨_, mem_prod.mpr ⟨a, ha, b, hb, rfl⟩, (leT_jn (hA a ha) (hB b hb) nm (nA a ha) (nB b hb)).mpr ⟨h1, h2⟩⟩
theorem ls1_or (x y : Int) : ls1 x y = x ∨ ls1 x y = y := by
  unfold ls1
  split
  · exact .inr rfl
  · split
    · exact .inl rfl
    · split
      · exact .inr rfl
      · exact .inl rfl
theorem mx1_or (x y : Int) : mx1 x y = x ∨ mx1 x y = y := by
  unfold mx1
  split
  · exact .inr rfl
  · exact .inl rfl
theorem mem_zip {f : Int → Int → Int} {a b : T} {z : Int} (h : z ∈ List.zipWith f a b) : ∃ x ∈ a, ∃ y ∈ b, z = f x y := by
  obtain ⟨j, hj⟩ := List.mem_iff_getElem?.mp h
  obtain ⟨x, y, hx, hy, e⟩ := zip_at.mp hj
  exact ⟨x, List.mem_of_getElem? hx, y, List.mem_of_getElem? hy, e.symm⟩
/-- all numbers of the tuples in S -/
def In (S : List Int) (R : List T) : Prop := ∀ l ∈ R, ∀ v ∈ l, v ∈ S
theorem in_ls {S : List Int} {A B : List T} (hA : In S A) (hB : In S B) : In S (prod lsT A B) := by
  intro l hl v hv
  obtain ⟨a, ha, b, hb, rfl⟩ := mem_prod.mp hl
  obtain ⟨x, hx, y, hy, e⟩ := mem_zip hv
  rcases ls1_or x y with c | c
  · rw [e, c]; exact hA a ha x hx
  · rw [e, c]; exact hB b hb y hy
theorem in_jn {S : List Int} {A B : List T} (hA : In S A) (hB : In S B) : In S (prod jnT A B) := by
  intro l hl v hv
  obtain ⟨a, ha, b, hb, rfl⟩ := mem_prod.mp hl
  obtain ⟨x, hx, y, hy, e⟩ := mem_zip hv
  rcases mx1_or x y with c | c
  · rw [e, c]; exact hA a ha x hx
  · rw [e, c]; exact hB b hb y hy
theorem ge_ls {A B : List T} (hA : ∀ l ∈ A, GE l) (hB : ∀ l ∈ B, GE l) : ∀ l ∈ prod lsT A B, GE l := by
  intro l hl v hv
  obtain ⟨a, ha, b, hb, rfl⟩ := mem_prod.mp hl
  obtain ⟨x, hx, y, hy, e⟩ := mem_zip hv
  rcases ls1_or x y with c | c
  · rw [e, c]; exact hA a ha x hx
  · rw [e, c]; exact hB b hb y hy
theorem nn_jn {A B : List T} (hA : ∀ l ∈ A, NN l) (hB : ∀ l ∈ B, NN l) : ∀ l ∈ prod jnT A B, NN l := by
  intro l hl v hv
  obtain ⟨a, ha, b, hb, rfl⟩ := mem_prod.mp hl
  obtain ⟨x, hx, y, hy, e⟩ := mem_zip hv
  rcases mx1_or x y with c | c
  · rw [e, c]; exact hA a ha x hx
  · rw [e, c]; exact hB b hb y hy
theorem len_prod {f : T → T → T} {n : Nat} (hf : ∀ a b : T, a.length = n → b.length = n → (f a b).length = n) {A B : List T} (hA : ∀ l ∈ A, l.length = n) (hB : ∀ l ∈ B, l.length = n) : ∀ l ∈ prod f A B, l.length = n := by
  intro l hl
  obtain ⟨a, ha, b, hb, rfl⟩ := mem_prod.mp hl
  exact hf a b (hA a ha) (hB b hb)

/-! ### below a marking, above a limit -/
def single (n p : Nat) (v r : Int) : T := (List.replicate n r).set p v
theorem single_len (n p : Nat) (v r : Int) : (single n p v r).length = n := by
  unfold single; rw [List.length_set, List.length_replicate]
theorem single_at {n p : Nat} {v r : Int} {j : Nat} (hj : j < n) : (single n p v r)[j]? = some (if j = p then v else r) := by
  unfold single
  by_cases c : j = p
  · subst c
    rw [List.getElem?_set_self (by rw [List.length_replicate]; exact hj), if_pos rfl]
  · rw [List.getElem?_set_ne (Ne.symm c), List.getElem?_replicate, if_pos hj, if_neg c]
theorem single_mem {n p : Nat} {v r x : Int} (h : x ∈ single n p v r) : x = v ∨ x = r := by
  obtain ⟨j, hj⟩ := List.mem_iff_getElem?.mp h
  have hl : j < n := by
    have := (List.getElem?_eq_some_iff.mp hj).1
    rw [single_len] at this; exact this
  rw [single_at hl] at hj
  have e := Option.some.inj hj
  rw [← e]
  split
  · exact .inl rfl
  · exact .inr rfl
def belowT (x : T) (n i : Nat) : List T := (List.range i).filterMap fun p => if 0 < x.getD p 0 then some (single n p (x.getD p 0 - 1) (-1)) else none
def aboveT (x : T) (n i : Nat) : List T := (List.range i).filterMap fun p => if x.getD p 0 ≠ -1 then some (single n p (x.getD p 0 + 1) 0) else none
theorem getD_at {x : T} {p : Nat} {v : Int} (h : x[p]? = some v) : x.getD p 0 = v := by
  rw [List.getD_eq_getElem?_getD, h]; rfl
theorem below_next {x : T} {n i : Nat} {v : Int} (h : x[i]? = some v) : belowT x n (i + 1) = if 0 < v then belowT x n i ++ [single n i (v - 1) (-1)] else belowT x n i := by
  unfold belowT
  rw [List.range_succ, List.filterMap_append, List.filterMap_cons, getD_at h]
  by_cases c : 0 < v
  · simp [c]
  · simp [c]
theorem above_next {x : T} {n i : Nat} {v : Int} (h : x[i]? = some v) : aboveT x n (i + 1) = if v ≠ -1 then aboveT x n i ++ [single n i (v + 1) 0] else aboveT x n i := by
  unfold aboveT
  rw [List.range_succ, List.filterMap_append, List.filterMap_cons, getD_at h]
  by_cases c : v = -1
  · simp [c]
  · simp [c]
theorem below_len (x : T) (n i : Nat) : (belowT x n i).length ≤ i := by
  have := List.length_filterMap_le (fun p => if 0 < x.getD p 0 then some (single n p (x.getD p 0 - 1) (-1)) else none) (List.range i)
  rw [List.length_range] at this
  exact this
theorem above_len (x : T) (n i : Nat) : (aboveT x n i).length ≤ i := by
  have := List.length_filterMap_le (fun p => if x.getD p 0 ≠ -1 then some (single n p (x.getD p 0 + 1) 0) else none) (List.range i)
  rw [List.length_range] at this
  exact this
theorem mem_below {x : T} {n i : Nat} (hx : x.length = n) (hi : i ≤ n) {l : T} : l ∈ belowT x n i ↔ ∃ p v, p < i ∧ x[p]? = some v ∧ 0 < v ∧ l = single n p (v - 1) (-1) := by
  unfold belowT
  rw [List.mem_filterMap]
  constructor
  · intro ⟨p, hp, h⟩
    have hpi := List.mem_range.mp hp
    obtain ⟨v, hv⟩ : ∃ v, x[p]? = some v := ⟨x[p]'(by omega), List.getElem?_eq_getElem (by omega)⟩
    rw [getD_at hv] at h
    by_cases c : 0 < v
    · rw [if_pos c] at h
      exact ⟨p, v, hpi, hv, c, (Option.some.inj h).symm⟩
    · rw [if_neg c] at h; cases h
  · intro ⟨p, v, hp, hv, c, e⟩
    refine ⟨p, List.mem_range.mpr hp, ?_⟩
    rw [getD_at hv, if_pos c, e]
theorem mem_above {x : T} {n i : Nat} (hx : x.length = n) (hi : i ≤ n) {l : T} : l ∈ aboveT x n i ↔ ∃ p v, p < i ∧ x[p]? = some v ∧ v ≠ -1 ∧ l = single n p (v + 1) 0 := by
  unfold aboveT
  rw [List.mem_filterMap]
  constructor
  · intro ⟨p, hp, h⟩
    have hpi := List.mem_range.mp hp
    obtain ⟨v, hv⟩ : ∃ v, x[p]? = some v := ⟨x[p]'(by omega), List.getElem?_eq_getElem (by omega)⟩
    rw [getD_at hv] at h
    by_cases c : v ≠ -1
    · rw [if_pos c] at h
      exact ⟨p, v, hpi, hv, c, (Option.some.inj h).symm⟩
    · rw [if_neg c] at h; cases h
  · intro ⟨p, v, hp, hv, c, e⟩
    refine ⟨p, List.mem_range.mpr hp, ?_⟩
    rw [getD_at hv, if_pos c, e]
theorem dn_below {x m : T} {n : Nat} (hx : x.length = n) (nx : NN x) (hm : m.length = n) (nm : NN m) : Dn (belowT x n n) m ↔ leT x m = false := by
  constructor
  · intro ⟨l, hl, h⟩
    obtain ⟨p, v, hp, hv, hpos, rfl⟩ := (mem_below hx (Nat.le_refl n)).mp hl
    obtain ⟨y, hy⟩ := at_len (hx.trans hm.symm) hv
    have e := leT_iff.mp h p y _ hy (single_at hp)
    rw [if_pos rfl, le1_iff] at e
    have h0 := nm y (List.mem_of_getElem? hy)
    cases c : leT x m with
    | false => rfl
    | true =>
      have e2 := leT_iff.mp c p v y hv hy
      rw [le1_iff] at e2
      omega
  · intro h
    obtain ⟨j, v, y, hv, hy, e⟩ := leT_false h
    have hj : j < n := by rw [← hx]; exact (List.getElem?_eq_some_iff.mp hv).1
    have h0 := nm y (List.mem_of_getElem? hy)
    have hv0 := nx v (List.mem_of_getElem? hv)
    have e' : ¬ (y = -1 ∨ (v ≠ -1 ∧ v ≤ y)) := fun c => by rw [le1_iff.mpr c] at e; cases e
    refine ⟨_, (mem_below hx (Nat.le_refl n)).mpr ⟨j, v, hj, hv, by omega, rfl⟩, leT_iff.mpr fun k a b ha hb => ?_⟩
    have hk : k < n := by rw [← hm]; exact (List.getElem?_eq_some_iff.mp ha).1
    rw [single_at hk] at hb
    have eb := Option.some.inj hb
    rw [le1_iff]
    by_cases c : k = j
    · rw [if_pos c] at eb
      rw [c, hy] at ha
      have ea := Option.some.inj ha
      omega
    · rw [if_neg c] at eb
      exact .inl eb.symm
theorem up_above {x m : T} {n : Nat} (hx : x.length = n) (gx : GE x) (hm : m.length = n) (nm : NN m) : Up (aboveT x n n) m ↔ leT m x = false := by
  constructor
  · intro ⟨l, hl, h⟩
    obtain ⟨p, v, hp, hv, hne, rfl⟩ := (mem_above hx (Nat.le_refl n)).mp hl
    obtain ⟨y, hy⟩ := at_len (hx.trans hm.symm) hv
    have e := leT_iff.mp h p _ y (single_at hp) hy
    rw [if_pos rfl, le1_iff] at e
    have h0 := nm y (List.mem_of_getElem? hy)
    cases c : leT m x with
    | false => rfl
    | true =>
      have e2 := leT_iff.mp c p y v hy hv
      rw [le1_iff] at e2
      omega
  · intro h
    obtain ⟨j, y, v, hy, hv, e⟩ := leT_false h
    have hj : j < n := by rw [← hx]; exact (List.getElem?_eq_some_iff.mp hv).1
    have h0 := nm y (List.mem_of_getElem? hy)
    have hv0 := gx v (List.mem_of_getElem? hv)
    have e' : ¬ (v = -1 ∨ (y ≠ -1 ∧ y ≤ v)) := fun c => by rw [le1_iff.mpr c] at e; cases e
    refine ⟨_, (mem_above hx (Nat.le_refl n)).mpr ⟨j, v, hj, hv, fun z => e' (.inl z), rfl⟩, leT_iff.mpr fun k a b ha hb => ?_⟩
    have hk : k < n := by rw [← hm]; exact (List.getElem?_eq_some_iff.mp hb).1
    have hb0 := nm b (List.mem_of_getElem? hb)
    rw [single_at hk] at ha
    have ea := Option.some.inj ha
    rw [le1_iff]
    by_cases c : k = j
    · rw [if_pos c] at ea
      rw [c, hy] at hb
      have eb := Option.some.inj hb
      omega
    · rw [if_neg c] at ea
      omega

/-! ### how many -/
/-- fewer than 4096 different ones -/
def Few (ks : List T) : Prop := ∀ D : List T, D.Nodup → (∀ x ∈ D, x ∈ ks) → D.length < 4096
theorem pigeon : ∀ {D U : List T}, D.Nodup → (∀ x ∈ D, x ∈ U) → D.length ≤ U.length
  | [], _, _, _ => Nat.zero_le _
  | x :: D, U, hn, hs => by
    obtain ⟨h1, h2⟩ := List.nodup_cons.mp hn
    have hx := hs x List.mem_cons_self
    have ih := pigeon (U := U.erase x) h2 fun y hy => (List.mem_erase_of_ne (fun e => h1 (by rw [← e]; exact hy))).mpr (hs y (List.mem_cons_of_mem _ hy))
    rw [List.length_erase_of_mem hx] at ih
    have := List.length_pos_of_mem hx
    rw [List.length_cons]
    omega
theorem few_len {ks : List T} (h : ks.length < 4096) : Few ks := fun _ hn hs => Nat.lt_of_le_of_lt (pigeon hn hs) h
theorem few_sub {ks ks' : List T} (h : Few ks) (hs : ∀ x ∈ ks', x ∈ ks) : Few ks' := fun D hn hd => h D hn fun x hx => hs x (hd x hx)
def cube (S : List Int) : Nat → List T
  | 0 => [[]]
  | n + 1 => S.flatMap fun v => (cube S n).map (v :: ·)
theorem cube_len (S : List Int) : ∀ n, (cube S n).length = S.length ^ n
  | 0 => rfl
  | n + 1 => by
    have key : ∀ L : List Int, (L.flatMap fun v => (cube S n).map (v :: ·)).length = L.length * S.length ^ n := fun L => by
      induction L with
      | nil => simp
      | cons v L ih => rw [List.flatMap_cons, List.length_append, ih, List.length_map, cube_len S n, List.length_cons, Nat.succ_mul, Nat.add_comm]
    show (S.flatMap fun v => (cube S n).map (v :: ·)).length = _
    rw [key, Nat.pow_succ, Nat.mul_comm]
theorem cube_mem {S : List Int} : ∀ {n : Nat} {x : T}, x.length = n → (∀ v ∈ x, v ∈ S) → x ∈ cube S n
  | 0, [], _, _ => List.mem_singleton.mpr rfl
  | 0, _ :: _, h, _ => by simp at h
  | n + 1, [], h, _ => by simp at h
  | n + 1, v :: x, h, hs => List.mem_flatMap.mpr ⟨v, hs v List.mem_cons_self, List.mem_map.mpr ⟨x, cube_mem (by simpa using h) fun u hu => hs u (List.mem_cons_of_mem _ hu), rfl⟩⟩
theorem pow_le {k n a b : Nat} (h1 : k ≤ a) (h2 : n ≤ b) (ha : 0 < a) : k ^ n ≤ a ^ b := Nat.le_trans (Nat.pow_le_pow_left h1 n) (Nat.pow_le_pow_right ha h2)
theorem in_len {S : List Int} {n k : Nat} {R : List T} (hS : S.length ≤ k) (hk : 0 < k) (hn : n ≤ 4) (nd : R.Nodup) (hl : ∀ l ∈ R, l.length = n) (hi : In S R) : R.length ≤ k ^ 4 := by
  have h := pigeon (U := cube S n) nd fun x hx => cube_mem (hl x hx) (hi x hx)
  rw [cube_len] at h
  exact Nat.le_trans h (pow_le hS hn hk)
/-- one tuple of the cube is left out -/
theorem few_out {S : List Int} {n : Nat} {ks : List T} {c : Int} (hS : S.length ≤ 8) (hn : n ≤ 4) (hl : ∀ l ∈ ks, l.length = n) (hi : In S ks) (hc : c ∈ S) (ho : List.replicate n c ∉ ks) : Few ks := fun D nd hs => by
  have h := pigeon (D := List.replicate n c :: D) (U := cube S n) (List.nodup_cons.mpr ⟨fun h => ho (hs _ h), nd⟩) fun x hx => by
    rcases List.mem_cons.mp hx with e | hx
    · subst e
      exact cube_mem List.length_replicate fun v hv => by rw [List.eq_of_mem_replicate hv]; exact hc
    · exact cube_mem (hl x (hs x hx)) (hi x (hs x hx))
  rw [cube_len, List.length_cons] at h
  have h2 : S.length ^ n ≤ 8 ^ 4 := pow_le hS hn (by decide)
  have e : (8 : Nat) ^ 4 = 4096 := by decide
  omega

/-! ### complements -/
/-- R: the frame of what covers none of ms -/
structure CC (n : Nat) (S : List Int) (ms R : List T) : Prop where
  can : Can n R
  ins : In S R
  ge : ∀ l ∈ R, GE l
  dn : ∀ m : T, m.length = n → NN m → (Dn R m ↔ ∀ x ∈ ms, leT x m = false)
/-- R: the basis of what no limit of ls admits -/
structure CF (n : Nat) (S : List Int) (ls R : List T) : Prop where
  can : Can n R
  ins : In S R
  nn : ∀ l ∈ R, NN l
  up : ∀ m : T, m.length = n → NN m → (Up R m ↔ ∀ l ∈ ls, leT m l = false)
theorem can_one (n : Nat) (c : Int) : Can n [List.replicate n c] :=
  ⟨List.pairwise_singleton _ _, fun x hx y hy _ => by rw [List.mem_singleton.mp hx, List.mem_singleton.mp hy], fun l hl => by rw [List.mem_singleton.mp hl]; exact List.length_replicate⟩
theorem in_one {n : Nat} {c : Int} {S : List Int} (h : c ∈ S) : In S [List.replicate n c] := fun l hl v hv => by
  rw [List.mem_singleton.mp hl] at hv
  rw [List.eq_of_mem_replicate hv]; exact h
theorem rep_at {n : Nat} {c : Int} {j : Nat} {y : Int} (h : (List.replicate n c)[j]? = some y) : y = c := List.eq_of_mem_replicate (List.mem_of_getElem? h)
theorem CC.zero {n : Nat} {S : List Int} (h : (-1 : Int) ∈ S) : CC n S [] [List.replicate n (-1)] := by
  refine ⟨can_one n _, in_one h, fun l hl v hv => ?_, fun m hm nm => ⟨fun _ x hx => (by cases hx), fun _ => ⟨_, List.mem_singleton.mpr rfl, leT_iff.mpr fun j x y hx hy => ?_⟩⟩⟩
  · rw [List.mem_singleton.mp hl] at hv
    rw [List.eq_of_mem_replicate hv]; decide
  · rw [rep_at hy, le1_iff]; exact .inl rfl
theorem CF.zero {n : Nat} {S : List Int} (h : (0 : Int) ∈ S) : CF n S [] [List.replicate n 0] := by
  refine ⟨can_one n _, in_one h, fun l hl v hv => ?_, fun m hm nm => ⟨fun _ x hx => (by cases hx), fun _ => ⟨_, List.mem_singleton.mpr rfl, leT_iff.mpr fun j x y hx hy => ?_⟩⟩⟩
  · rw [List.mem_singleton.mp hl] at hv
    rw [List.eq_of_mem_replicate hv]; decide
  · have := nm y (List.mem_of_getElem? hy)
    rw [rep_at hx, le1_iff]; omega
/-- what frame_of hands back of a list -/
structure Frm (n : Nat) (ks R : List T) : Prop where
  can : Can n R
  sub : ∀ l ∈ R, l ∈ ks
  dn : ∀ m : T, m.length = n → (Dn R m ↔ Dn ks m)
/-- what basis_of hands back of a list -/
structure Bas (n : Nat) (ks R : List T) : Prop where
  can : Can n R
  sub : ∀ l ∈ R, l ∈ ks
  up : ∀ m : T, m.length = n → (Up R m ↔ Up ks m)
theorem below_facts {x : T} {n i : Nat} {S : List Int} (hx : x.length = n) (hi : i ≤ n) (hS : ∀ v ∈ x, 0 < v → v - 1 ∈ S) (hm : (-1 : Int) ∈ S) :
    (∀ l ∈ belowT x n i, l.length = n) ∧ In S (belowT x n i) ∧ (∀ l ∈ belowT x n i, GE l) ∧ ∀ l ∈ belowT x n i, ∃ v ∈ l, v ≠ -1 := by
  refine ⟨fun l hl => ?_, fun l hl u hu => ?_, fun l hl u hu => ?_, fun l hl => ?_⟩ <;> obtain ⟨p, v, hp, hv, hpos, rfl⟩ := (mem_below hx hi).mp hl
  · exact single_len ..
  · rcases single_mem hu with e | e
    · rw [e]; exact hS v (List.mem_of_getElem? hv) hpos
    · rw [e]; exact hm
  · rcases single_mem hu with e | e <;> omega
  · refine ⟨v - 1, List.mem_of_getElem? (i := p) ?_, by omega⟩
    rw [single_at (by omega), if_pos rfl]
theorem above_facts {x : T} {n i : Nat} {S : List Int} (hx : x.length = n) (gx : GE x) (hi : i ≤ n) (hS : ∀ v ∈ x, v ≠ -1 → v + 1 ∈ S) (hm : (0 : Int) ∈ S) :
    (∀ l ∈ aboveT x n i, l.length = n) ∧ In S (aboveT x n i) ∧ (∀ l ∈ aboveT x n i, NN l) ∧ ∀ l ∈ aboveT x n i, ∃ v ∈ l, 0 < v := by
  refine ⟨fun l hl => ?_, fun l hl u hu => ?_, fun l hl u hu => ?_, fun l hl => ?_⟩ <;> obtain ⟨p, v, hp, hv, hne, rfl⟩ := (mem_above hx hi).mp hl <;> have hv1 := gx v (List.mem_of_getElem? hv)
  · exact single_len ..
  · rcases single_mem hu with e | e
    · rw [e]; exact hS v (List.mem_of_getElem? hv) hne
    · rw [e]; exact hm
  · rcases single_mem hu with e | e <;> omega
  · refine ⟨v + 1, List.mem_of_getElem? (i := p) ?_, by omega⟩
    rw [single_at (by omega), if_pos rfl]
/-- a product with a limit that isn't open everywhere isn't open everywhere -/
theorem ls_open {A B : List T} {n : Nat} (hA : ∀ l ∈ A, l.length = n) (hB : ∀ l ∈ B, l.length = n) (h : (∀ l ∈ A, ∃ v ∈ l, v ≠ -1) ∨ ∀ l ∈ B, ∃ v ∈ l, v ≠ -1) : List.replicate n (-1) ∉ prod lsT A B := by
  intro hm
  obtain ⟨a, ha, b, hb, e⟩ := mem_prod.mp hm
  have key : ∀ (j : Nat) (u v : Int), a[j]? = some u → b[j]? = some v → ls1 u v = -1 := fun j u v hu hv => by
    have : (lsT a b)[j]? = some (ls1 u v) := zip_at.mpr ⟨u, v, hu, hv, rfl⟩
    rw [← e] at this
    exact rep_at this
  have both : ∀ u v : Int, ls1 u v = -1 → u = -1 ∧ v = -1 := fun u v h => by
    unfold ls1 at h
    split at h
    · exact ⟨by assumption, h⟩
    · split at h
      · omega
      · split at h <;> omega
  rcases h with h | h
  · obtain ⟨u, hu, hne⟩ := h a ha
    obtain ⟨j, hj⟩ := List.mem_iff_getElem?.mp hu
    obtain ⟨v, hv⟩ := at_len ((hA a ha).trans (hB b hb).symm) hj
    exact hne (both u v (key j u v hj hv)).1
  · obtain ⟨v, hv, hne⟩ := h b hb
    obtain ⟨j, hj⟩ := List.mem_iff_getElem?.mp hv
    obtain ⟨u, hu⟩ := at_len ((hB b hb).trans (hA a ha).symm) hj
    exact hne (both u v (key j u v hu hj)).2
theorem jn_pos {A B : List T} {n : Nat} (hA : ∀ l ∈ A, l.length = n) (hB : ∀ l ∈ B, l.length = n) (h : ∀ l ∈ B, ∃ v ∈ l, 0 < v) : List.replicate n 0 ∉ prod jnT A B := by
  intro hm
  obtain ⟨a, ha, b, hb, e⟩ := mem_prod.mp hm
  obtain ⟨v, hv, hpos⟩ := h b hb
  obtain ⟨j, hj⟩ := List.mem_iff_getElem?.mp hv
  obtain ⟨u, hu⟩ := at_len ((hB b hb).trans (hA a ha).symm) hj
  have : (jnT a b)[j]? = some (mx1 u v) := zip_at.mpr ⟨u, v, hu, hj, rfl⟩
  rw [← e] at this
  have e2 := rep_at this
  unfold mx1 at e2
  split at e2 <;> omega
/-- one turn of complement_closed: the meet may be asked .. -/
theorem CC.few {n : Nat} {S : List Int} {ms R : List T} {x : T} (C : CC n S ms R) (hn : n ≤ 4) (hS : S.length ≤ 8) (hm : (-1 : Int) ∈ S) (hx : x.length = n) (hxS : ∀ v ∈ x, 0 < v → v - 1 ∈ S) : Few (prod lsT R (belowT x n n)) := by
  obtain ⟨b1, b2, b3, b4⟩ := below_facts hx (Nat.le_refl n) hxS hm
  exact few_out hS hn (len_prod (fun _ _ => lsT_len) C.can.len b1) (in_ls C.ins b2) hm (ls_open C.can.len b1 (.inr b4))
/-- .. and it keeps the word -/
theorem CC.step {n : Nat} {S : List Int} {ms R R' : List T} {x : T} (C : CC n S ms R) (hm : (-1 : Int) ∈ S) (hx : x.length = n) (nx : NN x) (hxS : ∀ v ∈ x, 0 < v → v - 1 ∈ S) (F : Frm n (prod lsT R (belowT x n n)) R') : CC n S (ms ++ [x]) R' := by
  obtain ⟨b1, b2, b3, b4⟩ := below_facts hx (Nat.le_refl n) hxS hm
  refine ⟨F.can, fun l hl => in_ls C.ins b2 l (F.sub l hl), fun l hl => ge_ls C.ge b3 l (F.sub l hl), fun m hl nm => ?_⟩
  rw [F.dn m hl, dn_prod C.can.len b1, C.dn m hl nm, dn_below hx nx hl nm]
  constructor
  · intro ⟨h1, h2⟩ y hy
    rcases List.mem_append.mp hy with c | c
    · exact h1 y c
    · rw [List.mem_singleton.mp c]; exact h2
  · intro h
    exact ⟨fun y hy => h y (List.mem_append_left _ hy), h x (List.mem_append_right _ (List.mem_singleton.mpr rfl))⟩
theorem CF.few {n : Nat} {S : List Int} {ls R : List T} {x : T} (C : CF n S ls R) (hn : n ≤ 4) (hS : S.length ≤ 8) (hm : (0 : Int) ∈ S) (hx : x.length = n) (gx : GE x) (hxS : ∀ v ∈ x, v ≠ -1 → v + 1 ∈ S) : Few (prod jnT R (aboveT x n n)) := by
  obtain ⟨b1, b2, b3, b4⟩ := above_facts hx gx (Nat.le_refl n) hxS hm
  exact few_out hS hn (len_prod (fun _ _ => jnT_len) C.can.len b1) (in_jn C.ins b2) hm (jn_pos C.can.len b1 b4)
theorem CF.step {n : Nat} {S : List Int} {ls R R' : List T} {x : T} (C : CF n S ls R) (hm : (0 : Int) ∈ S) (hx : x.length = n) (gx : GE x) (hxS : ∀ v ∈ x, v ≠ -1 → v + 1 ∈ S) (F : Bas n (prod jnT R (aboveT x n n)) R') : CF n S (ls ++ [x]) R' := by
  obtain ⟨b1, b2, b3, b4⟩ := above_facts hx gx (Nat.le_refl n) hxS hm
  refine ⟨F.can, fun l hl => in_jn C.ins b2 l (F.sub l hl), fun l hl => nn_jn C.nn b3 l (F.sub l hl), fun m hl nm => ?_⟩
  rw [F.up m hl, up_prod C.can.len b1 C.nn b3 nm, C.up m hl nm, up_above hx gx hl nm]
  constructor
  · intro ⟨h1, h2⟩ y hy
    rcases List.mem_append.mp hy with c | c
    · exact h1 y c
    · rw [List.mem_singleton.mp c]; exact h2
  · intro h
    exact ⟨fun y hy => h y (List.mem_append_left _ hy), h x (List.mem_append_right _ (List.mem_singleton.mpr rfl))⟩
end Cv
/-! CvMath3: the law's equations. -/
namespace Cv
theorem not_all_false {α : Type} {l : List α} {p : α → Bool} : (¬ ∀ x ∈ l, p x = false) ↔ ∃ x ∈ l, p x = true := by
  constructor
  · intro h
    refine Classical.byContradiction fun c => h fun x hx => ?_
    cases e : p x with
    | false => rfl
    | true => exact absurd ⟨x, hx, e⟩ c
  · intro ⟨x, hx, e⟩ h
    rw [h x hx] at e; cases e
theorem dn_not {R : List T} {m : T} : (∀ l ∈ R, leT m l = false) ↔ ¬ Dn R m := by
  constructor
  · intro h ⟨l, hl, e⟩
    rw [h l hl] at e; cases e
  · intro h l hl
    cases e : leT m l with
    | false => rfl
    | true => exact absurd ⟨l, hl, e⟩ h
theorem up_not {R : List T} {m : T} : (∀ x ∈ R, leT x m = false) ↔ ¬ Up R m := by
  constructor
  · intro h ⟨l, hl, e⟩
    rw [h l hl] at e; cases e
  · intro h l hl
    cases e : leT l m with
    | false => rfl
    | true => exact absurd ⟨l, hl, e⟩ h
section
variable {n : Nat} {S S1 S2 S3 : List Int} {ms os ls A B C E M R : List T}
theorem CC.dn' (c : CC n S ms R) {m : T} (hm : m.length = n) (nm : NN m) : Dn R m ↔ ¬ Up ms m := (c.dn m hm nm).trans up_not
theorem CF.up' (c : CF n S ls R) {m : T} (hm : m.length = n) (nm : NN m) : Up R m ↔ ¬ Dn ls m := (c.up m hm nm).trans dn_not
theorem Frm.ge (f : Frm n ls R) (h : ∀ l ∈ ls, GE l) : ∀ l ∈ R, GE l := fun l hl => h l (f.sub l hl)
theorem Bas.nn (f : Bas n ms R) (h : ∀ l ∈ ms, NN l) : ∀ l ∈ R, NN l := fun l hl => h l (f.sub l hl)
/-- the complement of the complement is the basis -/
theorem law_basis (c : CC n S ms A) (d : CF n S1 A B) (e : Bas n ms C) (hm : ∀ l ∈ ms, NN l) : B = C :=
  basis_eq d.can e.can d.nn (e.nn hm) fun m hl nm => by
    rw [d.up' hl nm, c.dn' hl nm, e.up m hl, Classical.not_not]
theorem law_frame_self (c : CC n S ms A) (f : Frm n A B) : A = B :=
  frame_eq c.can f.can c.ge (f.ge c.ge) fun m hl _ => (f.dn m hl).symm
/-- .. is the frame -/
theorem law_frame (c : CF n S ls A) (d : CC n S1 A B) (f : Frm n ls C) (hg : ∀ l ∈ ls, GE l) : B = C :=
  frame_eq d.can f.can d.ge (f.ge hg) fun m hl nm => by
    rw [d.dn' hl nm, c.up' hl nm, f.dn m hl, Classical.not_not]
theorem law_basis_self (c : CF n S ls A) (f : Bas n A B) : A = B :=
  basis_eq c.can f.can c.nn (f.nn c.nn) fun m hl _ => (f.up m hl).symm
theorem dn_append {m : T} : Dn (A ++ B) m ↔ Dn A m ∨ Dn B m := by
  constructor
  · intro ⟨l, hl, e⟩
    rcases List.mem_append.mp hl with c | c
    · exact .inl ⟨l, c, e⟩
    · exact .inr ⟨l, c, e⟩
  · rintro (⟨l, hl, e⟩ | ⟨l, hl, e⟩)
    · exact ⟨l, List.mem_append_left _ hl, e⟩
    · exact ⟨l, List.mem_append_right _ hl, e⟩
theorem up_append {m : T} : Up (A ++ B) m ↔ Up A m ∨ Up B m := by
  constructor
  · intro ⟨l, hl, e⟩
    rcases List.mem_append.mp hl with c | c
    · exact .inl ⟨l, c, e⟩
    · exact .inr ⟨l, c, e⟩
  · rintro (⟨l, hl, e⟩ | ⟨l, hl, e⟩)
    · exact ⟨l, List.mem_append_left _ hl, e⟩
    · exact ⟨l, List.mem_append_right _ hl, e⟩
/-- the complement of a common part is what either complement admits -/
theorem law_either (c1 : CC n S1 ms A) (c2 : CC n S2 os B) (b : Bas n (prod jnT ms os) M) (c3 : CC n S3 M C) (f : Frm n (A ++ B) E)
    (l1 : ∀ l ∈ ms, l.length = n) (l2 : ∀ l ∈ os, l.length = n) (n1 : ∀ l ∈ ms, NN l) (n2 : ∀ l ∈ os, NN l) : C = E := by
  have g : ∀ l ∈ A ++ B, GE l := fun l hl => (List.mem_append.mp hl).elim (c1.ge l) (c2.ge l)
  refine frame_eq c3.can f.can c3.ge (f.ge g) fun m hl nm => ?_
  rw [c3.dn' hl nm, b.up m hl, up_prod l1 l2 n1 n2 nm, f.dn m hl, dn_append, c1.dn' hl nm, c2.dn' hl nm, Classical.not_and_iff_not_or_not]
/-- the complement of both is the meet of the complements -/
theorem law_both (c1 : CC n S1 ms A) (c2 : CC n S2 os B) (f : Frm n (prod lsT A B) E) (c3 : CC n S3 (ms ++ os) C) : C = E := by
  refine frame_eq c3.can f.can c3.ge (f.ge (ge_ls c1.ge c2.ge)) fun m hl nm => ?_
  rw [c3.dn' hl nm, f.dn m hl, dn_prod c1.can.len c2.can.len, c1.dn' hl nm, c2.dn' hl nm, up_append]
  constructor
  · intro h
    exact ⟨fun a => h (.inl a), fun a => h (.inr a)⟩
  · rintro ⟨h1, h2⟩ (a | a)
    · exact h1 a
    · exact h2 a
theorem can_nil : Can n [] := ⟨List.Pairwise.nil, fun x hx => (by cases hx), fun l hl => (by cases hl)⟩
theorem law_all (c : CC n S [List.replicate n 0] R) : R = [] :=
  frame_eq c.can can_nil c.ge (fun l hl => (by cases hl)) fun m hl nm => by
    rw [c.dn' hl nm]
    constructor
    · intro h
      exfalso
      refine h ⟨_, List.mem_singleton.mpr rfl, leT_iff.mpr fun j x y hx hy => ?_⟩
      have := nm y (List.mem_of_getElem? hy)
      rw [rep_at hx, le1_iff]; omega
    · rintro ⟨l, hl, _⟩
      cases hl
theorem law_any (c : CF n S [List.replicate n (-1)] R) : R = [] :=
  basis_eq c.can can_nil c.nn (fun l hl => (by cases hl)) fun m hl nm => by
    rw [c.up' hl nm]
    constructor
    · intro h
      exfalso
      refine h ⟨_, List.mem_singleton.mpr rfl, leT_iff.mpr fun j x y hx hy => ?_⟩
      rw [rep_at hy, le1_iff]; exact .inl rfl
    · rintro ⟨l, hl, _⟩
      cases hl
theorem CC.none (c : CC n S [] R) : R = [List.replicate n (-1)] := by
  have z : CC n [-1] [] [List.replicate n (-1)] := CC.zero (List.mem_singleton.mpr rfl)
  exact frame_eq c.can z.can c.ge z.ge fun m hl nm => by rw [c.dn' hl nm, z.dn' hl nm]
theorem CC.closed (c : CC n S ms R) (l1 : ∀ l ∈ ms, l.length = n) (n1 : ∀ l ∈ ms, NN l) (h : ms ≠ []) : ∀ l ∈ R, ∃ v ∈ l, v ≠ -1 := by
  intro l hl
  refine Classical.byContradiction fun hc => ?_
  obtain ⟨x, xs, rfl⟩ := List.exists_cons_of_ne_nil h
  have hx : x ∈ x :: xs := List.mem_cons_self
  have all : ∀ v ∈ l, v = -1 := fun v hv => Classical.byContradiction fun z => hc ⟨v, hv, z⟩
  refine (c.dn' (l1 x hx) (n1 x hx)).mp ⟨l, hl, leT_iff.mpr fun j a b ha hb => ?_⟩ ⟨x, hx, leT_refl x⟩
  rw [all b (List.mem_of_getElem? hb), le1_iff]; exact .inl rfl
/-- the meet of two complements may be asked -/
theorem few_both (c1 : CC n S1 ms A) (c2 : CC n S2 os B) (hn : n ≤ 4) (hS : S.length ≤ 8) (hm : (-1 : Int) ∈ S) (h1 : ∀ v ∈ S1, v ∈ S) (h2 : ∀ v ∈ S2, v ∈ S)
    (l1 : ∀ l ∈ ms, l.length = n) (l2 : ∀ l ∈ os, l.length = n) (n1 : ∀ l ∈ ms, NN l) (n2 : ∀ l ∈ os, NN l) : Few (prod lsT A B) := by
  have iA : In S A := fun l hl v hv => h1 v (c1.ins l hl v hv)
  have iB : In S B := fun l hl v hv => h2 v (c2.ins l hl v hv)
  have out : ((∀ l ∈ A, ∃ v ∈ l, v ≠ -1) ∨ ∀ l ∈ B, ∃ v ∈ l, v ≠ -1) → Few (prod lsT A B) := fun h =>
    few_out hS hn (len_prod (fun _ _ => lsT_len) c1.can.len c2.can.len) (in_ls iA iB) hm (ls_open c1.can.len c2.can.len h)
  by_cases e1 : ms = []
  · by_cases e2 : os = []
    · subst e1; subst e2
      rw [c1.none, c2.none]
      exact few_len (by rw [prod_len]; show 1 * 1 < 4096; decide)
    · exact out (.inr (c2.closed l2 n2 e2))
  · exact out (.inl (c1.closed l1 n1 e1))
theorem CC.size {k : Nat} (c : CC n S ms R) (hS : S.length ≤ k) (hk : 0 < k) (hn : n ≤ 4) : R.length ≤ k ^ 4 := in_len hS hk hn c.can.asc.nodup c.can.len c.ins
theorem CF.size {k : Nat} (c : CF n S ls R) (hS : S.length ≤ k) (hk : 0 < k) (hn : n ≤ 4) : R.length ≤ k ^ 4 := in_len hS hk hn c.can.asc.nodup c.can.len c.ins
end
end Cv
/-! CvFin: which numbers the law's lists hold. -/
namespace Cv
section
variable {b v : Int}
/-- limits below the members; markings above these; .. of the others; of the law's own limits; of both -/
def sM (b : Int) : List Int := [-1, b - 1, b, b + 1, b + 2]
def sU (b : Int) : List Int := [0, b, b + 1, b + 2, b + 3]
def sO : List Int := [-1, 0, 1, 2]
def sL : List Int := [0, 1, 2, 3, 4]
def sD : List Int := [-1, 0, 1, 2, 3]
def sJ (b : Int) : List Int := [0, 1, 2, 3, b, b + 1, b + 2, b + 3]
def sA (b : Int) : List Int := [-1, b - 1, b, b + 1, b + 2, 0, 1, 2]
theorem toM (h : b ≤ v ∧ v ≤ b + 3) : v - 1 ∈ sM b := by simp [sM]; omega
theorem toU (h : v ∈ sM b) (ne : v ≠ -1) : v + 1 ∈ sU b := by simp [sM, sU] at h ⊢; omega
theorem toO (h : 0 ≤ v ∧ v ≤ 3) : v - 1 ∈ sO := by simp [sO]; omega
theorem toL (h : -1 ≤ v ∧ v ≤ 3) (ne : v ≠ -1) : v + 1 ∈ sL := by simp [sL]; omega
theorem toD (h : v ∈ sL) : v - 1 ∈ sD := by simp [sL, sD] at h ⊢; omega
theorem toJ1 (h : b ≤ v ∧ v ≤ b + 3) : v ∈ sJ b := by simp [sJ]; omega
theorem toJ2 (h : 0 ≤ v ∧ v ≤ 3) : v ∈ sJ b := by simp [sJ]; omega
theorem toA (h : v ∈ sJ b) (p : 0 < v) : v - 1 ∈ sA b := by simp [sJ, sA] at h ⊢; omega
theorem sM_A (h : v ∈ sM b) : v ∈ sA b := by simp [sM, sA] at h ⊢; omega
theorem sO_A (h : v ∈ sO) : v ∈ sA b := by simp [sO, sA] at h ⊢; omega
end
end Cv
/-! CvTab: set tables of any size 2^k: every slot is met; nothing of the machine's state here. -/
namespace Cv
open PySem PySem.Spec PyProof.Rows L2

/-! ### i -> 5 i + 1 goes round all of 2^e -/
def sq : Nat → Nat
  | 0 => 0
  | n + 1 => 5 * sq n + 1
theorem sq_add (a : Nat) : ∀ d, sq (a + d) = 5 ^ d * sq a + sq d
  | 0 => by show sq a = 1 * sq a + 0; omega
  | d + 1 => by
    show 5 * sq (a + d) + 1 = 5 ^ (d + 1) * sq a + (5 * sq d + 1)
    rw [sq_add a d, Nat.pow_succ, Nat.mul_add, Nat.mul_comm (5 ^ d) 5, Nat.mul_assoc]
    omega
theorem five_mod (n : Nat) : 5 ^ n % 4 = 1 := by
  induction n with
  | zero => rfl
  | succ n ih => rw [Nat.pow_succ]; omega
theorem sq_par (n : Nat) : sq n % 2 = n % 2 := by
  induction n with
  | zero => rfl
  | succ n ih => show (5 * sq n + 1) % 2 = (n + 1) % 2; omega
theorem cop_pow {e q : Nat} (hq : q % 2 = 1) : Nat.Coprime (2 ^ e) q := by
  refine Nat.Coprime.pow_left e ?_
  show Nat.gcd 2 q = 1
  rw [Nat.gcd_rec, hq]; rfl
theorem sq_dvd : ∀ (e n : Nat), 2 ^ e ∣ sq n → 2 ^ e ∣ n
  | 0, n, _ => Nat.one_dvd n
  | e + 1, n, h => by
    have h2 : 2 ∣ sq n := Nat.dvd_trans ⟨2 ^ e, by rw [Nat.pow_succ, Nat.mul_comm]⟩ h
    have hp := sq_par n
    obtain ⟨k, rfl⟩ : ∃ k, n = k + k := ⟨n / 2, by omega⟩
    have h5 := five_mod k
    obtain ⟨q, hq⟩ : ∃ q, 5 ^ k + 1 = 2 * (2 * q + 1) := ⟨5 ^ k / 4, by omega⟩
    have es : sq (k + k) = 2 * (sq k * (2 * q + 1)) := by
      rw [sq_add]
      have : 5 ^ k * sq k + sq k = (5 ^ k + 1) * sq k := by rw [Nat.succ_mul]
      rw [this, hq, Nat.mul_assoc, Nat.mul_comm (2 * q + 1)]
    rw [es, Nat.pow_succ, Nat.mul_comm (2 ^ e) 2] at h
    have h3 := Nat.dvd_of_mul_dvd_mul_left (by decide : 0 < 2) h
    have h4 := sq_dvd e k ((cop_pow (e := e) (q := 2 * q + 1) (by omega)).dvd_of_dvd_mul_right h3)
    rw [Nat.pow_succ]
    obtain ⟨c, hc⟩ := h4
    exact ⟨c, by rw [Nat.mul_assoc, Nat.two_mul, Nat.mul_add, ← hc]⟩
theorem dvd_sq : ∀ (e n : Nat), 2 ^ e ∣ n → 2 ^ e ∣ sq n
  | 0, n, _ => Nat.one_dvd _
  | e + 1, n, h => by
    obtain ⟨c, hc⟩ := h
    have en : n = 2 ^ e * c + 2 ^ e * c := by rw [hc, Nat.pow_succ, Nat.mul_assoc, Nat.two_mul, Nat.mul_add]
    obtain ⟨k, hk⟩ : ∃ k, k = 2 ^ e * c := ⟨_, rfl⟩
    rw [← hk] at en
    have ih := dvd_sq e k ⟨c, hk⟩
    have h5 := five_mod k
    obtain ⟨q, hq⟩ : ∃ q, 5 ^ k + 1 = 2 * (2 * q + 1) := ⟨5 ^ k / 4, by omega⟩
    have es : sq n = 2 * (2 * q + 1) * sq k := by
      rw [en, sq_add]
      have : 5 ^ k * sq k + sq k = (5 ^ k + 1) * sq k := by rw [Nat.succ_mul]
      rw [this, hq]
    obtain ⟨d, hd⟩ := ih
    refine ⟨(2 * q + 1) * d, ?_⟩
    rw [es, hd, Nat.pow_succ]
    simp only [Nat.mul_assoc, Nat.mul_left_comm, Nat.mul_comm]
theorem lcgN_sq (m : Nat) : ∀ n, lcgN m n = sq n % (m + 1)
  | 0 => (Nat.zero_mod _).symm
  | n + 1 => by
    show (lcgN m n * 5 + 1) % (m + 1) = (5 * sq n + 1) % (m + 1)
    rw [lcgN_sq m n, Nat.mul_comm, Nat.add_mod, Nat.mul_mod, Nat.mod_mod, ← Nat.mul_mod, ← Nat.add_mod]
theorem sq_inj {e a d : Nat} (h : sq (a + d) % 2 ^ e = sq a % 2 ^ e) : 2 ^ e ∣ d := by
  rw [Nat.add_comm a d, sq_add] at h
  refine sq_dvd e d ?_
  have h2 : 2 ^ e ∣ (5 ^ a * sq d + sq a) - sq a := Nat.dvd_of_mod_eq_zero (Nat.sub_mod_eq_zero_of_mod_eq h)
  rw [Nat.add_sub_cancel, Nat.mul_comm] at h2
  refine (cop_pow (e := e) (q := 5 ^ a) ?_).dvd_of_dvd_mul_right h2
  have := five_mod a
  omega
/-- within a round no slot comes twice, so each comes once -/
theorem lcgN_onto {m e : Nat} (he : m + 1 = 2 ^ e) {j : Nat} (hj : j ≤ m) : ∃ b, b ≤ m ∧ lcgN m b = j := by
  refine Classical.byContradiction fun hc => ?_
  have nd : ((List.range (m + 1)).map (lcgN m)).Nodup := by
    refine List.pairwise_map.mpr (List.Pairwise.imp_of_mem (fun {a b} ha hb hab e2 => ?_) List.pairwise_lt_range)
    obtain ⟨d, rfl⟩ : ∃ d, b = a + d := ⟨b - a, by omega⟩
    rw [lcgN_sq, lcgN_sq, he] at e2
    have hd := Nat.le_of_dvd (by omega) (sq_inj e2.symm)
    have := List.mem_range.mp hb
    omega
  have h := nat_nodup_len (j :: (List.range (m + 1)).map (lcgN m)) (List.range (m + 1)) (List.nodup_cons.mpr ⟨fun hm => ?_, nd⟩) fun x hx => ?_
  · rw [List.length_cons, List.length_map] at h
    omega
  · obtain ⟨b, hb, e2⟩ := List.mem_map.mp hm
    exact hc ⟨b, Nat.le_of_lt_succ (List.mem_range.mp hb), e2⟩
  · rcases List.mem_cons.mp hx with c | c
    · rw [c]; exact List.mem_range.mpr (Nat.lt_succ_of_le hj)
    · obtain ⟨b, _, e2⟩ := List.mem_map.mp c
      rw [← e2, lcgN_sq]
      exact List.mem_range.mpr (Nat.mod_lt _ (Nat.succ_pos m))
theorem lcgN_turn {m e : Nat} (he : m + 1 = 2 ^ e) (k : Nat) : lcgN m (m + 1 + k) = lcgN m k := by
  have h : (m + 1) ∣ sq (m + 1) := by
    have := dvd_sq e (m + 1) ⟨1, by rw [he, Nat.mul_one]⟩
    rwa [← he] at this
  rw [lcgN_sq, lcgN_sq, sq_add, Nat.add_mod, Nat.mod_eq_zero_of_dvd (Nat.dvd_trans h (Nat.dvd_mul_left _ _)), Nat.zero_add, Nat.mod_mod]
/-- from every slot on, a round meets every slot -/
theorem lcgI_onto {m e : Nat} (he : m + 1 = 2 ^ e) {i j : Nat} (hi : i ≤ m) (hj : j ≤ m) : ∃ k, k ≤ m ∧ lcgI m i k = j := by
  obtain ⟨a, ha, rfl⟩ := lcgN_onto he hi
  obtain ⟨b, hb, rfl⟩ := lcgN_onto he hj
  by_cases c : a ≤ b
  · exact ⟨b - a, by omega, by rw [lcgN_add]; congr 1; omega⟩
  · refine ⟨m + 1 + b - a, by omega, ?_⟩
    rw [lcgN_add, show a + (m + 1 + b - a) = m + 1 + b by omega]
    exact lcgN_turn he b

/-! ### tables in which a search meets every slot -/
/-- the runs of a search begin at every slot, soon -/
def Full (m : Nat) : Prop := ∀ (h : Int) (j : Nat), j ≤ m → ∃ n, n ≤ m + 12 ∧ runI m (SetTable.bits h) n = j
theorem full_pow {m e : Nat} (he : m + 1 = 2 ^ e) : Full m := fun h j hj => by
  obtain ⟨k, hk, e2⟩ := lcgI_onto he (runI_le m (SetTable.bits h) 12) hj
  refine ⟨12 + k, Nat.add_comm 12 k ▸ Nat.add_le_add_right hk 12, ?_⟩
  rw [runI_tail (bits_lt h)]
  exact e2
abbrev begin_ (m : Nat) (h : Int) : SetTable.Probe := runAt m (SetTable.bits h % (m + 1)) (SetTable.bits h)
theorem way_in (m : Nat) (h : Int) (k : Nat) : way m h k ≤ m := by
  have h1 : SetTable.bits h % (m + 1) ≤ m := Nat.le_of_lt_succ (Nat.mod_lt _ (Nat.succ_pos m))
  have h2 := (runEnd_bd h1).1
  have h3 := (runEnd_bd h1).2.1
  have h4 : (begin_ m h).j + (begin_ m h).more ≤ m := Nat.le_trans (Nat.le_of_eq (Nat.add_sub_cancel' h3)) h2
  have h5 := nth_in k (begin_ m h) h4
  exact Nat.le_trans (Nat.le_add_right _ _) h5
theorem Full.meets {m : Nat} (F : Full m) (h : Int) {j : Nat} (hj : j ≤ m) : ∃ k, k < 10 * SetTable.turns m ∧ way m h k = j := by
  obtain ⟨n, h1, h2⟩ := F h j hj
  obtain ⟨k, h3, h4⟩ := run_nth m (SetTable.bits h) n
  refine ⟨k, ?_, (congrArg SetTable.Probe.j h4).trans h2⟩
  show k < 10 * (m + 15)
  omega

/-- a table, its entries' hashes in the order of the slots: each entry is found again from its hash -/
structure Tb (t : SetTable) (hs : List Int) : Prop where
  ris : Ris t.place.toList
  dm : t.dummies = #[]
  sz : t.place.size = hs.length
  full : Full t.mask
  odd : t.mask % 2 = 1
  back : ∀ (i : Nat) (h : Int) (j : Nat), hs[i]? = some h → t.place.toList[i]? = some j → ∃ k, way t.mask h k = j ∧ ∀ c, c < k → way t.mask h c ∈ t.place.toList
/-- the first free slot of a search -/
theorem Tb.gap {t : SetTable} {hs : List Int} (T : Tb t hs) (hl : hs.length ≤ t.mask) (h : Int) : ∃ K, K < 10 * SetTable.turns t.mask ∧ way t.mask h K ∉ t.place.toList ∧ ∀ c, c < K → way t.mask h c ∈ t.place.toList := by
  have short : t.place.toList.length < t.mask + 1 := by
    have := T.sz
    rw [Array.length_toList]
    omega
  obtain ⟨j, j1, j2⟩ := st_missing _ _ short
  obtain ⟨k, k1, k2⟩ := T.full.meets h (Nat.le_of_lt_succ j1)
  obtain ⟨K, a1, a2, a3⟩ := st_least (p := fun c => way t.mask h c ∉ t.place.toList) k (fun hm => j2 (k2 ▸ hm))
  exact ⟨K, Nat.lt_of_le_of_lt a1 k1, a2, fun c hc => Classical.not_not.mp (a3 c hc)⟩
/-- an entry of that hash stands ahead of it -/
theorem Tb.ahead {t : SetTable} {hs : List Int} (T : Tb t hs) {h : Int} {K i j : Nat} (hK : way t.mask h K ∉ t.place.toList) (hi : hs[i]? = some h) (hj : t.place.toList[i]? = some j) : ∃ c, c < K ∧ way t.mask h c = j := by
  obtain ⟨c, e, hb⟩ := T.back i h j hi hj
  refine ⟨c, Classical.byContradiction fun hc => ?_, e⟩
  rcases Nat.lt_or_eq_of_le (Nat.le_of_not_lt hc) with z | z
  · exact hK (hb K z)
  · rw [z, e] at hK
    exact hK (List.mem_of_getElem? hj)
/-- a hash laid at the first free slot of its search -/
theorem Tb.lay {t : SetTable} {hs : List Int} (T : Tb t hs) {h : Int} {K : Nat} (hK : way t.mask h K ∉ t.place.toList) (hb : ∀ c, c < K → way t.mask h c ∈ t.place.toList) :
    (t.put (way t.mask h K)).2 ≤ hs.length ∧ Tb (t.put (way t.mask h K)).1 (hs.take (t.put (way t.mask h K)).2 ++ h :: hs.drop (t.put (way t.mask h K)).2) ∧ (t.put (way t.mask h K)).1.fill = hs.length + 1 := by
  generalize hj : way t.mask h K = j at hK
  have hp : (t.put j).2 = SetTable.below t.place j := rfl
  have c1 := (below_cut T.ris j).1
  have hl1 : (t.put j).2 ≤ t.place.toList.length := by rw [hp, Array.length_toList]; exact c1
  have hl2 : t.place.toList.length = hs.length := by rw [Array.length_toList]; exact T.sz
  have hpl : (t.put j).1.place.toList = t.place.toList.take (t.put j).2 ++ j :: t.place.toList.drop (t.put j).2 := put_place t j
  have no : t.place[SetTable.below t.place j]? ≠ some j := fun e => hK (List.mem_of_getElem? (by rw [Array.getElem?_toList]; exact e))
  have hsz : (t.put j).1.place.size = hs.length + 1 := by
    have e := congrArg List.length hpl
    rw [len_ins _ hl1, Array.length_toList] at e
    omega
  have grow : ∀ {x : Nat}, x ∈ t.place.toList → x ∈ (t.put j).1.place.toList := fun hx => by
    rw [hpl, mem_ins]
    exact .inr hx
  generalize hq : (t.put j).2 = q at hl1 hpl ⊢
  refine ⟨by omega, ⟨ris_insert T.ris no, put_dm T.dm j, ?_, T.full, T.odd, fun i h' j' e1 e2 => ?_⟩, ?_⟩
  · rw [hsz, len_ins hs (by omega)]
  · rw [tins_get hs (by omega)] at e1
    rw [hpl, tins_get _ hl1] at e2
    show ∃ k, way t.mask h' k = j' ∧ ∀ c, c < k → way t.mask h' c ∈ (t.put j).1.place.toList
    have old : ∀ i', hs[i']? = some h' → t.place.toList[i']? = some j' → ∃ k, way t.mask h' k = j' ∧ ∀ c, c < k → way t.mask h' c ∈ (t.put j).1.place.toList := fun i' a1 a2 => by
      obtain ⟨k, b1, b2⟩ := T.back i' h' j' a1 a2
      exact ⟨k, b1, fun c hc => grow (b2 c hc)⟩
    rcases Nat.lt_trichotomy i q with z | z | z
    · rw [if_pos z] at e1 e2
      exact old i e1 e2
    · rw [if_neg (by omega), if_pos z] at e1 e2
      cases e1
      cases e2
      exact ⟨K, hj, fun c hc => grow (hb c hc)⟩
    · rw [if_neg (by omega), if_neg (by omega)] at e1 e2
      exact old (i - 1) e1 e2
  · show (t.put j).1.place.size + (t.put j).1.dummies.size = _
    rw [hsz, put_dm T.dm j]; rfl

/-! ### a table laid anew -/
theorem free_at {m : Nat} (F : Full m) (owner : Array (Option Nat)) (h : Int) {j : Nat} (hj : j ≤ m) (hf : oAt owner j = none) :
    ∃ K, SetTable.layClean.free m owner (SetTable.turns m) (SetTable.bits h % (m + 1)) (SetTable.bits h) = some (way m h K) ∧ oAt owner (way m h K) = none ∧ ∀ c, c < K → oAt owner (way m h c) ≠ none := by
  obtain ⟨n, n1, n2⟩ := F h j hj
  generalize hO : off m (SetTable.bits h % (m + 1)) (SetTable.bits h) n = O
  have at_ : way m h O = j := by
    show (nth m (runAt m (SetTable.bits h % (m + 1)) (SetTable.bits h)) O).j = j
    rw [← hO, nth_off, itL_run]
    exact n2
  obtain ⟨K, k1, k2, k3⟩ := st_least (p := fun c => oAt owner (way m h c) = none) O (by show oAt owner (way m h O) = none; rw [at_]; exact hf)
  refine ⟨K, free_spec m owner (SetTable.turns m) n _ _ K (by show n < m + 15; omega) (by rw [hO]; exact k1) (fun c hc => ?_) ?_, k2, k3⟩
  · have := k3 c hc
    cases z : oAt owner (nth m (runAt m (SetTable.bits h % (m + 1)) (SetTable.bits h)) c).j with
    | none => exact absurd z this
    | some x => rfl
  · have e : oAt owner (nth m (runAt m (SetTable.bits h % (m + 1)) (SetTable.bits h)) K).j = none := k2
    rw [e]; rfl
/-- the slots so far: ps[k] is the slot of the k-th hash -/
structure Slots (m : Nat) (done : List Int) (owner : Array (Option Nat)) (ps : List Nat) : Prop where
  osz : owner.size = m + 1
  psz : ps.length = done.length
  nd : ps.Nodup
  le : ∀ j ∈ ps, j ≤ m
  own : ∀ j : Nat, j ≤ m → ∀ k : Nat, oAt owner j = some k ↔ ps[k]? = some j
  way_ : ∀ (k : Nat) (h : Int) (j : Nat), done[k]? = some h → ps[k]? = some j → ∃ K, way m h K = j ∧ ∀ c, c < K → way m h c ∈ ps
theorem Slots.occ {m : Nat} {done : List Int} {owner : Array (Option Nat)} {ps : List Nat} (W : Slots m done owner ps) {j : Nat} (hj : j ≤ m) : oAt owner j ≠ none ↔ j ∈ ps := by
  constructor
  · intro h
    cases e : oAt owner j with
    | none => exact absurd e h
    | some k => exact List.mem_of_getElem? ((W.own j hj k).mp e)
  · intro h e
    obtain ⟨k, hk⟩ := List.mem_iff_getElem?.mp h
    rw [(W.own j hj k).mpr hk] at e
    cases e
theorem Slots.zero (m : Nat) : Slots m [] (Array.replicate (m + 1) none) [] :=
  ⟨by simp, rfl, List.nodup_nil, fun j hj => (by cases hj), fun j hj k => by rw [oAt_init hj]; simp, fun k h j e => (by simp at e)⟩
theorem Slots.next {m : Nat} (F : Full m) {done : List Int} {owner : Array (Option Nat)} {ps : List Nat} (W : Slots m done owner ps) (hl : done.length ≤ m) (h : Int) :
    ∃ j, SetTable.layClean.free m owner (SetTable.turns m) (SetTable.bits h % (m + 1)) (SetTable.bits h) = some j ∧ Slots m (done ++ [h]) (owner.setIfInBounds j (some done.length)) (ps ++ [j]) := by
  obtain ⟨j0, a1, a2⟩ := st_missing ps (m + 1) (by rw [W.psz]; omega)
  have free0 : oAt owner j0 = none := Classical.byContradiction fun hc => a2 ((W.occ (Nat.le_of_lt_succ a1)).mp hc)
  obtain ⟨K, b1, b2, b3⟩ := free_at F owner h (Nat.le_of_lt_succ a1) free0
  have hjm := way_in m h K
  have notin : way m h K ∉ ps := fun hm => (W.occ hjm).mpr hm b2
  have hjs : way m h K < owner.size := by rw [W.osz]; omega
  refine ⟨way m h K, b1, ⟨by rw [Array.size_setIfInBounds]; exact W.osz, by rw [List.length_append, List.length_append, W.psz]; rfl, ?_, fun j hj => ?_, fun j hj k => ?_, fun k h' j e1 e2 => ?_⟩⟩
  · refine List.nodup_append.mpr ⟨W.nd, List.pairwise_singleton _ _, fun a ha b hb e => ?_⟩
    rw [List.mem_singleton.mp hb] at e
    exact notin (e ▸ ha)
  · rcases List.mem_append.mp hj with c | c
    · exact W.le j c
    · rw [List.mem_singleton.mp c]; exact hjm
  · by_cases c : j = way m h K
    · rw [c, oAt_set_self _ hjs]
      constructor
      · intro e
        cases e
        rw [List.getElem?_append_right (by rw [W.psz]; exact Nat.le_refl _), W.psz, Nat.sub_self]; rfl
      · intro e
        have hk : ¬ k < ps.length := fun hlt => by
          rw [List.getElem?_append_left hlt] at e
          exact notin (List.mem_of_getElem? e)
        have hk2 := (List.getElem?_eq_some_iff.mp e).1
        rw [List.length_append, List.length_singleton] at hk2
        rw [show done.length = k by have := W.psz; omega]
    · rw [oAt_set_ne _ c, W.own j hj k]
      constructor
      · intro e
        rw [List.getElem?_append_left (List.getElem?_eq_some_iff.mp e).1]
        exact e
      · intro e
        by_cases hk : k < ps.length
        · rwa [List.getElem?_append_left hk] at e
        · exfalso
          rw [List.getElem?_append_right (by omega)] at e
          have := List.mem_of_getElem? e
          exact c (List.mem_singleton.mp this)
  · by_cases hk : k < done.length
    · rw [List.getElem?_append_left hk] at e1
      rw [List.getElem?_append_left (by rw [W.psz]; exact hk)] at e2
      obtain ⟨K', d1, d2⟩ := W.way_ k h' j e1 e2
      exact ⟨K', d1, fun c hc => List.mem_append_left _ (d2 c hc)⟩
    · rw [List.getElem?_append_right (by omega)] at e1
      rw [List.getElem?_append_right (by rw [W.psz]; omega)] at e2
      have f1 := List.mem_singleton.mp (List.mem_of_getElem? e1)
      have f2 := List.mem_singleton.mp (List.mem_of_getElem? e2)
      subst f1
      subst f2
      exact ⟨K, rfl, fun c hc => List.mem_append_left _ ((W.occ (way_in m h' c)).mp (b3 c hc))⟩
theorem slots_all {m : Nat} (F : Full m) : ∀ (rest done : List Int) (owner : Array (Option Nat)) (ps : List Nat), Slots m done owner ps → done.length + rest.length ≤ m →
    ∃ owner' ps', rest.foldl (stepF m) (some (owner, done.length)) = some (owner', (done ++ rest).length) ∧ Slots m (done ++ rest) owner' ps'
  | [], done, owner, ps, W, _ => ⟨owner, ps, by simp, by simpa using W⟩
  | h :: rest, done, owner, ps, W, hl => by
    have hl' : done.length + (rest.length + 1) ≤ m := hl
    obtain ⟨j, a1, a2⟩ := W.next F (by omega) h
    have e1 : (done ++ [h]).length = done.length + 1 := by simp
    have e2 : (done ++ [h]) ++ rest = done ++ h :: rest := by simp
    obtain ⟨owner', ps', b1, b2⟩ := slots_all F rest (done ++ [h]) _ _ a2 (by omega)
    rw [e1, e2] at b1
    rw [e2] at b2
    exact ⟨owner', ps', by rw [List.foldl_cons, stepF_some a1]; exact b1, b2⟩
theorem anew {m : Nat} (F : Full m) {hs : Array Int} (hn : hs.size ≤ m) : ∃ owner ps, SetTable.layClean m hs = some owner ∧ Slots m hs.toList owner ps := by
  obtain ⟨owner, ps, a1, a2⟩ := slots_all F hs.toList [] _ [] (Slots.zero m) (by rw [Array.length_toList]; show 0 + hs.size ≤ m; omega)
  refine ⟨owner, ps, ?_, a2⟩
  rw [layClean_eq]
  exact congrArg (Option.map (·.1)) a1
theorem Slots.live {m : Nat} {done : List Int} {owner : Array (Option Nat)} {ps : List Nat} (W : Slots m done owner ps) {j k : Nat} : (j, k) ∈ liveOf m owner ↔ ps[k]? = some j := by
  rw [mem_live W.osz]
  constructor
  · intro ⟨h1, h2⟩
    exact (W.own j h1 k).mp h2
  · intro h
    have hj := W.le j (List.mem_of_getElem? h)
    exact ⟨hj, (W.own j hj k).mpr h⟩
theorem anew_tab (t : SetTable) {hs : Array Int} {wanted M : Nat} (hw : SetTable.sizeAbove wanted - 1 = M) (F : Full M) (ho : M % 2 = 1) (hn : hs.size ≤ M) :
    ∃ t' order, t.relaid hs wanted = some (t', order) ∧ order.toList.Perm (List.range hs.size) ∧ Tb t' (order.toList.map fun i => hs.getD i 0) ∧ t'.mask = M ∧ t'.led = t.led ∧ t'.plain = t.plain := by
  obtain ⟨owner, ps, a1, W⟩ := anew F hn
  have pl : ps.length = hs.size := W.psz
  have shape : t.relaid hs wanted = some (tabOf t M owner, ((liveOf M owner).map (·.2)).toArray) := by
    rw [relaid_eq, hw, a1]; rfl
  have up : Ris ((liveOf M owner).map (·.1)) ∧ ∀ x ∈ (liveOf M owner).map (·.1), x ∈ List.range (M + 1) := ris_live (fun j => owner.getD j none) (List.range (M + 1)) List.pairwise_lt_range
  have nd1 : ((liveOf M owner).map (·.1)).Nodup := List.Pairwise.imp (fun h => Nat.ne_of_lt h) up.1
  have fst_le : (liveOf M owner).length ≤ hs.size := by
    have := nat_nodup_len _ ps nd1 fun x hx => by
      obtain ⟨⟨y, k⟩, hq, e⟩ := List.mem_map.mp hx
      have e' : y = x := e
      rw [← e']
      exact List.mem_of_getElem? (W.live.mp hq)
    rw [List.length_map] at this
    omega
  have snd_all : ∀ k, k < hs.size → k ∈ (liveOf M owner).map (·.2) := fun k hk => by
    have e : ps[k]? = some (ps[k]'(by omega)) := List.getElem?_eq_getElem (by omega)
    exact List.mem_map.mpr ⟨(_, k), W.live.mpr e, rfl⟩
  have len : (liveOf M owner).length = hs.size := by
    have := nat_nodup_len (List.range hs.size) _ List.nodup_range fun k hk => snd_all k (List.mem_range.mp hk)
    rw [List.length_map, List.length_range] at this
    omega
  refine ⟨_, _, shape, perm_range _ _ (by show ((liveOf M owner).map (·.2)).length = _; rw [List.length_map, len]) snd_all, ⟨up.1, rfl, ?_, F, ho, fun i h j e1 e2 => ?_⟩, rfl, rfl, rfl⟩
  · unfold tabOf
    simp
  · have e1' : (((liveOf M owner).map (·.2)).map fun i => hs.getD i 0)[i]? = some h := e1
    have e2' : ((liveOf M owner).map (·.1))[i]? = some j := e2
    rw [List.getElem?_map, List.getElem?_map] at e1'
    rw [List.getElem?_map] at e2'
    cases got : (liveOf M owner)[i]? with
    | none => rw [got] at e2'; cases e2'
    | some p =>
      obtain ⟨y, k⟩ := p
      rw [got] at e1' e2'
      cases e2'
      have at_ := W.live.mp (List.mem_of_getElem? got)
      have hk : k < hs.size := by have := (List.getElem?_eq_some_iff.mp at_).1; omega
      have eh : hs.toList[k]? = some h := by
        have e3 : hs.getD k 0 = h := Option.some.inj e1'
        rw [Array.getD_eq_getD_getElem?, Array.getElem?_eq_getElem hk] at e3
        rw [Array.getElem?_toList, Array.getElem?_eq_getElem hk]
        exact congrArg some e3
      obtain ⟨K, b1, b2⟩ := W.way_ k h y eh at_
      refine ⟨K, b1, fun c hc => ?_⟩
      obtain ⟨k2, hk2⟩ := List.mem_iff_getElem?.mp (b2 c hc)
      show way M h c ∈ (liveOf M owner).map (·.1)
      exact List.mem_map.mpr ⟨(_, k2), W.live.mpr hk2, rfl⟩
end Cv
/-! CvSet: a set of up to 4095 tuples of whole numbers: one more is added; the machine's state. -/
namespace Cv
open PySem PySem.Spec PyProof.Rows L2

/-- the sizes that a growing set goes through -/
def Size (m : Nat) : Prop := m = 7 ∨ m = 31 ∨ m = 127 ∨ m = 511 ∨ m = 2047 ∨ m = 8191
theorem Size.full {m : Nat} (z : Size m) : Full m := by
  rcases z with rfl | rfl | rfl | rfl | rfl | rfl
  · exact full_pow (e := 3) (by decide)
  · exact full_pow (e := 5) (by decide)
  · exact full_pow (e := 7) (by decide)
  · exact full_pow (e := 9) (by decide)
  · exact full_pow (e := 11) (by decide)
  · exact full_pow (e := 13) (by decide)
theorem Size.odd {m : Nat} (z : Size m) : m % 2 = 1 := by
  rcases z with rfl | rfl | rfl | rfl | rfl | rfl <;> rfl
theorem Size.le {m : Nat} (z : Size m) : m ≤ 8191 := by
  rcases z with rfl | rfl | rfl | rfl | rfl | rfl <;> decide
theorem above_308 : SetTable.sizeAbove (SetTable.grown 77) = 512 := by decide +kernel
theorem above_1228 : SetTable.sizeAbove (SetTable.grown 307) = 2048 := by decide +kernel
theorem above_4916 : SetTable.sizeAbove (SetTable.grown 1229) = 8192 := by decide +kernel
/-- a table that became too full grows to the next size -/
theorem Size.grow {m u : Nat} (z : Size m) (h1 : u * 5 < m * 3) (h2 : (u + 1) * 5 ≥ m * 3) (h3 : u + 1 < 4096) :
    Size (SetTable.sizeAbove (SetTable.grown (u + 1)) - 1) ∧ SetTable.sizeAbove (SetTable.grown (u + 1)) ≤ 8192 ∧ (u + 1) * 5 < (SetTable.sizeAbove (SetTable.grown (u + 1)) - 1) * 3 ∧ u + 1 ≤ SetTable.sizeAbove (SetTable.grown (u + 1)) - 1 := by
  rcases z with rfl | rfl | rfl | rfl | rfl | rfl
  · obtain rfl : u = 4 := by omega
    rw [show 4 + 1 = 5 from rfl, size_20]
    exact ⟨.inr (.inl rfl), by decide, by decide, by decide⟩
  · obtain rfl : u = 18 := by omega
    rw [show 18 + 1 = 19 from rfl, size_76]
    exact ⟨.inr (.inr (.inl rfl)), by decide, by decide, by decide⟩
  · obtain rfl : u = 76 := by omega
    rw [show 76 + 1 = 77 from rfl, above_308]
    exact ⟨.inr (.inr (.inr (.inl rfl))), by decide, by decide, by decide⟩
  · obtain rfl : u = 306 := by omega
    rw [show 306 + 1 = 307 from rfl, above_1228]
    exact ⟨.inr (.inr (.inr (.inr (.inl rfl)))), by decide, by decide, by decide⟩
  · obtain rfl : u = 1228 := by omega
    rw [show 1228 + 1 = 1229 from rfl, above_4916]
    exact ⟨.inr (.inr (.inr (.inr (.inr rfl)))), by decide, by decide, by decide⟩
  · omega

section
variable {P : Program} {w : World} {A : Around} {E : Value → Shared → Prop} {s : Shared}
/-- at a stands a set of the tuples L, in the order of its slots -/
structure TS (P : Program) (w : World) (h : Heap) (a : Addr) (L : List (Addr × List Int)) (es : Array (Int × Value)) (ep : Nat) (t : SetTable) : Prop where
  obj : ∃ ob, h.get? a = some ob ∧ ob.ExactSet ∧ ob.data = .set es ep t
  ents : es.toList = rowsOf P w L
  tab : Tb t (L.map fun q => thash P w q.2)
  size : Size t.mask
  nd : (L.map (·.2)).Nodup
  tups : ∀ q ∈ L, IsT P w h q.2 q.1
  byVal : t.plain = true
  led : t.led = true ∨ w.params.followText "set-order" = true
  room : 5 * L.length < 3 * t.mask
  few : L.length < 4096
variable {a : Addr} {L : List (Addr × List Int)} {es : Array (Int × Value)} {ep : Nat} {t : SetTable}
theorem rows_len (e : es.toList = rowsOf P w L) : es.size = L.length := by
  rw [← Array.length_toList, e]
  unfold rowsOf
  rw [List.length_map]
theorem fits_of (hz : t.place.size = es.size) (hd : t.dummies = #[]) (hm : es.size ≤ t.mask) : t.fits es.size = true := by
  unfold SetTable.fits SetTable.fill
  rw [hd, hz]
  simp [hm]
theorem TS.len (S : TS P w s.heap a L es ep t) : es.size = L.length := rows_len S.ents
theorem TS.place (S : TS P w s.heap a L es ep t) : t.place.toList.length = L.length := by
  rw [Array.length_toList, S.tab.sz, List.length_map]
theorem TS.fit (S : TS P w s.heap a L es ep t) : t.fits es.size = true := by
  have h1 := S.len
  have h2 := S.place
  have h3 := S.room
  rw [Array.length_toList] at h2
  exact fits_of (by omega) S.tab.dm (by omega)
theorem TS.ent (S : TS P w s.heap a L es ep t) {i : Nat} {q : Addr × List Int} (h : L[i]? = some q) : es[i]? = some (thash P w q.2, Value.ref q.1) := by
  have e : es.toList[i]? = (rowsOf P w L)[i]? := by rw [S.ents]
  rw [Array.getElem?_toList] at e
  rw [e]
  unfold rowsOf
  rw [List.getElem?_map, h]; rfl
theorem TS.stays (S : TS P w s.heap a L es ep t) : ¬ t.gaveWay = true := by
  unfold SetTable.gaveWay
  rw [S.tab.odd]
  decide
/-- the c-th look of the search for the hash h -/
abbrev look (t : SetTable) (h : Int) (c : Nat) : SetTable.Probe := nth t.mask (begin_ t.mask h) c
theorem look_look (t : SetTable) (h : Int) (c d : Nat) : nth t.mask (look t h c) d = look t h (c + d) := (nth_add t.mask c _ d).symm
theorem look_plain (t : SetTable) (h : Int) (c : Nat) : (look t h c).dummy = none := by
  have all : ∀ (n : Nat) (p : SetTable.Probe), p.dummy = none → (nth t.mask p n).dummy = none := fun n => by
    induction n with
    | zero => exact fun p e => e
    | succ n ih =>
      intro p e
      refine ih _ ?_
      unfold adv
      split
      · exact e
      · exact e
  exact all c _ rfl

/-- THE SEARCH, from its c-th look on; G: its first gap -/
theorem TS.seek (S : TS P w s.heap a L es ep t) {x : Addr} {k : List Int} (hx : IsT P w s.heap k x) (hu : A.units < cLine) {G : Nat} (g0 : G < 10 * SetTable.turns t.mask) (g1 : way t.mask (thash P w k) G ∉ t.place.toList)
    (g2 : ∀ c, c < G → way t.mask (thash P w k) c ∈ t.place.toList) {Q : SetFound → Shared → Prop} (there : k ∈ L.map (·.2) → Q (.there none) s) (anew : k ∉ L.map (·.2) → Q (.free (way t.mask (thash P w k) G) false) s) :
    ∀ (f c : Nat) (from_ : Option SetTable.Probe), from_.getD (t.probeStart (thash P w k)) = look t (thash P w k) c → c ≤ G → G - c < f →
      (∀ (i : Nat) q, L[i]? = some q → q.2 = k → ∃ d, c ≤ d ∧ d < G ∧ t.place.toList[i]? = some (way t.mask (thash P w k) d)) →
      wpAny (model P w) A (setSearchFrom a (.ref x) (thash P w k) true f from_) Q E s
  | 0, c, from_, _, _, hf, _ => absurd hf (Nat.not_lt_zero _)
  | f + 1, c, from_, e0, hc, hf, later => by
    obtain ⟨ob, o1, o2, o3⟩ := S.obj
    generalize hH : thash P w k = H at *
    have wl : ∀ d, (nth t.mask (look t H c) d).j = way t.mask H (c + d) := fun d => congrArg SetTable.Probe.j (look_look t H c d)
    have hashOf : ∀ (i : Nat) q, L[i]? = some q → (es[i]?.map (·.1)).getD 0 = thash P w q.2 := fun i q hq => by
      rw [S.ent hq]; rfl
    have met := go_spec t S.tab.ris S.tab.dm (fun i => (es[i]?.map (·.1)).getD 0) H (10 * SetTable.turns t.mask) (G - c) (look t H c) (look_plain t H c) (by omega)
      (fun d hd => by rw [wl]; exact g2 (c + d) (by omega)) (by rw [wl, Nat.add_sub_cancel' hc]; exact g1)
    rw [setSearchFrom_succ]
    refine wpAny_bind (wpAny_setState_of o1 o3 S.fit ?_)
    dsimp only
    refine wp_if_neg S.stays ?_
    try refine wpAny_bind (wpAny_pure ?_)
    rcases met with ⟨d, i, m1, m2, m3, m4, m5⟩ | ⟨m4, m5⟩
    · -- an entry of the same hash
      have said : t.probe (fun i => (es[i]?.map (·.1)).getD 0) H (from_.getD (t.probeStart H)) = some (.candidate (way t.mask H (c + d)) i (look t H (c + (d + 1)))) := by
        rw [e0, ← wl, ← look_look]
        exact m5
      rw [said]
      dsimp only
      rw [wl] at m2
      obtain ⟨q, hq⟩ : ∃ q, L[i]? = some q := by
        have h1 := (List.getElem?_eq_some_iff.mp m2).1
        have h2 := S.place
        exact ⟨L[i]'(by omega), List.getElem?_eq_getElem (by omega)⟩
      have hqL : q ∈ L := List.mem_of_getElem? hq
      have hqT := S.tups q hqL
      have slot_i := slot_live S.tab.ris m2
      have go_on : wpAny (model P w) A (searchRest a (.ref x) H true f es t (way t.mask H (c + d)) i (look t H (c + (d + 1)))) Q E s := by
        unfold searchRest
        rw [S.ent hq]
        dsimp only
        refine wpAny_bind (wpAny_holding (wpAny_eqBool_tuple hu hqT hx ?_))
        refine wpAny_bind (wpAny_setState_of o1 o3 S.fit ?_)
        dsimp only
        by_cases same : q.2 = k
        · refine wp_if_pos (by simp [same]) (wpAny_pure (there ?_))
          exact List.mem_map.mpr ⟨q, hqL, same⟩
        · refine wp_if_neg (by simp [same]) ?_
          try refine wpAny_bind (wpAny_pure ?_)
          rw [sameMem]
          dsimp only
          simp only [if_true, slot_i, S.ent hq]
          refine wpAny_bind (wpAny_isSame_ref_self (wpAny_bind (wpAny_pure ?_)))
          simp only [if_true]
          refine wp_if_neg (by simp [same]) ?_
          subst hH
          refine TS.seek S hx hu g0 g1 g2 there anew f (c + (d + 1)) _ rfl (by omega) (by omega) fun i' q' h' k' => ?_
          obtain ⟨d', b1, b2, b3⟩ := later i' q' h' k'
          have far : ¬ d' < c + d := fun z => m4 (d' - c) i' (by omega) (by rw [wl, Nat.add_sub_cancel' b1]; exact b3) ((hashOf i' q' h').trans (by rw [k']))
          have off_ : d' ≠ c + d := fun z => by
            rw [z] at b3
            have s2 := slot_live S.tab.ris b3
            rw [slot_i] at s2
            injection s2 with s2
            rw [s2, h'] at hq
            cases hq
            exact same k'
          exact ⟨d', by omega, b2, b3⟩
      by_cases hl : t.led = true
      · refine wp_if_neg (by simp [hl]) ?_
        try refine wpAny_bind (wpAny_pure ?_)
        exact go_on
      · refine wp_if_pos (by simp [hl]) (wpAny_bind (seen_tup hx (fun y hy => ?_) ?_))
        · obtain ⟨en, e1, e2⟩ := List.mem_map.mp hy
          have e3 : en ∈ es.toList := by
            have : en ∈ es ∧ en.1 = H := by simpa using e1
            simpa using this.1
          rw [S.ents] at e3
          obtain ⟨q2, f1, f2⟩ := List.mem_map.mp e3
          exact ⟨q2.2, q2.1, by rw [← e2, ← f2], S.tups q2 f1⟩
        · refine wp_if_neg (by decide) ?_
          try refine wpAny_bind (wpAny_pure ?_)
          exact go_on
    · -- the gap
      have said : t.probe (fun i => (es[i]?.map (·.1)).getD 0) H (from_.getD (t.probeStart H)) = some (.empty (way t.mask H G) none) := by
        have e1 := wl (G - c)
        rw [Nat.add_sub_cancel' hc] at e1
        rw [e0, ← e1]
        exact m5
      rw [said]
      dsimp only
      refine wpAny_pure (anew fun hm => ?_)
      obtain ⟨q, q1, q2⟩ := List.mem_map.mp hm
      obtain ⟨i, hi⟩ := List.mem_iff_getElem?.mp q1
      obtain ⟨d, b1, b2, b3⟩ := later i q hi q2
      exact m4 (d - c) i (by omega) (by rw [wl, Nat.add_sub_cancel' b1]; exact b3) ((hashOf i q hi).trans (by rw [q2, hH]))
/-- the whole search: the member is there, or the first gap on its way is handed back -/
theorem TS.find (S : TS P w s.heap a L es ep t) {x : Addr} {k : List Int} (hx : IsT P w s.heap k x) (hu : A.units < cLine) {Q : SetFound → Shared → Prop} (there : k ∈ L.map (·.2) → Q (.there none) s)
    (anew : ∀ G, k ∉ L.map (·.2) → way t.mask (thash P w k) G ∉ t.place.toList → (∀ c, c < G → way t.mask (thash P w k) c ∈ t.place.toList) → Q (.free (way t.mask (thash P w k) G) false) s) :
    wpAny (model P w) A (setSearch a (.ref x) (thash P w k) true) Q E s := by
  have h1 := S.room
  obtain ⟨G, g0, g1, g2⟩ := S.tab.gap (by rw [List.length_map]; omega) (thash P w k)
  have h2 := S.size.le
  have g3 : G < 100000 := by
    have : G < 10 * (t.mask + 15) := g0
    omega
  unfold setSearch
  refine S.seek hx hu g0 g1 g2 there (fun z => anew G z g1 g2) 100000 0 none rfl (Nat.zero_le G) (by omega) fun i q hi hq => ?_
  have hp : i < t.place.toList.length := by
    have := (List.getElem?_eq_some_iff.mp hi).1
    have := S.place
    omega
  have pj := List.getElem?_eq_getElem hp
  obtain ⟨d, d1, d2⟩ := S.tab.ahead g1 (i := i) (by rw [List.getElem?_map, hi, ← hq]; rfl) pj
  exact ⟨d, Nat.zero_le d, d1, by rw [pj, d2]⟩
end
end Cv
/-! CvAdd: adding to such a set; set(xs) of a list of tuples. -/
namespace Cv
open PySem PySem.Spec PyProof.Rows L2
section
variable {P : Program} {w : World} {A : Around} {E : Value → Shared → Prop} {s : Shared}
variable {a : Addr} {L : List (Addr × List Int)} {es : Array (Int × Value)} {ep : Nat} {t : SetTable}
/-- the table grows -/
theorem grow_at {ob : Obj} {u : Nat} {m : Nat} (o1 : s.heap.get? a = some ob) (o2 : ob.ExactSet) (o3 : ob.data = .set es ep t) (ents : es.toList = rowsOf P w L) (tab : Tb t (L.map fun q => thash P w q.2)) (hm : t.mask = m) (z : Size m)
    (nd : (L.map (·.2)).Nodup) (tups : ∀ q ∈ L, IsT P w s.heap q.2 q.1) (bv : t.plain = true) (ld : t.led = true ∨ w.params.followText "set-order" = true)
    (lu : L.length = u + 1) (h1 : u * 5 < m * 3) (h2 : (u + 1) * 5 ≥ m * 3) (h3 : u + 1 < 4096) {Q : Unit → Shared → Prop}
    (next : ∀ h' L' es' ep' t', Heap.SameBut a s.heap h' → TS P w h' a L' es' ep' t' → L'.Perm L → Q () { s with heap := h' }) : wpAny (model P w) A (setRelay a (SetTable.grown (u + 1))) Q E s := by
  obtain ⟨z1, z2, z3, z4⟩ := z.grow h1 h2 h3
  have esz := rows_len ents
  have psz : t.place.size = es.size := by rw [tab.sz, List.length_map, esz]
  have um : es.size ≤ t.mask := by
    have := z.le
    rcases z with e | e | e | e | e | e <;> omega
  obtain ⟨t', order, r1, r2, r3, r4, r5, r6⟩ := anew_tab t (hs := es.map (·.1)) (wanted := SetTable.grown (u + 1)) rfl z1.full z1.odd (by rw [Array.size_map, esz, lu]; exact z4)
  rw [Array.size_map, esz] at r2
  obtain ⟨L2, q1, q2, q3⟩ := order_rows L es order ents r2
  rw [← q3] at r3
  have sz2 : (order.filterMap (es[·]?)).size = es.size := by rw [rows_len q1, q2.length_eq, esz]
  rw [setRelay_eq]
  refine wpAny_bind (wpAny_setState_of o1 o3 (fits_of psz tab.dm um) ?_)
  dsimp only
  refine wp_if_neg (by rw [sizeLine_eq]; omega) ?_
  try refine wpAny_bind (wpAny_pure ?_)
  rw [r1]
  dsimp only
  refine wpAny_bind (wp_if_neg (by rw [sz2]; simp) ?_)
  try refine wpAny_bind (wpAny_pure ?_)
  refine wpAny_pure ?_
  dsimp only
  have stays : Heap.SameBut a s.heap (s.heap.update a (Obj.putSet (order.filterMap (es[·]?)) t')) := Heap.SameBut.update ..
  refine wpAny_storeSet_of o1 o3 (next _ L2 (order.filterMap (es[·]?)) (ep + 1) t' stays ⟨⟨_, store_at o1 o3, ⟨o2.1, o2.2.1, o2.2.2⟩, rfl⟩, q1, r3, ?_, ?_, ?_, ?_, ?_, ?_, ?_⟩ q2) (by rw [sz2, esz, lu, sizeLine_eq]; omega)
  · rw [r4]; exact z1
  · exact (q2.map (·.2)).nodup_iff.mpr nd
  · intro q hq
    exact isT_same (tups q (q2.mem_iff.mp hq)) o1 o3 stays
  · rw [r6]; exact bv
  · rw [r5]; exact ld
  · rw [q2.length_eq, r4, lu]; omega
  · rw [q2.length_eq, lu]; exact h3
/-- ONE MORE -/
theorem TS.put (S : TS P w s.heap a L es ep t) {x : Addr} {k : List Int} (hx : IsT P w s.heap k x) (hu : A.units < cLine) (more : k ∉ L.map (·.2) → L.length + 1 < 4096) {Q : Bool → Shared → Prop}
    (next : ∀ b h' L' es' ep' t', Heap.SameBut a s.heap h' → TS P w h' a L' es' ep' t' → (k ∈ L.map (·.2) → L' = L) → (k ∉ L.map (·.2) → L'.Perm ((x, k) :: L)) → Q b { s with heap := h' }) :
    wpAny (model P w) A (setAddHashed a (.ref x) (thash P w k)) Q E s := by
  obtain ⟨ob, o1, o2, o3⟩ := S.obj
  unfold setAddHashed
  refine wpAny_holding ?_
  rw [show (100000 : Nat) = 99999 + 1 from rfl, setAddHashedIn_succ]
  refine wpAny_bind (wpAny_setState_of o1 o3 S.fit ?_)
  dsimp only
  refine wp_if_neg (by simp [byScan, Value.scannable]) ?_
  try refine wpAny_bind (wpAny_pure ?_)
  refine wpAny_bind (S.find hx hu (fun old => ?_) fun G new g1 g2 => ?_)
  · exact wpAny_pure (next false s.heap L es ep t (Heap.SameBut.refl a s.heap) S (fun _ => rfl) fun z => absurd old z)
  dsimp only
  refine wpAny_bind (wpAny_setState_of o1 o3 S.fit ?_)
  dsimp only
  have room := S.room
  have esz := S.len
  have hmore := more new
  obtain ⟨p1, p2, p3⟩ := S.tab.lay g1 g2
  have keepM : (t.put (way t.mask (thash P w k) G)).1.mask = t.mask := rfl
  have keepL : (t.put (way t.mask (thash P w k) G)).1.led = t.led := rfl
  have keepP : (t.put (way t.mask (thash P w k) G)).1.plain = true := S.byVal
  generalize t.put (way t.mask (thash P w k) G) = laid at p1 p2 p3 keepM keepL keepP ⊢
  obtain ⟨t1, p⟩ := laid
  dsimp only at p1 p2 p3 keepM keepL keepP ⊢
  rw [List.length_map] at p1 p3
  first
    | (refine wpAny_bind ?_; refine wp_if_pos keepP (hashBy_tup hx ?_))
    | refine wp_if_pos keepP (wpAny_bind (hashBy_tup hx ?_))
  simp only [if_true]
  have perm := put_perm L p (x, k)
  have ents1 : (SetTable.insertAt es p (thash P w k, Value.ref x)).toList = rowsOf P w (L.take p ++ (x, k) :: L.drop p) := by
    rw [SetTable.toList_insertAt, rows_put, S.ents]
  have hash1 : (L.map fun q => thash P w q.2).take p ++ thash P w k :: (L.map fun q => thash P w q.2).drop p = (L.take p ++ (x, k) :: L.drop p).map fun q => thash P w q.2 := by
    rw [List.map_append, List.map_cons, List.map_take, List.map_drop]
  rw [hash1] at p2
  generalize SetTable.insertAt es p (thash P w k, Value.ref x) = es1 at ents1 ⊢
  generalize L.take p ++ (x, k) :: L.drop p = L1 at perm ents1 p2
  have len1 : L1.length = L.length + 1 := perm.length_eq
  have esz1 : es1.size = L.length + 1 := by rw [rows_len ents1, len1]
  have nd1 : (L1.map (·.2)).Nodup := (perm.map (·.2)).nodup_iff.mpr (List.nodup_cons.mpr ⟨new, S.nd⟩)
  refine wpAny_bind (wpAny_storeSet_of o1 o3 ?_ (by rw [esz1, sizeLine_eq]; omega))
  have stays : Heap.SameBut a s.heap (s.heap.update a (Obj.putSet es1 t1)) := Heap.SameBut.update ..
  have o1' := store_at (es' := es1) (t' := t1) o1 o3
  generalize s.heap.update a (Obj.putSet es1 t1) = h1 at stays o1' ⊢
  have tups1 : ∀ q ∈ L1, IsT P w h1 q.2 q.1 := fun q hq => by
    rcases List.mem_cons.mp (perm.mem_iff.mp hq) with e | hq
    · subst e
      exact isT_same hx o1 o3 stays
    · exact isT_same (S.tups q hq) o1 o3 stays
  have led1 : t1.led = true ∨ w.params.followText "set-order" = true := by rw [keepL]; exact S.led
  have full_iff : t1.tooFull = true ↔ (L.length + 1) * 5 ≥ t.mask * 3 := by
    unfold SetTable.tooFull
    rw [decide_eq_true_eq, p3, keepM]
  by_cases tf : t1.tooFull = true
  · have enough := full_iff.mp tf
    have relay : wpAny (model P w) A (setRelay a (SetTable.grown (es.size + 1))) (fun _ s' => wpAny (model P w) A (pure true) Q E s') E { s with heap := h1 } := by
      rw [esz]
      refine grow_at (s := { s with heap := h1 }) o1' ⟨o2.1, o2.2.1, o2.2.2⟩ rfl ents1 p2 keepM S.size nd1 tups1 keepP led1 len1 (by omega) enough hmore fun h2 L2 es2 ep2 t2 sb2 S2 perm2 => ?_
      exact wpAny_pure (next true h2 L2 es2 ep2 t2 (stays.trans sb2) S2 (fun z => absurd z new) fun _ => perm2.trans perm)
    first
      | (refine wpAny_bind ?_; refine wp_if_pos (by simp [tf]) ?_; exact relay)
      | (refine wp_if_pos (by simp [tf]) ?_; refine wpAny_bind ?_; exact relay)
  · have done : Q true { s with heap := h1 } := next true h1 L1 es1 (ep + 1) t1 stays
      ⟨⟨_, o1', ⟨o2.1, o2.2.1, o2.2.2⟩, rfl⟩, ents1, p2, by rw [keepM]; exact S.size, nd1, tups1, keepP, led1, by
        have := mt full_iff.mpr tf
        rw [len1, keepM]
        omega, by rw [len1]; exact hmore⟩ (fun z => absurd z new) fun _ => perm
    first
      | (refine wp_if_neg (by simp [tf]) ?_; exact wpAny_pure done)
      | (refine wpAny_bind ?_; refine wp_if_neg (by simp [tf]) ?_; exact wpAny_pure (wpAny_pure done))
end
end Cv
/-! CvMake: set(xs), xs a list of tuples of whole numbers with fewer than 4096 different ones. -/
namespace Cv
open PySem PySem.Spec PyProof.Rows L2
section
variable {P : Program} {w : World} {A : Around} {E : Value → Shared → Prop} {s : Shared}
theorem TS.carry {h h' : Heap} {a : Addr} {L : List (Addr × List Int)} {es : Array (Int × Value)} {ep : Nat} {t : SetTable} (S : TS P w h a L es ep t) (ha : ∀ o, h.get? a = some o → h'.get? a = some o) (ht : ∀ q ∈ L, IsT P w h' q.2 q.1) : TS P w h' a L es ep t :=
  let ⟨ob, o1, o2⟩ := S.obj
  { S with obj := ⟨ob, ha ob o1, o2⟩, tups := ht }
abbrev bare (w : World) : Obj := { cls := .type "set", dict := none, data := .set #[] 0 (.fresh 0 0 (!w.params.followText "set-order")) }
theorem TS.none {h : Heap} {a : Addr} (e : h.get? a = some (bare w)) : TS P w h a [] #[] 0 (.fresh 0 0 (!w.params.followText "set-order")) where
  obj := ⟨_, e, ⟨rfl, rfl, rfl⟩, rfl⟩
  ents := rfl
  tab := ⟨List.Pairwise.nil, rfl, rfl, Size.full (.inl rfl), (by decide : 7 % 2 = 1), fun i h j hi => by simp at hi⟩
  size := .inl rfl
  nd := List.nodup_nil
  tups := fun q hq => nomatch hq
  byVal := rfl
  led := by
    show (!w.params.followText "set-order") = true ∨ w.params.followText "set-order" = true
    cases w.params.followText "set-order" <;> simp
  room := Nat.zero_lt_succ _
  few := Nat.zero_lt_succ _
/-- what a set got out of the first i of ks leaves room for one more -/
theorem got_more {ks L : List (Addr × List Int)} {i : Nat} {x : Addr × List Int} (few : Few (ks.map (·.2))) (g : Got ks i L) (nd : (L.map (·.2)).Nodup) (hx : ks[i]? = some x) (new : x.2 ∉ L.map (·.2)) : L.length + 1 < 4096 := by
  have h := few (x.2 :: L.map (·.2)) (List.nodup_cons.mpr ⟨new, nd⟩) fun k hk => by
    rcases List.mem_cons.mp hk with e | hk
    · exact List.mem_map.mpr ⟨x, List.mem_of_getElem? hx, e.symm⟩
    · obtain ⟨q, h1, h2⟩ := List.mem_map.mp hk
      exact List.mem_map.mpr ⟨q, List.mem_of_mem_take (g.sub q h1), h2⟩
  rwa [List.length_cons, List.length_map] at h
/-- the loop that puts all of an iterator's tuples into the set at a -/
theorem fill_loop {I : Addr} {fp wr : List Addr} {G : Array GenState → Array GenState → Prop} {n : Nat} {Pv : Nat → Value → Prop} {St : Nat → Shared → Prop} {R : Result → Shared → Prop}
    (W : WalksS P w A.in1 I fp wr G n Pv St) {a : Addr} (ha : a ∉ fp) {ks : List (Addr × List Int)} (hn : n = ks.length) (few : Few (ks.map (·.2))) (vals : ∀ i v, Pv i v → ∃ q, ks[i]? = some q ∧ v = .ref q.1)
    {old : Heap} (tups : ∀ q ∈ ks, IsT P w old q.2 q.1) (a0 : old.get? a = none) (w0 : ∀ b ∈ wr, old.get? b = none) (hu : A.in1.units < cLine) :
    ∀ (left i : Nat) (s : Shared), n - i = left → i ≤ n → St i s → (∀ b o, old.get? b = some o → s.heap.get? b = some o) → (∃ L es ep t, TS P w s.heap a L es ep t ∧ Got ks i L) →
      (∀ s' L es ep t, Moved (a :: wr) G s s' → TS P w s'.heap a L es ep t → Got ks n L → (∀ b o, old.get? b = some o → s'.heap.get? b = some o) → R (.ok (.ret .none)) s') →
      codeAny (model P w) A (.builtin "set.update.loop" ⟨[.ref a, .ref I], []⟩) R s := by
  have out : a ∉ wr := fun z => ha (W.sub a z)
  have held : ∀ {s s' : Shared}, Moved wr G s s' → (∀ b o, old.get? b = some o → s.heap.get? b = some o) → ∀ b o, old.get? b = some o → s'.heap.get? b = some o := fun m k b o e => by
    refine m.heap b o (fun z => ?_) (k b o e)
    rw [w0 b z] at e
    cases e
  have same : ∀ {s s' : Shared} {L : List (Addr × List Int)} {es : Array (Int × Value)} {ep : Nat} {t : SetTable} {i : Nat}, Moved wr G s s' → Got ks i L → TS P w s.heap a L es ep t → (∀ b o, old.get? b = some o → s'.heap.get? b = some o) → TS P w s'.heap a L es ep t := fun m g S k =>
    S.carry (fun o e => m.heap a o out e) fun q hq => isT_keep (tups q (List.mem_of_mem_take (g.sub q hq))) k
  intro left
  induction left with
  | zero =>
    intro i s e hi st keep ⟨L, es, ep, t, S, g⟩ fin
    obtain rfl : i = n := by omega
    refine codeAny_builtin F.entry_set_update_loop ?_
    rw [Around.under_plainId F.plain_set_update_loop _]
    show wpAny _ A.in1 (pyNext (.ref I) >>= _) _ _ s
    refine wpAny_bind (W.done s _ _ st fun s' m => ?_)
    exact wpAny_pure (fin s' L es ep t (m.mono fun b hb => List.mem_cons_of_mem _ hb) (same m g S (held m keep)) g (held m keep))
  | succ left ih =>
    intro i s e hi st keep ⟨L, es, ep, t, S, g⟩ fin
    have lt : i < n := by omega
    refine codeAny_builtin F.entry_set_update_loop ?_
    rw [Around.under_plainId F.plain_set_update_loop _]
    show wpAny _ A.in1 (pyNext (.ref I) >>= _) _ _ s
    refine wpAny_bind (W.item i s _ _ lt st fun v s1 pv st1 m => ?_)
    obtain ⟨q, hq, rfl⟩ := vals i v pv
    have keep1 := held m keep
    have S1 := same m g S keep1
    have hx : IsT P w s1.heap q.2 q.1 := isT_keep (tups q (List.mem_of_getElem? hq)) keep1
    show wpAny _ A.in1 (holding [Value.ref q.1] (setAdd a (.ref q.1)) >>= _) _ _ s1
    refine wpAny_bind (wpAny_holding ?_)
    unfold setAdd
    refine wpAny_holding (wpAny_bind (wpAny_pyHash_tuple hu hx ?_))
    refine TS.put (s := { s1 with toks := s1.toks + (q.2.length + 1) }) S1 hx hu (fun new => got_more few g S1.nd hq new) fun b h2 L2 es2 ep2 t2 sb S2 c1 c2 => ?_
    have g2 : Got ks (i + 1) L2 := by
      by_cases c : q.2 ∈ L.map (·.2)
      · rw [c1 c]; exact g.same hq c
      · exact g.more hq (c2 c)
    have other : ∀ b o, b ≠ a → s1.heap.get? b = some o → h2.get? b = some o := fun b o hb e => (sb.2 b hb).trans e
    have keep2 : ∀ b o, old.get? b = some o → h2.get? b = some o := fun b o e => other b o (fun z => by rw [z, a0] at e; cases e) (keep1 b o e)
    refine wpAny_pure ⟨plainId_quiet F.plain_set_update_loop _, ih (i + 1) _ (by omega) lt (W.frame _ s1 _ _ st1 (Nat.le_add_right _ _) fun b hb o e => other b o (fun z => ha (z ▸ hb)) e) keep2 ⟨L2, es2, ep2, t2, S2, g2⟩ fun s3 L3 es3 ep3 t3 m3 S3 g3 keep3 => ?_⟩
    refine fin s3 L3 es3 ep3 t3 (Moved.trans W.gtrans ((m.mono fun b hb => List.mem_cons_of_mem _ hb).then_heap (Nat.le_add_right _ _) fun b o hb e => ?_) m3) S3 g3 keep3
    exact other b o (fun z => hb (z ▸ List.mem_cons_self)) e

set_option maxHeartbeats 3200000 in
/-- SET(XS) -/
theorem make_set {l : Addr} {items : Array Value} (ks : List (Addr × List Int)) {Q : Value → Shared → Prop} (calm : A.handled = none) (hl : s.heap.IsList l items) (it : items.toList = ks.map fun q => Value.ref q.1)
    (tups : ∀ q ∈ ks, IsT P w s.heap q.2 q.1) (few : Few (ks.map (·.2))) (hu : A.units + 3 < cLine)
    (next : ∀ (h' : Heap) (tk : Nat) L es ep t, TS P w h' s.heap.objs.size L es ep t → Got ks ks.length L → (∀ b o, s.heap.get? b = some o → h'.get? b = some o) → Q (.ref s.heap.objs.size) { s with heap := h', toks := tk }) :
    wpAny (model P w) A (call (.type "set") [.ref l]) Q E s := by
  have isz : items.size = ks.length := by rw [← Array.length_toList, it, List.length_map]
  obtain ⟨c, tl, m1⟩ := F.called_set.mro
  have m2 := F.called_set.made
  have m3 := F.called_set.sub
  have m4 := F.called_set.notType
  have m5 := F.called_set.canCreate
  have m6 := F.typeCall_set_1 (.ref l)
  refine wpAny_call (codeAny_of_tree ?_)
  show wpAny _ _ (callAny (.type "set") _) _ _ _
  refine wpAny_pure ⟨Code.quiet_builtin _ (by decide +kernel), codeAny_builtin F.entry_type_call ?_⟩
  rw [Around.under_plain (weight_type_call_type "set" [.ref l] []) rfl]
  repeat (any_goals (first | assumption | wp_step))
  refine codeAny_mono (code_set_led1 (.ref l) (E := E) (Q₁ := fun v s' => v = .ref s.heap.objs.size ∧ s' = { s with heap := s.heap.push (bare w) }) ⟨rfl, rfl⟩) fun r s' hr => ?_
  match r, hr with
  | .error e, hr => exact hr
  | .ok .next, hr => exact hr.elim
  | .ok .brk, hr => exact hr.elim
  | .ok .cont, hr => exact hr.elim
  | .ok (.ret v), hr =>
    obtain ⟨rfl, rfl⟩ := hr
    have n0 : (s.heap.push (bare w)).get? s.heap.objs.size = some (bare w) := Heap.get?_push_size _ rfl
    have n1 : Shared.TypeIs { s with heap := s.heap.push (bare w) } (.ref s.heap.objs.size) "set" := ⟨_, n0, rfl⟩
    have n2 := F.called_set.init.lookup
    have n3 := F.called_set.init.bind (.ref s.heap.objs.size)
    repeat (any_goals (first | assumption | wp_step))
    refine codeAny_mono (codeAny_call_builtin (R := wants (fun r s₂ => r = .none ∧ ∃ h' tk L es ep t, s₂ = { s with heap := h', toks := tk } ∧ TS P w h' s.heap.objs.size L es ep t ∧ Got ks ks.length L ∧
        (∀ b o, s.heap.get? b = some o → h'.get? b = some o)) E) F.called_set.init.plain F.entry_set_init (check_set_init_1 n1 ?_)) fun r₂ s₂ hr₂ => ?_
    · obtain ⟨⟨lc, ld, ldt, lsl⟩, l1, l2, ln, l3⟩ := hl
      simp only at l2 l3
      subst l2
      subst l3
      have l4 : (s.heap.push (bare w)).get? l = some { cls := .type "list", dict := ld, data := .seq items ln, slots := lsl } := Heap.get?_push_of_some _ l1
      have l5 : (s.heap.push (bare w)).IsList l items := ⟨_, l4, rfl, ln, rfl⟩
      have k1 := F.sub_list_set
      have k2 := F.sub_list_frozenset
      have k3 : (Value.type "list" == Value.type "dict") = false := by decide
      unfold Builtin.«set.__init__» noKeywords Builtin.Frozenset.updateFrom
      generalize hIter : pyIter = walkOver
      wp_walk
      subst hIter
      refine wpAny_pyIter_list l5 (wpAny_bind (wpAny_runValue ?_))
      have below_ : l < s.heap.objs.size := Heap.lt_size l1
      have psz : (s.heap.push (bare w)).objs.size = s.heap.objs.size + 1 := Heap.size_push ..
      have calm3 : A.in1.in1.in1.handled = none := by simp [calm]
      have gone : ∀ b, s.heap.objs.size ≤ b → s.heap.get? b = none := fun b hb => by
        cases q : s.heap.get? b with
        | none => rfl
        | some o => exact absurd (Nat.lt_of_lt_of_le (Heap.lt_size q) hb) (Nat.lt_irrefl _)
      refine fill_loop ((Walks.list calm3 (s.heap.push (bare w)).objs.size l (by rw [psz]; exact Nat.ne_of_lt (Nat.lt_succ_of_lt below_)) items).toS) (a := s.heap.objs.size) (fun hm => ?_) isz few (fun i v hv => ?_) tups (gone _ (Nat.le_refl _)) (fun b hb => ?_) hu
        (items.size - 0) 0 _ rfl (Nat.zero_le _) ⟨⟨_, Heap.get?_push_size _ rfl, rfl, rfl⟩, l5.push _⟩ (fun b o e => Heap.get?_push_of_some _ (Heap.get?_push_of_some _ e)) ⟨[], #[], 0, _, TS.none (Heap.get?_push_of_some _ n0), Got.zero ks⟩ fun s3 L es ep t mv S g kp => ?_
      · rw [psz] at hm
        rcases List.mem_cons.mp hm with z | z
        · exact absurd z (Nat.ne_of_lt (Nat.lt_succ_self _))
        · exact absurd (List.mem_singleton.mp z) (Nat.ne_of_gt below_)
      · have hv' : items.toList[i]? = some v := by rw [Array.getElem?_toList]; exact hv
        rw [it, List.getElem?_map] at hv'
        obtain ⟨q, h1, h2⟩ := Option.map_eq_some_iff.mp hv'
        exact ⟨q, h1, h2.symm⟩
      · rw [List.mem_singleton.mp hb, psz]
        exact gone _ (Nat.le_succ _)
      · rw [isz] at g
        obtain ⟨h3, g3, d3, t3, o3⟩ := s3
        obtain rfl : g3 = s.gens := mv.gens
        obtain rfl : d3 = s.drawn := mv.drawn
        obtain rfl : o3 = s.os := mv.os
        exact wpAny_pure (wpAny_pure ⟨rfl, h3, t3, L, es, ep, t, rfl, S, g, kp⟩)
    · match r₂, hr₂ with
      | .error e, hr₂ => exact hr₂
      | .ok .next, hr₂ => exact hr₂.elim
      | .ok .brk, hr₂ => exact hr₂.elim
      | .ok .cont, hr₂ => exact hr₂.elim
      | .ok (.ret v), hr₂ =>
        obtain ⟨rfl, h', tk, L, es, ep, t, rfl, S, g, kp⟩ := hr₂
        repeat (any_goals (first | assumption | wp_step))
        exact next _ _ _ _ _ _ S g kp
end
end Cv
/-! CvSort: sorted(s), s such a set: a new list, strictly ascending. The two rules for the layer: set(xs), sorted(s). -/
namespace Cv
open PySem PySem.Spec PyProof.Rows L2
/-- a tuple of whole numbers, as data -/
abbrev tup_ (k : List Int) : PyData := .tuple (k.map .int)
theorem dataLe_tups {β : Type} (x : β → List Int) : PySem.W.dataLe false (fun b => tup_ (x b)) = fun p q => decide (x p ≤ x q) := by
  funext p q
  show (!PySem.W.dataLt (tup_ (x q)) (tup_ (x p))) = decide (x p ≤ x q)
  rw [PySem.W.dataLt_tuple]
  show (!PySem.W.rowLt ((x q).map .int) ((x p).map .int)) = decide (x p ≤ x q)
  rw [PySem.W.dataLt_ints]
  by_cases c : x q < x p
  · have no : ¬ x p ≤ x q := fun z => List.not_lt.mpr z c
    rw [decide_eq_true c, decide_eq_false no]; rfl
  · have yes : x p ≤ x q := List.not_lt.mp c
    rw [decide_eq_false c, decide_eq_true yes]; rfl
theorem alike_tups (k k' : List Int) : PySem.W.alike (tup_ k) (tup_ k') = true := by
  show PySem.W.alikeAll (k.map .int) (k'.map .int) = true
  exact PySem.W.alike_ints k k'
theorem lt_of_le_ne {a b : List Int} (h : a ≤ b) (ne : a ≠ b) : a < b :=
  Classical.byContradiction fun c => ne (List.le_antisymm h (List.not_lt.mp c))
theorem reads_ints {h : Heap} : ∀ {vs : List Value} {k : List Int}, IntsAre vs k → ReadsAll h vs (k.map .int) []
  | _, _, .nil => .nil
  | _, _, .cons n t r => .cons (as := []) (bs := []) (.int n t) (reads_ints r)
section
variable {P : Program} {w : World} {A : Around} {E : Value → Shared → Prop} {s : Shared}
theorem reads_tup {h : Heap} {k : List Int} {b : Addr} (x : IsT P w h k b) : Reads h (.ref b) (tup_ k) [] := by
  obtain ⟨o, items, n, ho, hc, hd, hi⟩ := x
  exact .tuple ho hc hd (reads_ints (ints_of_items hi))
theorem each_refs {R : Value → Addr × List Int → Prop} : ∀ {vs : List Value} {L : List (Addr × List Int)}, vs = L.map (fun q => Value.ref q.1) → (∀ q ∈ L, R (.ref q.1) q) → PySem.W.EachIs R vs L
  | _, [], e, _ => by subst e; exact .nil
  | _, q :: L, e, h => by subst e; exact .cons (h q List.mem_cons_self) (each_refs rfl fun r hr => h r (List.mem_cons_of_mem _ hr))
theorem refs_each : ∀ {vs : List Value} {L : List (Addr × List Int)}, PySem.W.EachIs (fun v (q : Addr × List Int) => v = Value.ref q.1) vs L → vs = L.map fun q => Value.ref q.1
  | _, _, .nil => rfl
  | _, _, .cons e t => by rw [e, refs_each t]; rfl
/-- a rearrangement of the addresses is one of the pairs -/
theorem pairs_of {L : List (Addr × List Int)} : ∀ {vs : List Value}, vs.Perm (L.map fun q => Value.ref q.1) → ∃ L1 : List (Addr × List Int), vs = L1.map (fun q => Value.ref q.1) ∧ L1.Perm L := by
  have key : ∀ {vs us : List Value}, vs.Perm us → ∀ L : List (Addr × List Int), us = L.map (fun q => Value.ref q.1) → ∃ L1 : List (Addr × List Int), vs = L1.map (fun q => Value.ref q.1) ∧ L1.Perm L := by
    intro vs us p
    induction p with
    | nil => exact fun L e => ⟨[], rfl, by rw [List.map_eq_nil_iff.mp e.symm]⟩
    | @cons v vs us p ih =>
      intro L e
      match L, e with
      | q :: L, e =>
        injection e with e1 e2
        obtain ⟨L1, h1, h2⟩ := ih L e2
        exact ⟨q :: L1, by rw [List.map_cons, ← h1, e1], h2.cons q⟩
    | @swap v u vs =>
      intro L e
      match L, e with
      | q :: r :: L, e =>
        injection e with e1 e
        injection e with e2 e3
        subst e1
        subst e2
        subst e3
        exact ⟨r :: q :: L, rfl, List.Perm.swap ..⟩
    | @trans l1 l2 l3 p1 p2 ih1 ih2 =>
      intro L e
      obtain ⟨L2, h1, h2⟩ := ih2 L e
      obtain ⟨L1, h3, h4⟩ := ih1 L2 h1
      exact ⟨L1, h3, h4.trans h2⟩
  exact fun {vs} p => key p L rfl
/-- SORTED(S) -/
theorem sort_set {a : Addr} {L : List (Addr × List Int)} {es : Array (Int × Value)} {ep : Nat} {t : SetTable} {Q : Value → Shared → Prop} (S : TS P w s.heap a L es ep t) (calm : A.handled = none) (hu : A.units + 3 < cLine)
    (ne : ∀ q ∈ L, q.2 ≠ [])
    (next : ∀ s' p (out : Array Value) (c : Nat) (L' : List (Addr × List Int)), (∀ b o, s.heap.get? b = some o → s'.heap.get? b = some o) → s'.gens = s.gens → s'.os = s.os → s.heap.objs.size ≤ p →
      s'.heap.get? p = some (seqObj "list" out c) → out.toList = L'.map (fun q => Value.ref q.1) → L'.Perm L → Asc (L'.map (·.2)) → Q (.ref p) s') :
    wpAny (model P w) A (call (.builtin "sorted") [.ref a]) Q E s := by
  obtain ⟨ob, o1, o2, o3⟩ := S.obj
  have few := S.few
  have esz := S.len
  refine Calls.call_function_entry kind_sorted plain_sorted entry_sorted (args_sorted1 _) ?_
  unfold Builtin.«sorted»
  refine wpAny_bind (m := checkCount "sorted" 1 1 _) (wpAny_pure ?_)
  refine wpAny_bind (collect_set (A := A.in1) calm ⟨ob, o1, o2.1, o3⟩ S.fit (by unfold scanBound; omega) S.tab.ris S.led.symm fun s1 vs k1 z1 g1 u1 pm => ?_)
  have vals : es.toList.map (·.2) = L.map fun q => Value.ref q.1 := by
    rw [S.ents]
    unfold rowsOf
    rw [List.map_map]; rfl
  rw [vals] at pm
  obtain ⟨L1, hvs, p1⟩ := pairs_of pm
  refine wpAny_bind (wpAny_newList ?_ (by rw [hvs, List.length_map, p1.length_eq, sizeLine_eq]; omega))
  have new : (s1.heap.push (seqObj "list" vs.toArray 0)).get? s1.heap.objs.size = some (seqObj "list" vs.toArray 0) := Heap.get?_push_size _ rfl
  have tups : ∀ q ∈ L1, IsT P w (s1.heap.push (seqObj "list" vs.toArray 0)) q.2 q.1 := fun q hq => isT_keep (S.tups q (p1.mem_iff.mp hq)) fun b u e => Heap.get?_push_of_some _ (k1 b u e)
  refine wpAny_bind (wpAny_holding (PySem.W.list_sort_data (s := { s1 with heap := s1.heap.push (seqObj "list" vs.toArray 0) }) (enc := fun q : Addr × List Int => tup_ q.2) (bs := L1) (R := fun v q => v = Value.ref q.1) new
    (each_refs hvs fun q _ => rfl) (each_refs hvs fun q hq => ⟨[], reads_tup (tups q hq), by simp⟩) ?_ ?_ (by rw [p1.length_eq, sizeLine_eq]; omega) ?_ fun out len each => ?_))
  · intro d hd d' hd'
    obtain ⟨q, _, rfl⟩ := List.mem_map.mp hd
    obtain ⟨q', _, rfl⟩ := List.mem_map.mp hd'
    exact alike_tups q.2 q'.2
  · refine .inl fun d hd => ?_
    obtain ⟨q, hq, rfl⟩ := List.mem_map.mp hd
    obtain ⟨x, r, e⟩ := List.exists_cons_of_ne_nil (ne q (p1.mem_iff.mp hq))
    exact ⟨.int x, r.map .int, by rw [e]; rfl⟩
  · intro q hq
    have d0 : (tup_ q.2).depth ≤ 1 := by
      show (PyData.tuple (q.2.map .int)).depth ≤ 1
      rw [PyData.depth, PySem.W.depth_ints]
      omega
    show A.in1.units + 1 + (tup_ q.2).depth < cLine
    have : A.in1.units = A.units + 1 := rfl
    omega
  · rw [dataLe_tups] at each
    have p2 : (L1.mergeSort fun p q => decide (p.2 ≤ q.2)).Perm L1 := List.mergeSort_perm _ _
    have asc : (L1.mergeSort fun p q => decide (p.2 ≤ q.2)).Pairwise fun p q => decide (p.2 ≤ q.2) = true :=
      List.pairwise_mergeSort (le := fun p q : Addr × List Int => decide (p.2 ≤ q.2)) (fun x y z h1 h2 => decide_eq_true (List.le_trans (of_decide_eq_true h1) (of_decide_eq_true h2))) (fun x y => by
        rcases List.le_total x.2 y.2 with z | z
        · show (decide (x.2 ≤ y.2) || decide (y.2 ≤ x.2)) = true
          rw [decide_eq_true z, Bool.true_or]
        · show (decide (x.2 ≤ y.2) || decide (y.2 ≤ x.2)) = true
          rw [decide_eq_true z, Bool.or_true]) L1
    generalize (L1.mergeSort fun p q => decide (p.2 ≤ q.2)) = L2 at p2 asc each
    have nd : (L2.map (·.2)).Nodup := ((p2.trans p1).map (·.2)).nodup_iff.mpr S.nd
    obtain ⟨c, hc⟩ := sortedHeap_at (out := out.toArray) new
    refine wpAny_pure ⟨_, rfl, next _ s1.heap.objs.size out.toArray c L2 (fun b u e => ?_) g1 u1 z1 hc (refs_each each) (p2.trans p1) ?_⟩
    · have e1 := k1 b u e
      have lt := Heap.lt_size e1
      show (sortedHeap (s1.heap.push (seqObj "list" vs.toArray 0)) s1.heap.objs.size vs out.toArray).get? b = some u
      rw [sortedHeap_old (Nat.ne_of_lt lt) (by rw [size_push']; exact Nat.lt_succ_of_lt lt)]
      exact Heap.get?_push_of_some _ e1
    · have both := (List.pairwise_map.mp nd).and asc
      exact List.pairwise_map.mpr (both.imp fun h => lt_of_le_ne (of_decide_eq_true h.2) h.1)
end
end Cv
/-! CvRule: set(xs) and sorted(s) as rules of the hand layer. -/
namespace Cv
open PySem PySem.Spec PyProof.Rows L2
/-- the set at a, the tuples themselves told elsewhere -/
def T0 (P : Program) (w : World) (h : Heap) (a : Addr) (L : List (Addr × List Int)) : Prop :=
  ∃ (es : Array (Int × Value)) (ep : Nat) (t : SetTable), ∀ h' : Heap, (∀ o, h.get? a = some o → h'.get? a = some o) → (∀ q ∈ L, IsT P w h' q.2 q.1) → TS P w h' a L es ep t
def SetO (P : Program) (w : World) (a : Addr) (L : List (Addr × List Int)) : HO := .ext fun h => (∃ o, h.get? a = some o) ∧ T0 P w h a L
section
variable {P : Program} {w : World}
theorem TS.t0 {h : Heap} {a : Addr} {L : List (Addr × List Int)} {es : Array (Int × Value)} {ep : Nat} {t : SetTable} (S : TS P w h a L es ep t) : T0 P w h a L :=
  ⟨es, ep, t, fun _ k ht => S.carry k ht⟩
theorem setO_ok {H : Hp} {h : Heap} {a : Addr} {L : List (Addr × List Int)} {es : Array (Int × Value)} {ep : Nat} {t : SetTable} (S : TS P w h a L es ep t) : ObjOk P w H h a (SetO P w a L) := by
  obtain ⟨ob, o1, _⟩ := S.obj
  refine ⟨⟨⟨ob, o1⟩, S.t0⟩, ⟨ob, o1⟩, fun h1 h2 ⟨⟨o, e⟩, es', ep', t', f⟩ k => ⟨⟨o, k o e⟩, es', ep', t', fun h' k' ht => f h' (fun u z => k' u (k u z)) ht⟩⟩
end
section
variable {X : Cx}
/-- set(xs) -/
def rSet (K : PySem.W.Frag) (P : Program) (w : World) : List V → Hp → VK → Prop := fun xs H Q => ∃ (l : Addr) (ks : List (Addr × List Int)), xs = [V.ref l] ∧ SqL K H l (ks.map fun q => V.ref q.1) ∧ (∀ q ∈ ks, SqT K H q.1 (q.2.map V.int)) ∧ Few (ks.map (·.2)) ∧
  ∀ a L, H a = none → (∀ q ∈ L, q ∈ ks) → (∀ q ∈ ks, q.2 ∈ L.map (·.2)) → Q (.ref a) (upd H a (SetO P w a L))
theorem cr_set (calm : X.calm = true) (hu : X.A.units + 64 < cLine) : CallR X (.type "set") (rSet X.K X.prog X.w) := by
  intro pins s σ H xs us Q I r h
  obtain ⟨l, ks, rfl, hl, hk, few, next⟩ := h
  obtain ⟨its, rv, pl, _⟩ := I.list hl
  rw [Vals.ref1 r]
  refine make_set (P := X.prog) (w := X.w) ks (I.ok.hd calm) pl.isList (by simpa using refs_of_vals rv) (fun q hq => I.isT (hk q hq)) few (by omega) fun h' tk L es ep t S g k => ?_
  have fresh : H s.heap.objs.size = none := I.hok.fresh (Nat.le_refl _)
  refine ⟨.ref s.heap.objs.size, upd H s.heap.objs.size (SetO X.prog X.w s.heap.objs.size L), I.laid (t' := tk) k (Nat.le_refl _) (setO_ok S), rfl, next _ L fresh (fun q hq => List.mem_of_mem_take (g.sub q hq)) fun q hq => g.all q ?_⟩
  rw [List.take_length]
  exact hq
/-- sorted(s) -/
def rSort (K : PySem.W.Frag) (P : Program) (w : World) : List V → Hp → VK → Prop := fun vs H Q => ∃ (a : Addr) (L : List (Addr × List Int)), vs = [V.ref a] ∧ H a = some (SetO P w a L) ∧ (∀ q ∈ L, SqT K H q.1 (q.2.map V.int)) ∧ (∀ q ∈ L, q.2 ≠ []) ∧
  ∀ (L' : List (Addr × List Int)) (p : Addr), L'.Perm L → Asc (L'.map (·.2)) → H p = none → Q (.ref p) (upd H p (.lst (L'.map fun q => V.ref q.1)))
theorem cr_sort (calm : X.calm = true) (hu : X.A.units + 64 < cLine) : CallR X (.builtin "sorted") (rSort X.K X.prog X.w) := by
  intro pins s σ H vs us Q I r h
  obtain ⟨a, L, rfl, ha, hk, ne, next⟩ := h
  obtain ⟨_, es, ep, t, full⟩ := (I.hok a _ ha).1
  have S := full s.heap (fun _ e => e) fun q hq => I.isT (hk q hq)
  rw [Vals.ref1 r]
  refine sort_set S (I.ok.hd calm) (by omega) ne fun s' p out c L' k g o hp hg hout pm asc => ?_
  have free : H p = none := I.hok.fresh hp
  have small : L.length ≤ sizeLine := by
    have := S.few
    rw [sizeLine_eq]
    omega
  have good : ObjOk X.prog X.w (upd H p (.lst (L'.map fun q => V.ref q.1))) s'.heap p (.lst (L'.map fun q => V.ref q.1)) :=
    ⟨by rw [List.length_map, pm.length_eq]; exact small, out.toList, c, by rw [hout]; exact vals_of_refs L', hg⟩
  have J := I.call' (s' := s') (ch := []) o (Un.laid k hp free) (I.hok.laid k hp good) (by rw [g]; exact I.bare) (fun _ z => nomatch z)
  exact ⟨.ref p, _, J, rfl, next L' p pm asc free⟩
end
end Cv
/-! CvBase: the text by places; tuples and lists of tuples in the heap. -/
namespace Cv
open PySem PySem.Spec PyProof.Rows L2
def topS (i : Nat) : Stmt := PySem.Challenge.pw_covernets_k07_whole_complements_are_inve.main.body.getD i (.Pass ⟨0, 0, 0, 0⟩)
abbrev sCovers : Stmt := topS 1
abbrev sBasis : Stmt := topS 2
abbrev sJoin : Stmt := topS 3
abbrev sMeet : Stmt := topS 4
abbrev sWithin : Stmt := topS 7
abbrev sFrame : Stmt := topS 8
abbrev sLesser : Stmt := topS 9
abbrev sLmeet : Stmt := topS 10
abbrev sFmeet : Stmt := topS 11
abbrev sSingle : Stmt := topS 13
abbrev sCclosed : Stmt := topS 14
abbrev sCframe : Stmt := topS 15
abbrev sCell : Stmt := topS 17
abbrev sDraws : Stmt := topS 18
abbrev sTake : Stmt := topS 19
abbrev sMarking : Stmt := topS 20
abbrev sMarkings : Stmt := topS 21
abbrev sLimit : Stmt := topS 22
abbrev sLimits : Stmt := topS 23
abbrev sLaw : Stmt := topS 24

/-! ### heaps -/
theorem same_new {H : Hp} {p : Addr} {o : HO} (h : H p = none) : Same H (upd H p o) := fun b x e => by
  rw [upd_ne (ne_of_none e h)]
  exact e
theorem same_tup {K : PySem.W.Frag} {H H' : Hp} {a : Addr} {xs : List V} (e : Same H H') : SqT K H a xs → SqT K H' a xs
  | .inl (.inl here) => .inl (.inl (e _ _ here))
  | .inl (.inr ⟨o, locked⟩) => .inl (.inr ⟨o, e _ _ locked⟩)
  | .inr written => .inr written
/-- a new object is changed: what stood before it stays -/
theorem same_put {H H1 : Hp} {p : Addr} {o : HO} (n : H p = none) (s : Same H H1) : Same H (upd H1 p o) := fun b x e => by
  rw [upd_ne (ne_of_none e n)]
  exact s b x e
abbrev Tup (K : PySem.W.Frag) (H : Hp) (a : Addr) (x : T) : Prop := SqT K H a (x.map V.int)
/-- a list of tuples of whole numbers -/
def Tups (K : PySem.W.Frag) (H : Hp) (a : Addr) (ks : List (Addr × List Int)) : Prop := SqL K H a (ks.map fun q => V.ref q.1) ∧ ∀ q ∈ ks, Tup K H q.1 q.2
def TL (K : PySem.W.Frag) (H : Hp) (a : Addr) (L : List T) : Prop := ∃ ks : List (Addr × List Int), Tups K H a ks ∧ ks.map (·.2) = L
theorem Tups.same {K : PySem.W.Frag} {H H' : Hp} {a : Addr} {ks : List (Addr × List Int)} (e : Same H H') (h : Tups K H a ks) : Tups K H' a ks := ⟨e.seq h.1, fun q hq => same_tup e (h.2 q hq)⟩
theorem TL.same {K : PySem.W.Frag} {H H' : Hp} {a : Addr} {L : List T} (e : Same H H') (h : TL K H a L) : TL K H' a L :=
  let ⟨ks, h1, h2⟩ := h
  ⟨ks, h1.same e, h2⟩
theorem small62 {n : Nat} (h : n ≤ 1000000000) : (-(2 ^ 62) : Int) ≤ ((n : Nat) : Int) ∧ ((n : Nat) : Int) < 2 ^ 62 := by
  have : ((n : Nat) : Int) ≤ 1000000000 := by omega
  have e : (2 : Int) ^ 62 = 4611686018427387904 := by decide
  rw [e]
  omega
theorem at_tup {x : T} {i : Nat} (h : i < x.length) : atI (x.map V.int) ((0 : Int) + (i : Int)) = some (.int x[i]) := by
  rw [Int.zero_add]
  exact atI_nat (by rw [List.getElem?_map, List.getElem?_eq_getElem h]; rfl)
theorem getElem?_at {x : T} {i : Nat} (h : i < x.length) : x[i]? = some x[i] := List.getElem?_eq_getElem h
/-- all but what stands at o is as it was -/
def But (o : Addr) (H H' : Hp) : Prop := ∀ b u, b ≠ o → H b = some u → H' b = some u
theorem But.refl (o : Addr) (H : Hp) : But o H H := fun _ _ _ e => e
theorem But.same {o : Addr} {H H1 H2 : Hp} (h : But o H H1) (s : Same H1 H2) : But o H H2 := fun b u ne e => s b u (h b u ne e)
theorem But.put {o : Addr} {H H1 : Hp} {u : HO} (h : But o H H1) : But o H (upd H1 o u) := fun b z ne e => by
  rw [upd_ne ne]
  exact h b z ne e
theorem But.all {o : Addr} {H0 H H' : Hp} (h : But o H H') (s : Same H0 H) (n : H0 o = none) : Same H0 H' := fun b u e => h b u (ne_of_none e n) (s b u e)
/-- a tuple is no list that may be changed -/
theorem But.tup {K : PySem.W.Frag} {o t : Addr} {H H' : Hp} {xs ys : List V} (h : But o H H') (ho : H o = some (.lst ys)) (q : SqT K H t xs) : SqT K H' t xs := by
  rcases q with (q | ⟨u, q⟩) | q
  · exact .inl (.inl (h t _ (ne_of q ho (fun z => by cases z)) q))
  · exact .inl (.inr ⟨u, h t _ (ne_of q ho (fun z => by cases z)) q⟩)
  · exact .inr q
theorem But.seq {K : PySem.W.Frag} {o p : Addr} {H H' : Hp} {xs : List V} (h : But o H H') (ne : p ≠ o) (q : SqL K H p xs) : SqL K H' p xs := by
  rcases q with (q | ⟨u, q⟩) | q
  · exact .inl (.inl (h p _ ne q))
  · exact .inl (.inr ⟨u, h p _ ne q⟩)
  · exact .inr q
theorem But.tups {K : PySem.W.Frag} {o p : Addr} {H H' : Hp} {ys : List V} {ks : List (Addr × List Int)} (h : But o H H') (ho : H o = some (.lst ys)) (ne : p ≠ o) (q : Tups K H p ks) : Tups K H' p ks := ⟨h.seq ne q.1, fun z hz => h.tup ho (q.2 z hz)⟩
theorem refs_len {ks : List (Addr × List Int)} : (ks.map fun q => V.ref q.1).length = ks.length := List.length_map _
abbrev refs (ks : List (Addr × List Int)) : List V := ks.map fun q => V.ref q.1
abbrev keys (ks : List (Addr × List Int)) : List T := ks.map fun q => q.2
/-- such a list, tracked -/
def NewT (K : PySem.W.Frag) (H : Hp) (p : Addr) (ks : List (Addr × List Int)) : Prop := H p = some (.lst (refs ks)) ∧ ∀ q ∈ ks, Tup K H q.1 q.2
theorem NewT.tups {K : PySem.W.Frag} {H : Hp} {p : Addr} {ks : List (Addr × List Int)} (h : NewT K H p ks) : Tups K H p ks := ⟨.inl (.inl h.1), h.2⟩
theorem NewT.same {K : PySem.W.Frag} {H H' : Hp} {p : Addr} {ks : List (Addr × List Int)} (e : Same H H') (h : NewT K H p ks) : NewT K H' p ks := ⟨e _ _ h.1, fun q hq => same_tup e (h.2 q hq)⟩
theorem But.newt {K : PySem.W.Frag} {o p : Addr} {H H' : Hp} {ys : List V} {ks : List (Addr × List Int)} (h : But o H H') (ho : H o = some (.lst ys)) (ne : p ≠ o) (q : NewT K H p ks) : NewT K H' p ks := ⟨h p _ ne q.1, fun z hz => h.tup ho (q.2 z hz)⟩
theorem map_at {α β : Type} {f : α → β} {l : List α} {i : Nat} (h : i < l.length) : (l.map f)[i]? = some (f l[i]) := by
  rw [List.getElem?_map, List.getElem?_eq_getElem h]; rfl
end Cv
/-! CvW1: covers, within -/
namespace Cv
open PySem PySem.Spec PyProof.Rows L2
theorem scCovers : FnScope ["first", "second", "k"] ["first", "second"] (defScope sCovers) := ⟨rfl, rfl, rfl, by decide +kernel, rfl, by decide +kernel, by decide +kernel⟩
section
variable {P : Program} {w : World} {K : PySem.W.Frag} {mg : Str → Option Value} {base : Heap}
def spCovers (K : PySem.W.Frag) : Sp := fun vs H Q _ => ∃ (a b : Addr) (x y : T), vs = [.ref a, .ref b] ∧ Tup K H a x ∧ Tup K H b y ∧ x.length = y.length ∧ x.length ≤ 4 ∧
  ∀ r : Bool, (r = true ↔ ∀ (j : Nat) (u v : Int), x[j]? = some u → y[j]? = some v → v ≤ u) → Q (.bl r) H
theorem ok_covers {f : Addr} {fd : FuncData} {k : Nat} (F : Fun K "covers" "covers" sCovers f fd) (mr : mg "range" = none) (ml : mg "len" = none) : FnOk P w K mg base CX0 (k + 1) f fd ["first", "second"] (spCovers K) := by
  refine F.ok scCovers (fun vs H Q E h => ?_) (fun cdv A outer s H vs Q E hr h => ?_)
  · obtain ⟨a, b, x, y, rfl, _⟩ := h
    rfl
  · obtain ⟨a, b, x, y, rfl, hx, hy, hl, h4, q⟩ := h
    refine ⟨_, pss_cons (ps_for PassesOwn.never rfl (pi_range1 rfl mr (pa_cons (pe_callB call_len_seq (by rfl) ml PySem.boot_len (pa_cons (pv 0) pa_nil)) pa_nil)) (pg_name (i := 2) scCovers.nd rfl (.inl rfl))
        (pss_one (ps_if (pt_cmpR op_lt (pe_ix ix_tup (pv 0) (pv 2) (fun _ _ => rfl)) (pe_ix ix_tup (pv 1) (pv 2) (fun _ _ => rfl)) (nomark _)) (pss_one (ps_ret pe_bl)) pss_nil)))
      (pss_one (ps_ret pe_bl)), ?_⟩
    refine ⟨.ref a, rfl, a, _, rfl, .inr hx, _, rfl, (small62 (by rw [List.length_map]; omega)).1, (small62 (by rw [List.length_map]; omega)).2, ?_⟩
    rw [Int.toNat_natCast, List.length_map]
    refine for_range (lo := 0) (n := x.length) (fun i σ H' => ∃ z, σ = [some (.ref a), some (.ref b), z] ∧ H' = H ∧ ∀ (j : Nat) (u v : Int), j < i → x[j]? = some u → y[j]? = some v → v ≤ u) ⟨none, rfl, rfl, fun j u v hj => absurd hj (Nat.not_lt_zero j)⟩ (fun i σ H' hi hP => ?_) (fun σ H' hP => ?_)
    · obtain ⟨z, rfl, rfl, hP⟩ := hP
      refine ⟨.ref a, rfl, .int (0 + (i : Int)), rfl, a, _, _, _, rfl, rfl, hx, at_tup hi, .ref b, rfl, .int (0 + (i : Int)), rfl, b, _, _, _, rfl, rfl, hy, at_tup (by omega), _, _, rfl, rfl, _, rfl, ite2 (fun e => ?_) (fun e => ?_)⟩
      · refine q false ⟨fun z => (Bool.noConfusion z), fun all => ?_⟩
        have := all i _ _ (getElem?_at hi) (getElem?_at (by omega))
        have := of_decide_eq_true e
        omega
      · refine ⟨_, rfl, rfl, fun j u v hj hu hv => ?_⟩
        rcases Nat.lt_or_eq_of_le (Nat.le_of_lt_succ hj) with c | c
        · exact hP j u v c hu hv
        · subst c
          rw [getElem?_at hi] at hu
          rw [getElem?_at (by omega)] at hv
          cases hu
          cases hv
          have : ¬ x[j] < y[j] := fun z => e (decide_eq_true z)
          omega
    · obtain ⟨z, rfl, rfl, hP⟩ := hP
      exact q true ⟨fun _ j u v hu hv => hP j u v (List.getElem?_eq_some_iff.mp hu).1 hu hv, fun _ => rfl⟩
end
end Cv
/-! CvW2: within, lesser, single -/
namespace Cv
open PySem PySem.Spec PyProof.Rows L2
theorem scWithin : FnScope ["first", "second", "k"] ["first", "second"] (defScope sWithin) := ⟨rfl, rfl, rfl, by decide +kernel, rfl, by decide +kernel, by decide +kernel⟩
section
variable {P : Program} {w : World} {K : PySem.W.Frag} {mg : Str → Option Value} {base : Heap}
def spWithin (K : PySem.W.Frag) : Sp := fun vs H Q _ => ∃ (a b : Addr) (x y : T), vs = [.ref a, .ref b] ∧ Tup K H a x ∧ Tup K H b y ∧ x.length = y.length ∧ x.length ≤ 4 ∧ Q (.bl (leT x y)) H
theorem int_dec (u v : Int) : decide (V.int u = V.int v) = decide (u = v) := by
  by_cases c : u = v
  · rw [c, decide_eq_true rfl, decide_eq_true rfl]
  · rw [decide_eq_false c, decide_eq_false (fun z => c (V.int.inj z))]
theorem ok_within {f : Addr} {fd : FuncData} {k : Nat} {tk : Tok} (F : Fun K "within" "within" sWithin f fd) (mr : mg "range" = none) (ml : mg "len" = none) (mA : mg "ANY" = some (.int (-1) tk)) : FnOk P w K mg base CX0 (k + 1) f fd ["first", "second"] (spWithin K) := by
  refine F.ok scWithin (fun vs H Q E h => ?_) (fun cdv A outer s H vs Q E hr h => ?_)
  · obtain ⟨a, b, x, y, rfl, _⟩ := h
    rfl
  · obtain ⟨a, b, x, y, rfl, hx, hy, hl, h4, q⟩ := h
    refine ⟨_, pss_cons (ps_for PassesOwn.never rfl (pi_range1 rfl mr (pa_cons (pe_callB call_len_seq (by rfl) ml PySem.boot_len (pa_cons (pv 0) pa_nil)) pa_nil)) (pg_name (i := 2) scWithin.nd rfl (.inl rfl))
        (pss_one (ps_if (PW.pt (pw_and (pt_cmpR op_ne (pe_ix ix_tup (pv 1) (pv 2) (fun _ _ => rfl)) (pe_glob (v := .int (-1)) rfl mA ⟨_, rfl⟩) (nomark _))
            (pw_and1 (PW.pt (pw_or (pt_cmpR op_eq (pe_ix ix_tup (pv 0) (pv 2) (fun _ _ => rfl)) (pe_glob (v := .int (-1)) rfl mA ⟨_, rfl⟩) (nomark _))
              (pw_or1 (pt_cmpR op_gt (pe_ix ix_tup (pv 0) (pv 2) (fun _ _ => rfl)) (pe_ix ix_tup (pv 1) (pv 2) (fun _ _ => rfl)) (nomark _))))))))
          (pss_one (ps_ret pe_bl)) pss_nil)))
      (pss_one (ps_ret pe_bl)), ?_⟩
    refine ⟨.ref a, rfl, a, _, rfl, .inr hx, _, rfl, (small62 (by rw [List.length_map]; omega)).1, (small62 (by rw [List.length_map]; omega)).2, ?_⟩
    rw [Int.toNat_natCast, List.length_map]
    refine for_range (lo := 0) (n := x.length) (fun i σ H' => ∃ z, σ = [some (.ref a), some (.ref b), z] ∧ H' = H ∧ ∀ (j : Nat) (u v : Int), j < i → x[j]? = some u → y[j]? = some v → le1 u v = true) ⟨none, rfl, rfl, fun j u v hj => absurd hj (Nat.not_lt_zero j)⟩ (fun i σ H' hi hP => ?_) (fun σ H' hP => ?_)
    · obtain ⟨z, rfl, rfl, hP⟩ := hP
      have hi2 : i < y.length := by omega
      have good : le1 x[i] y[i] = true → ∀ (j : Nat) (u v : Int), j < i + 1 → x[j]? = some u → y[j]? = some v → le1 u v = true := fun g j u v hj hu hv => by
        rcases Nat.lt_or_eq_of_le (Nat.le_of_lt_succ hj) with c | c
        · exact hP j u v c hu hv
        · subst c
          rw [getElem?_at hi] at hu
          rw [getElem?_at hi2] at hv
          cases hu
          cases hv
          exact g
      have bad : le1 x[i] y[i] = false → leT x y = false := fun g => by
        cases e : leT x y with
        | false => rfl
        | true => rw [leT_iff.mp e i _ _ (getElem?_at hi) (getElem?_at hi2)] at g; cases g
      refine ⟨.ref b, rfl, .int (0 + (i : Int)), rfl, b, _, _, _, rfl, rfl, hy, at_tup hi2, rfl, _, rfl, ?_⟩
      rw [int_dec]
      refine ite2 (fun e => ?_) (fun e => ?_)
      · refine ⟨.ref a, rfl, .int (0 + (i : Int)), rfl, a, _, _, _, rfl, rfl, hx, at_tup hi, rfl, _, rfl, ?_⟩
        rw [int_dec]
        have e1 : y[i] ≠ -1 := by simpa using e
        refine ite2 (fun e2 => ?_) (fun e2 => ?_)
        · have e2' : x[i] = -1 := of_decide_eq_true e2
          rw [bad (by unfold le1; simp [e1, e2'])] at q
          exact iteT q
        · have e2' : x[i] ≠ -1 := fun z => e2 (decide_eq_true z)
          refine ⟨.ref a, rfl, .int (0 + (i : Int)), rfl, a, _, _, _, rfl, rfl, hx, at_tup hi, .ref b, rfl, .int (0 + (i : Int)), rfl, b, _, _, _, rfl, rfl, hy, at_tup hi2, _, _, rfl, rfl, _, rfl, ite2 (fun e3 => ?_) (fun e3 => ?_)⟩
          · have e3' : x[i] > y[i] := of_decide_eq_true e3
            rw [bad (by unfold le1; simp [e1, e2']; omega)] at q
            exact q
          · have e3' : ¬ x[i] > y[i] := fun z => e3 (decide_eq_true z)
            exact ⟨_, rfl, rfl, good (le1_iff.mpr (.inr ⟨e2', by omega⟩))⟩
      · have e1 : y[i] = -1 := by simpa using e
        exact iteF ⟨_, rfl, rfl, good (le1_iff.mpr (.inl e1))⟩
    · obtain ⟨z, rfl, rfl, hP⟩ := hP
      rw [leT_iff.mpr fun j u v hu hv => hP j u v (List.getElem?_eq_some_iff.mp hu).1 hu hv] at q
      exact q
theorem scLesser : FnScope ["first", "second"] ["first", "second"] (defScope sLesser) := ⟨rfl, rfl, rfl, by decide +kernel, rfl, by decide +kernel, by decide +kernel⟩
def spLesser : Sp := fun vs H Q _ => ∃ x y : Int, vs = [.int x, .int y] ∧ Q (.int (ls1 x y)) H
theorem ok_lesser {f : Addr} {fd : FuncData} {k : Nat} {tk : Tok} (F : Fun K "lesser" "lesser" sLesser f fd) (mm : mg "min" = none) (mA : mg "ANY" = some (.int (-1) tk)) : FnOk P w K mg base CX0 (k + 1) f fd ["first", "second"] spLesser := by
  refine F.ok scLesser (fun vs H Q E h => ?_) (fun cdv A outer s H vs Q E hr h => ?_)
  · obtain ⟨x, y, rfl, _⟩ := h
    rfl
  · obtain ⟨x, y, rfl, q⟩ := h
    refine ⟨_, pss_cons (ps_if (pt_cmpR op_eq (pv 0) (pe_glob (v := .int (-1)) rfl mA ⟨_, rfl⟩) (nomark _)) (pss_one (ps_ret (pv 1))) pss_nil)
      (pss_cons (ps_if (pt_cmpR op_eq (pv 1) (pe_glob (v := .int (-1)) rfl mA ⟨_, rfl⟩) (nomark _)) (pss_one (ps_ret (pv 0))) pss_nil)
      (pss_one (ps_ret (pe_callB (call_min2 rfl) (by rfl) mm (by decide +kernel) (pa_cons (pv 0) (pa_cons (pv 1) pa_nil)))))), ?_⟩
    unfold ls1 at q
    refine ⟨.int x, rfl, rfl, _, rfl, ?_⟩
    rw [int_dec]
    refine ite2 (fun e => ?_) (fun e => ?_)
    · rw [if_pos (of_decide_eq_true e)] at q
      exact ⟨_, rfl, q⟩
    · rw [if_neg (fun z => e (decide_eq_true z))] at q
      refine ⟨.int y, rfl, rfl, _, rfl, ?_⟩
      rw [int_dec]
      refine ite2 (fun e2 => ?_) (fun e2 => ?_)
      · rw [if_pos (of_decide_eq_true e2)] at q
        exact ⟨_, rfl, q⟩
      · rw [if_neg (fun z => e2 (decide_eq_true z))] at q
        exact ⟨_, rfl, _, rfl, _, _, rfl, q⟩
end
end Cv
/-! CvData: tuples and lists of tuples as data, for == and != -/
namespace Cv
open PySem PySem.Spec PyProof.Rows L2
theorem lay_ints : ∀ x : T, PyData.canLayAll0 (x.map .int) = true
  | [] => by simp [PyData.canLayAll0]
  | u :: x => by
    show PyData.canLayAll0 (.int u :: x.map .int) = true
    rw [PyData.canLayAll0, lay_ints x]
    simp [PyData.canLay0]
theorem lay_tup (x : T) : (tup_ x).canLay0 = true := by
  show (PyData.tuple (x.map .int)).canLay0 = true
  rw [PyData.canLay0]
  exact lay_ints x
theorem depth_tup (x : T) : (tup_ x).depth = 1 := by
  show (PyData.tuple (x.map .int)).depth = 1
  rw [PyData.depth, PySem.W.depth_ints]
theorem shaped_tup (x : T) : SeqAt.shaped (tup_ x) = true := by
  unfold SeqAt.shaped
  rw [lay_tup, depth_tup]
  decide
theorem lay_tups : ∀ L : List T, PyData.canLayAll0 (L.map tup_) = true
  | [] => by simp [PyData.canLayAll0]
  | x :: L => by
    show PyData.canLayAll0 (tup_ x :: L.map tup_) = true
    rw [PyData.canLayAll0, lay_tup, lay_tups L]; rfl
theorem depth_tups : ∀ L : List T, PyData.depthAll (L.map tup_) ≤ 1
  | [] => by simp [PyData.depthAll]
  | x :: L => by
    show PyData.depthAll (tup_ x :: L.map tup_) ≤ 1
    rw [PyData.depthAll, depth_tup]
    exact Nat.max_le.mpr ⟨Nat.le_refl 1, depth_tups L⟩
theorem lay_list (L : List T) : (PyData.list (L.map tup_)).canLay0 = true := by
  rw [PyData.canLay0]
  exact lay_tups L
theorem shaped_list (L : List T) : SeqAt.shaped (.list (L.map tup_)) = true := by
  unfold SeqAt.shaped
  rw [lay_list, Bool.true_and, decide_eq_true_eq, PyData.depth]
  have := depth_tups L
  omega
theorem eqv_ints : ∀ x y : T, PyData.eqvAll (x.map .int) (y.map .int) = decide (x = y)
  | [], [] => by simp [PyData.eqvAll]
  | [], _ :: _ => by simp [PyData.eqvAll]
  | _ :: _, [] => by simp [PyData.eqvAll]
  | u :: x, v :: y => by
    show PyData.eqvAll (.int u :: x.map .int) (.int v :: y.map .int) = decide (u :: x = v :: y)
    rw [PyData.eqvAll, eqv_ints x y]
    by_cases h : u = v
    · simp [h, PyData.eqv]
    · simp [h, PyData.eqv]
theorem eqv_tup (x y : T) : PyData.eqv (tup_ x) (tup_ y) = decide (x = y) := by
  show PyData.eqv (.tuple (x.map .int)) (.tuple (y.map .int)) = decide (x = y)
  rw [PyData.eqv]
  exact eqv_ints x y
theorem eqv_list (L : List T) : PyData.eqv (.list (L.map tup_)) (.list (L.map tup_)) = true := SeqAt.eqv_refl _ (lay_list L)
section
variable {K : PySem.W.Frag} {H : Hp} {a : Addr}
theorem dp_ints : ∀ x : T, DpAll K H (x.map V.int) (x.map .int)
  | [] => .nil
  | u :: x => .cons (.int u) (dp_ints x)
theorem dp_tup {x : T} (h : Tup K H a x) : Dp K H (.ref a) (tup_ x) := .tup h (dp_ints x)
theorem dp_tups : ∀ {ks : List (Addr × List Int)}, (∀ q ∈ ks, Tup K H q.1 q.2) → DpAll K H (refs ks) ((keys ks).map tup_)
  | [], _ => .nil
  | q :: ks, h => .cons (dp_tup (h q List.mem_cons_self)) (dp_tups fun r hr => h r (List.mem_cons_of_mem _ hr))
theorem dp_list {ks : List (Addr × List Int)} (h : Tups K H a ks) : Dp K H (.ref a) (.list ((keys ks).map tup_)) := .lst h.1 (dp_tups h.2)
end
end Cv
/-! CvW3: join, limit_meet, single -/
namespace Cv
open PySem PySem.Spec PyProof.Rows L2
theorem scJoin : FnScope ["first", "second", "k"] ["first", "second"] (defScope sJoin) := ⟨rfl, rfl, rfl, by decide +kernel, rfl, by decide +kernel, by decide +kernel⟩
theorem scLmeet : FnScope ["first", "second", "k"] ["first", "second"] (defScope sLmeet) := ⟨rfl, rfl, rfl, by decide +kernel, rfl, by decide +kernel, by decide +kernel⟩
theorem scSingle : FnScope ["size", "place", "number", "rest", "found"] ["size", "place", "number", "rest"] (defScope sSingle) := ⟨rfl, rfl, rfl, by decide +kernel, rfl, by decide +kernel, by decide +kernel⟩
theorem zip_take {f : Int → Int → Int} {x y : T} {i : Nat} (h1 : i < x.length) (h2 : i < y.length) : (List.zipWith f x y).take (i + 1) = (List.zipWith f x y).take i ++ [f x[i] y[i]] := by
  refine take_at ?_
  rw [List.getElem?_zipWith, List.getElem?_eq_getElem h1, List.getElem?_eq_getElem h2]
section
variable {P : Program} {w : World} {K : PySem.W.Frag} {mg : Str → Option Value} {base : Heap}
/-- two tuples of one length: a new one, by places -/
def spZip (f : Int → Int → Int) (K : PySem.W.Frag) : Sp := fun vs H Q _ => ∃ (a b : Addr) (x y : T), vs = [.ref a, .ref b] ∧ Tup K H a x ∧ Tup K H b y ∧ x.length = y.length ∧ x.length ≤ 4 ∧
  ∀ H' t, Same H H' → Tup K H' t (List.zipWith f x y) → Q (.ref t) H'
theorem small4 {n : Nat} (h : n ≤ 4) : n < sizeLine := Nat.lt_of_le_of_lt h (by decide)
theorem ok_join {f : Addr} {fd : FuncData} {k : Nat} (F : Fun K "join" "join" sJoin f fd) (mr : mg "range" = none) (ml : mg "len" = none) (mm : mg "max" = none) (mt : mg "tuple" = none) : FnOk P w K mg base CX0 (k + 1) f fd ["first", "second"] (spZip mx1 K) := by
  refine F.ok scJoin (fun vs H Q E h => ?_) (fun cdv A outer s H vs Q E hr h => ?_)
  · obtain ⟨a, b, x, y, rfl, _⟩ := h
    rfl
  · obtain ⟨a, b, x, y, rfl, hx, hy, hl, h4, q⟩ := h
    refine ⟨_, pss_one (ps_ret (pe_callTy call_tuple_of (by rfl) mt (by decide +kernel) (pa_cons
      (pe_lc (own := [("k", 2)]) (g := gName 2) (tt := tYes) rfl scJoin.nd (pi_range1 rfl mr (pa_cons (pe_callB call_len_seq (by rfl) ml PySem.boot_len (pa_cons (pv 0) pa_nil)) pa_nil))
        (blkOk_by (N := ["first", "second", "k"]) (sc := defScope sJoin) (by decide +kernel)) (fun _ _ _ _ _ => pg_name (i := 2) scJoin.nd rfl (Or.inl rfl)) (fun _ _ _ _ _ => pts_nil)
        (fun _ _ _ _ _ => pe_callB (call_max2 rfl) (by rfl) mm (by decide +kernel) (pa_cons (pe_ix (show IxR _ (rIxT K) from ix_tup) (pv 0) (pv 2) (fun _ _ => rfl)) (pa_cons (pe_ix (show IxR _ (rIxT K) from ix_tup) (pv 1) (pv 2) (fun _ _ => rfl)) pa_nil)))) pa_nil))), ?_⟩
    refine ⟨.ref a, rfl, a, _, rfl, .inr hx, _, rfl, (small62 (by rw [List.length_map]; omega)).1, (small62 (by rw [List.length_map]; omega)).2, fun D nD => ?_⟩
    rw [Int.toNat_natCast, List.length_map]
    refine lc_range (lo := 0) (n := x.length) (fun i H' => But D (upd H D (.lst [])) H' ∧ H' D = some (.lst (((List.zipWith mx1 x y).take i).map V.int))) ⟨But.refl _ _, by rw [upd_same]; rfl⟩ (fun i H' hi hP => ?_) (fun H' hP => ?_)
    · obtain ⟨hB, hD⟩ := hP
      have s1 : Same H H' := fun b u e => hB b u (ne_of_none e nD) (same_new nD b u e)
      have hi2 : i < y.length := by omega
      refine ⟨rfl, .ref a, rfl, .int (0 + (i : Int)), rfl, a, _, _, _, rfl, rfl, same_tup s1 hx, at_tup hi, .ref b, rfl, .int (0 + (i : Int)), rfl, b, _, _, _, rfl, rfl, same_tup s1 hy, at_tup hi2, _, _, rfl, _, hD, ?_, hB.put, ?_⟩
      · rw [List.length_map, List.length_take]
        exact small4 (Nat.le_trans (Nat.min_le_left _ _) (by omega))
      · rw [upd_same, zip_take hi hi2, List.map_append]
        rfl
    · obtain ⟨hB, hD⟩ := hP
      have s1 : Same H H' := fun b u e => hB b u (ne_of_none e nD) (same_new nD b u e)
      have full : (List.zipWith mx1 x y).take x.length = List.zipWith mx1 x y := List.take_of_length_le (by rw [List.length_zipWith]; omega)
      rw [full] at hD
      exact ⟨D, _, rfl, .inl ⟨.inl (.inl hD), fun t nt => q _ t (s1.trans (same_new nt)) (.inl (.inl upd_same))⟩⟩
end
end Cv
namespace Cv
open PySem PySem.Spec PyProof.Rows L2
section
variable {P : Program} {w : World} {K : PySem.W.Frag} {mg : Str → Option Value} {base : Heap}
theorem ok_lmeet {f f1 : Addr} {fd fd1 : FuncData} {k : Nat} (F : Fun K "limit_meet" "limit_meet" sLmeet f fd) (F1 : Fun K "lesser" "lesser" sLesser f1 fd1) (b1 : Binds K fd1 ["first", "second"] []) (g1 : mg "lesser" = some (.ref f1))
    (G1 : FnOk P w K mg base CX0 k f1 fd1 ["first", "second"] spLesser) (mr : mg "range" = none) (ml : mg "len" = none) (mt : mg "tuple" = none) : FnOk P w K mg base CX0 (k + 1) f fd ["first", "second"] (spZip ls1 K) := by
  refine F.ok scLmeet (fun vs H Q E h => ?_) (fun cdv A outer s H vs Q E hr h => ?_)
  · obtain ⟨a, b, x, y, rfl, _⟩ := h
    rfl
  · obtain ⟨a, b, x, y, rfl, hx, hy, hl, h4, q⟩ := h
    refine ⟨_, pss_one (ps_ret (pe_callTy call_tuple_of (by rfl) mt (by decide +kernel) (pa_cons
      (pe_lc (own := [("k", 2)]) (g := gName 2) (tt := tYes) rfl scLmeet.nd (pi_range1 rfl mr (pa_cons (pe_callB call_len_seq (by rfl) ml PySem.boot_len (pa_cons (pv 0) pa_nil)) pa_nil))
        (blkOk_by (N := ["first", "second", "k"]) (sc := defScope sLmeet) (by decide +kernel)) (fun _ _ _ _ _ => pg_name (i := 2) scLmeet.nd rfl (Or.inl rfl)) (fun _ _ _ _ _ => pts_nil)
        (fun _ _ _ _ _ => pe_call G1 hr (by rfl) g1 F1.kp b1 .nil pass0 (pa_cons (pe_ix (show IxR _ (rIxT K) from ix_tup) (pv 0) (pv 2) (fun _ _ => rfl)) (pa_cons (pe_ix (show IxR _ (rIxT K) from ix_tup) (pv 1) (pv 2) (fun _ _ => rfl)) pa_nil)))) pa_nil))), ?_⟩
    refine ⟨.ref a, rfl, a, _, rfl, .inr hx, _, rfl, (small62 (by rw [List.length_map]; omega)).1, (small62 (by rw [List.length_map]; omega)).2, fun D nD => ?_⟩
    rw [Int.toNat_natCast, List.length_map]
    refine lc_range (lo := 0) (n := x.length) (fun i H' => But D (upd H D (.lst [])) H' ∧ H' D = some (.lst (((List.zipWith ls1 x y).take i).map V.int))) ⟨But.refl _ _, by rw [upd_same]; rfl⟩ (fun i H' hi hP => ?_) (fun H' hP => ?_)
    · obtain ⟨hB, hD⟩ := hP
      have s1 : Same H H' := fun b u e => hB b u (ne_of_none e nD) (same_new nD b u e)
      have hi2 : i < y.length := by omega
      refine ⟨rfl, .ref a, rfl, .int (0 + (i : Int)), rfl, a, _, _, _, rfl, rfl, same_tup s1 hx, at_tup hi, .ref b, rfl, .int (0 + (i : Int)), rfl, b, _, _, _, rfl, rfl, same_tup s1 hy, at_tup hi2, _, _, rfl, _, hD, ?_, hB.put, ?_⟩
      · rw [List.length_map, List.length_take]
        exact small4 (Nat.le_trans (Nat.min_le_left _ _) (by omega))
      · rw [upd_same, zip_take hi hi2, List.map_append]
        rfl
    · obtain ⟨hB, hD⟩ := hP
      have s1 : Same H H' := fun b u e => hB b u (ne_of_none e nD) (same_new nD b u e)
      have full : (List.zipWith ls1 x y).take x.length = List.zipWith ls1 x y := List.take_of_length_le (by rw [List.length_zipWith]; omega)
      rw [full] at hD
      exact ⟨D, _, rfl, .inl ⟨.inl (.inl hD), fun t nt => q _ t (s1.trans (same_new nt)) (.inl (.inl upd_same))⟩⟩
/-- found = [rest] * size; found[place] = number; tuple(found) -/
def spSingle (K : PySem.W.Frag) : Sp := fun vs H Q _ => ∃ (n p : Nat) (v r : Int), vs = [.int n, .int p, .int v, .int r] ∧ p < n ∧ n ≤ 4 ∧ ∀ H' t, Same H H' → Tup K H' t (single n p v r) → Q (.ref t) H'
theorem rep_flat (n : Nat) (r : V) : (List.replicate n [r]).flatten = List.replicate n r := by
  induction n with
  | zero => rfl
  | succ n ih => rw [List.replicate_succ, List.flatten_cons, ih]; rfl
theorem ok_single {f : Addr} {fd : FuncData} {k : Nat} (F : Fun K "single" "single" sSingle f fd) (mt : mg "tuple" = none) : FnOk P w K mg base CX0 (k + 1) f fd ["size", "place", "number", "rest"] (spSingle K) := by
  refine F.ok scSingle (fun vs H Q E h => ?_) (fun cdv A outer s H vs Q E hr h => ?_)
  · obtain ⟨n, p, v, r, rfl, _⟩ := h
    rfl
  · obtain ⟨n, p, v, r, rfl, hp, h4, q⟩ := h
    refine ⟨_, pss_cons (ps_set (i := 4) scSingle.nd rfl (.inl rfl) (pe_op op_rep (pe_lst (pa_cons (pv 3) pa_nil)) (pv 0)))
      (pss_cons (ps_asg (pv 2) (pg_sub (pv 4) (pv 1) set_list))
      (pss_one (ps_ret (pe_callTy call_tuple_of (by rfl) mt (by decide +kernel) (pa_cons (pv 4) pa_nil))))), ?_⟩
    have n63 : (2 : Int) ^ 63 = 9223372036854775808 := by decide
    refine ⟨_, rfl, (by show 1 ≤ sizeLine; decide), fun l nl => ⟨_, rfl, l, _, _, rfl, rfl, upd_same, by rw [n63]; omega, by rw [n63]; omega, ?_, fun o no => ?_⟩⟩
    · rw [Int.toNat_natCast]
      show 1 * n ≤ sizeLine
      rw [Nat.one_mul]
      exact Nat.le_of_lt (small4 h4)
    · rw [Int.toNat_natCast]
      refine ⟨_, rfl, _, rfl, _, rfl, o, _, (p : Int), p, rfl, rfl, upd_same, ?_, _, rfl, o, _, rfl, .inl ⟨.inl (.inl upd_same), fun t nt => ?_⟩⟩
      · rw [rep_flat, List.length_replicate]
        unfold ixN
        rw [if_pos (by omega), if_pos (by omega), Int.toNat_natCast]
      · have no' : H o = none := (same_new nl).free no
        have e : ((List.replicate n [V.int r]).flatten.set p (.int v)) = (single n p v r).map V.int := by
          rw [rep_flat]
          unfold single
          rw [List.map_set, List.map_replicate]
        rw [upd_upd] at nt ⊢
        refine q _ t (fun b u z => ?_) (.inl (.inl ?_))
        · exact same_new nt b u (same_put no' (same_new nl) b u z)
        · rw [upd_same, e]
end
end Cv
/-! CvW4: basis_of -/
namespace Cv
open PySem PySem.Spec PyProof.Rows L2
theorem scBasis : FnScope ["members", "found", "member", "least", "other"] ["members"] (defScope sBasis) := ⟨rfl, rfl, rfl, by decide +kernel, rfl, by decide +kernel, by decide +kernel⟩
/-- what r says, said of leT -/
theorem covers_le {x y : T} (nx : NN x) (ny : NN y) {r : Bool} (h : r = true ↔ ∀ (j : Nat) (u v : Int), x[j]? = some u → y[j]? = some v → v ≤ u) : r = leT y x := by
  have e : leT y x = true ↔ r = true := by
    rw [leT_nn ny nx, h]
    exact ⟨fun z j u v hu hv => z j v u hv hu, fun z j u v hu hv => z j v u hv hu⟩
  cases r <;> cases c : leT y x <;> simp_all
section
variable {P : Program} {w : World} {K : PySem.W.Frag} {mg : Str → Option Value} {base : Heap}
def spBasis (K : PySem.W.Frag) : Sp := fun vs H Q _ => ∃ (a : Addr) (ks : List (Addr × List Int)) (n : Nat), vs = [.ref a] ∧ Tups K H a ks ∧ 1 ≤ n ∧ n ≤ 4 ∧ (∀ q ∈ ks, q.2.length = n ∧ NN q.2) ∧ Few (keys ks) ∧
  ∀ H' p (rs : List (Addr × List Int)), Same H H' → NewT K H' p rs → Bas n (keys ks) (keys rs) → Q (.ref p) H'
theorem ok_basis {f f1 : Addr} {fd fd1 : FuncData} {k j : Nat} (hj : j ≤ k) (F : Fun K "basis_of" "basis_of" sBasis f fd) (F1 : Fun K "covers" "covers" sCovers f1 fd1) (b1 : Binds K fd1 ["first", "second"] []) (g1 : mg "covers" = some (.ref f1))
    (G1 : FnOk P w K mg base CX0 j f1 fd1 ["first", "second"] (spCovers K)) (mo : mg "sorted" = none) (me : mg "set" = none) : FnOk P w K mg base CX0 (k + 1) f fd ["members"] (spBasis K) := by
  refine F.ok scBasis (fun vs H Q E h => ?_) (fun cdv A outer s H vs Q E hr h => ?_)
  · obtain ⟨a, ks, n, rfl, _⟩ := h
    rfl
  · obtain ⟨a, ks, n, rfl, hL, n1, n4, hk, few, q⟩ := h
    refine ⟨_, pss_cons (ps_set (i := 1) scBasis.nd rfl (.inl rfl) (pe_lst pa_nil))
      (pss_cons (ps_for PassesOwn.never rfl (pi_list (pe_callB (cr_sort rfl hr.units) (by rfl) mo PyProof.Rows.boot_sorted (pa_cons (pe_callTy (cr_set rfl hr.units) (by rfl) me (by decide +kernel) (pa_cons (pv 0) pa_nil)) pa_nil))) (pg_name (i := 2) scBasis.nd rfl (.inl rfl))
        (pss_cons (ps_set (i := 3) scBasis.nd rfl (.inl rfl) pe_bl)
        (pss_cons (ps_for PassesOwn.never rfl (pi_list (pv 1)) (pg_name (i := 4) scBasis.nd rfl (.inl rfl))
          (pss_one (ps_set (i := 3) scBasis.nd rfl (.inl rfl) (pe_and (pv 3) (pe_one (pe_not (pe_call G1 (hr.mono hj) (by rfl) g1 F1.kp b1 .nil pass0 (pa_cons (pv 2) (pa_cons (pv 4) pa_nil)))))))))
        (pss_one (ps_if (pt_val (pv 3)) (pss_one (ps_expr (pe_bm PySem.F.plainAttrs_list PySem.F.slot_list_append PySem.F.type_list_append mt_append (pv 1) (pa_cons (pv 2) pa_nil)))) pss_nil)))))
      (pss_one (ps_ret (pv 1)))), ?_⟩
    -- found = []
    refine ⟨Nat.zero_le _, fun o no => ?_⟩
    have s1 : Same H (upd H o (.lst [])) := same_new no
    have hL1 := hL.same s1
    -- sorted(set(members))
    refine ⟨_, rfl, a, ks, rfl, hL1.1, hL1.2, few, fun sa L nsa sub all => ?_⟩
    refine ⟨sa, L, rfl, upd_same, fun z hz => same_tup (same_new nsa) (hL1.2 z (sub z hz)), fun z hz e => ?_, fun L' p pm asc np => ?_⟩
    · have := (hk z (sub z hz)).1
      rw [e] at this
      simp at this
      omega
    generalize hHs : upd (upd H o (.lst [])) sa _ = Hs at np ⊢
    have s2 : Same (upd H o (.lst [])) Hs := hHs ▸ same_new nsa
    have hL2 := hL1.same s2
    generalize hH2 : upd Hs p _ = H2
    have s3 : Same Hs H2 := hH2 ▸ same_new np
    have hL3 := hL2.same s3
    have ho2 : H2 o = some (.lst []) := s3 o _ (s2 o _ upd_same)
    have hp2 : H2 p = some (.lst (refs L')) := by rw [← hH2, upd_same]
    have hpo : p ≠ o := fun e => by
      rw [e] at np
      rw [s2 o _ upd_same] at np
      cases np
    have base_ : Same H H2 := s1.trans (s2.trans s3)
    have subL : ∀ z ∈ L', z ∈ ks := fun z hz => sub z (pm.mem_iff.mp hz)
    have mem : ∀ x, x ∈ keys L' ↔ x ∈ keys ks := fun x => by
      constructor
      · intro hx
        obtain ⟨z, h1, h2⟩ := List.mem_map.mp hx
        exact List.mem_map.mpr ⟨z, subL z h1, h2⟩
      · intro hx
        obtain ⟨z, h1, h2⟩ := List.mem_map.mp hx
        have := all z h1
        rw [h2] at this
        exact (pm.map (·.2)).mem_iff.mpr this
    refine ⟨p, rfl, ⟨_, .inl (.inl hp2)⟩, for_list (xs := refs L') (fun i σ H' => ∃ y2 y3 y4, ∃ R : List (Addr × List Int), σ = [some (.ref a), some (.ref o), y2, y3, y4] ∧ But o H2 H' ∧ H' o = some (.lst (refs R)) ∧ (∀ z ∈ R, z ∈ L') ∧ BasI (keys L') i (keys R))
      ⟨none, none, none, [], rfl, But.refl _ _, ho2, fun z hz => (by cases hz), BasI.zero _⟩ (fun i σ H' _ hP => ?_) (fun i v σ H' hv hP => ?_) (fun σ H' hP => ?_)⟩
    · obtain ⟨y2, y3, y4, R, rfl, hB, hO, _⟩ := hP
      exact hB.seq hpo (.inl (.inl hp2))
    · obtain ⟨y2, y3, y4, R, rfl, hB, hO, hR, hI⟩ := hP
      have hi : i < L'.length := by
        have := (List.getElem?_eq_some_iff.mp hv).1
        rwa [List.length_map] at this
      rw [map_at hi] at hv
      obtain rfl : V.ref L'[i].1 = v := Option.some.inj hv
      generalize hm : L'[i] = m
      have hmL : m ∈ L' := by rw [← hm]; exact List.getElem_mem hi
      have at_i : (keys L')[i]? = some m.2 := by rw [map_at hi, hm]
      have tupOf : ∀ z ∈ L', Tup K H' z.1 z.2 := fun z hz => hB.tup ho2 (hL3.2 z (subL z hz))
      -- least = True; for other in found
      refine ⟨.ref o, rfl, o, rfl, ⟨_, .inl (.inl hO)⟩, for_list (xs := refs R) (fun c σ H3 => ∃ y, σ = [some (.ref a), some (.ref o), some (.ref m.1), some (.bl ((R.take c).all fun z => !leT z.2 m.2)), y] ∧ H3 = H')
        ⟨y4, rfl, rfl⟩ (fun c σ H3 _ hP => ?_) (fun c v σ H3 hv hP => ?_) (fun σ H3 hP => ?_)⟩
      · obtain ⟨y, _, rfl⟩ := hP
        exact .inl (.inl hO)
      · obtain ⟨y, rfl, rfl⟩ := hP
        have hc : c < R.length := by
          have := (List.getElem?_eq_some_iff.mp hv).1
          rwa [List.length_map] at this
        rw [map_at hc] at hv
        obtain rfl : V.ref R[c].1 = v := Option.some.inj hv
        have hz : R[c] ∈ L' := hR _ (List.getElem_mem hc)
        have grow : (R.take (c + 1)).all (fun z => !leT z.2 m.2) = ((R.take c).all (fun z => !leT z.2 m.2) && !leT R[c].2 m.2) := by
          rw [List.take_add_one, List.getElem?_eq_getElem hc, List.all_append]
          simp
        refine ⟨_, rfl, _, rfl, ite2 (fun e => ?_) (fun e => ?_)⟩
        · refine ⟨.ref m.1, rfl, .ref R[c].1, rfl, m.1, R[c].1, m.2, R[c].2, rfl, tupOf m hmL, tupOf _ hz, ?_, ?_, fun r hr => ⟨r, rfl, some (.ref R[c].1), ?_, rfl⟩⟩
          · rw [(hk m (subL m hmL)).1, (hk _ (subL _ hz)).1]
          · rw [(hk m (subL m hmL)).1]
            exact n4
          · rw [grow, e, Bool.true_and, ← covers_le (hk m (subL m hmL)).2 (hk _ (subL _ hz)).2 hr]
            rfl
        · have e' : (R.take c).all (fun z => !leT z.2 m.2) = false := Bool.eq_false_iff.mpr e
          refine ⟨some (.ref R[c].1), ?_, rfl⟩
          rw [grow, e', Bool.false_and]
          rfl
      · obtain ⟨y, rfl, rfl⟩ := hP
        rw [List.length_map, List.take_length]
        have lenL : L'.length < 4096 := by
          have := few (keys L') asc.nodup fun x hx => (mem x).mp hx
          rwa [List.length_map] at this
        have lenR : R.length ≤ L'.length := by
          have := (hI.sub.trans (List.take_sublist _ _)).length_le
          rwa [List.length_map, List.length_map] at this
        refine ⟨_, rfl, _, rfl, ite2 (fun e => ?_) (fun e => ?_)⟩
        · refine ⟨.ref o, rfl, .inl ⟨rfl, _, .inl (.inl hO)⟩, .ref m.1, rfl, o, _, _, rfl, rfl, hO, ?_, ?_⟩
          · rw [List.length_map, sizeLine_eq]
            omega
          · refine ⟨_, _, _, R ++ [m], rfl, hB.put, ?_, fun z hz => ?_, ?_⟩
            · rw [upd_same]
              show some (HO.lst (refs R ++ [V.ref m.1])) = some (.lst ((R ++ [m]).map fun q => V.ref q.1))
              rw [List.map_append]
              rfl
            · rcases List.mem_append.mp hz with z1 | z1
              · exact hR z z1
              · rw [List.mem_singleton.mp z1]; exact hmL
            · show BasI (keys L') (i + 1) ((R ++ [m]).map fun q => q.2)
              rw [List.map_append]
              refine hI.add (n := n) asc (fun l hl => ?_) (fun l hl => ?_) at_i fun l hl => ?_
              · obtain ⟨z, h1, rfl⟩ := List.mem_map.mp hl
                exact (hk z (subL z h1)).1
              · obtain ⟨z, h1, rfl⟩ := List.mem_map.mp hl
                exact (hk z (subL z h1)).2
              · obtain ⟨z, h1, rfl⟩ := List.mem_map.mp hl
                have := List.all_eq_true.mp e z h1
                simpa using this
        · refine ⟨_, _, _, R, rfl, hB, hO, hR, hI.skip at_i ?_⟩
          refine Classical.byContradiction fun no_ => e (List.all_eq_true.mpr fun z hz => ?_)
          cases c : leT z.2 m.2 with
          | false => rfl
          | true => exact absurd ⟨z.2, List.mem_map.mpr ⟨z, hz, rfl⟩, c⟩ no_
    · obtain ⟨y2, y3, y4, R, rfl, hB, hO, hR, hI⟩ := hP
      rw [List.length_map] at hI
      have ok := basis_of_ok (n := n) (ks := keys ks) (s := keys L') (R := keys R) (fun l hl => by
        obtain ⟨z, h1, h2⟩ := List.mem_map.mp hl
        rw [← h2]
        exact (hk z h1).1) asc mem (by rw [List.length_map]; exact hI)
      refine ⟨_, rfl, q H' o R (hB.all base_ no) ⟨hO, fun z hz => ?_⟩ ⟨ok.1, ok.2.1, ok.2.2⟩⟩
      exact hB.tup ho2 (hL3.2 z (subL z (hR z hz)))
end
end Cv
/-! CvW5: frame_of -/
namespace Cv
open PySem PySem.Spec PyProof.Rows L2
theorem scFrame : FnScope ["limits", "found", "limit", "greatest", "other"] ["limits"] (defScope sFrame) := ⟨rfl, rfl, rfl, by decide +kernel, rfl, by decide +kernel, by decide +kernel⟩
/-- is z within no other of ks -/
def topB (ks : List T) (z : T) : Bool := ks.all fun o => !(decide (o ≠ z) && leT z o)
theorem topB_iff {ks : List T} {z : T} : topB ks z = true ↔ Top ks z := by
  unfold topB Top
  rw [List.all_eq_true]
  constructor
  · intro h o ho ne
    have := h o ho
    rw [decide_eq_true ne, Bool.true_and] at this
    simpa using this
  · intro h o ho
    by_cases c : o = z
    · simp [c]
    · rw [h o ho c]
      simp
section
variable {P : Program} {w : World} {K : PySem.W.Frag} {mg : Str → Option Value} {base : Heap}
def spFrame (K : PySem.W.Frag) : Sp := fun vs H Q _ => ∃ (a : Addr) (ks : List (Addr × List Int)) (n : Nat), vs = [.ref a] ∧ Tups K H a ks ∧ 1 ≤ n ∧ n ≤ 4 ∧ (∀ q ∈ ks, q.2.length = n) ∧ Few (keys ks) ∧
  ∀ H' p (rs : List (Addr × List Int)), Same H H' → NewT K H' p rs → Frm n (keys ks) (keys rs) → Q (.ref p) H'
theorem ok_frame {f f1 : Addr} {fd fd1 : FuncData} {k j : Nat} (hj : j ≤ k) (F : Fun K "frame_of" "frame_of" sFrame f fd) (F1 : Fun K "within" "within" sWithin f1 fd1) (b1 : Binds K fd1 ["first", "second"] []) (g1 : mg "within" = some (.ref f1))
    (G1 : FnOk P w K mg base CX0 j f1 fd1 ["first", "second"] (spWithin K)) (mo : mg "sorted" = none) (me : mg "set" = none) : FnOk P w K mg base CX0 (k + 1) f fd ["limits"] (spFrame K) := by
  refine F.ok scFrame (fun vs H Q E h => ?_) (fun cdv A outer s H vs Q E hr h => ?_)
  · obtain ⟨a, ks, n, rfl, _⟩ := h
    rfl
  · obtain ⟨a, ks, n, rfl, hL, n1, n4, hk, few, q⟩ := h
    refine ⟨_, pss_cons (ps_set (i := 1) scFrame.nd rfl (.inl rfl) (pe_lst pa_nil))
      (pss_cons (ps_for PassesOwn.never rfl (pi_list (pe_callB (cr_sort rfl hr.units) (by rfl) mo PyProof.Rows.boot_sorted (pa_cons (pe_callTy (cr_set rfl hr.units) (by rfl) me (by decide +kernel) (pa_cons (pv 0) pa_nil)) pa_nil))) (pg_name (i := 2) scFrame.nd rfl (.inl rfl))
        (pss_cons (ps_set (i := 3) scFrame.nd rfl (.inl rfl) pe_bl)
        (pss_cons (ps_for PassesOwn.never rfl (pi_list (pv 0)) (pg_name (i := 4) scFrame.nd rfl (.inl rfl))
          (pss_one (ps_if (PW.pt (pw_and (pt_cmpR (op_neD hr.units) (pv 4) (pv 2) (nomark _)) (pw_and1 (pt_val (pe_call G1 (hr.mono hj) (by rfl) g1 F1.kp b1 .nil pass0 (pa_cons (pv 2) (pa_cons (pv 4) pa_nil)))))))
            (pss_one (ps_set (i := 3) scFrame.nd rfl (.inl rfl) pe_bl)) pss_nil)))
        (pss_one (ps_if (pt_val (pv 3)) (pss_one (ps_expr (pe_bm PySem.F.plainAttrs_list PySem.F.slot_list_append PySem.F.type_list_append mt_append (pv 1) (pa_cons (pv 2) pa_nil)))) pss_nil)))))
      (pss_one (ps_ret (pv 1)))), ?_⟩
    -- found = []
    refine ⟨Nat.zero_le _, fun o no => ?_⟩
    have s1 : Same H (upd H o (.lst [])) := same_new no
    have hL1 := hL.same s1
    -- sorted(set(limits))
    refine ⟨_, rfl, a, ks, rfl, hL1.1, hL1.2, few, fun sa L nsa sub all => ?_⟩
    refine ⟨sa, L, rfl, upd_same, fun z hz => same_tup (same_new nsa) (hL1.2 z (sub z hz)), fun z hz e => ?_, fun L' p pm asc np => ?_⟩
    · have := hk z (sub z hz)
      rw [e] at this
      simp at this
      omega
    generalize hHs : upd (upd H o (.lst [])) sa _ = Hs at np ⊢
    have s2 : Same (upd H o (.lst [])) Hs := hHs ▸ same_new nsa
    have hL2 := hL1.same s2
    generalize hH2 : upd Hs p _ = H2
    have s3 : Same Hs H2 := hH2 ▸ same_new np
    have hL3 := hL2.same s3
    have ho2 : H2 o = some (.lst []) := s3 o _ (s2 o _ upd_same)
    have hp2 : H2 p = some (.lst (refs L')) := by rw [← hH2, upd_same]
    have hpo : p ≠ o := fun e => by
      rw [e] at np
      rw [s2 o _ upd_same] at np
      cases np
    have base_ : Same H H2 := s1.trans (s2.trans s3)
    have subL : ∀ z ∈ L', z ∈ ks := fun z hz => sub z (pm.mem_iff.mp hz)
    have mem : ∀ x, x ∈ keys L' ↔ x ∈ keys ks := fun x => by
      constructor
      · intro hx
        obtain ⟨z, h1, h2⟩ := List.mem_map.mp hx
        exact List.mem_map.mpr ⟨z, subL z h1, h2⟩
      · intro hx
        obtain ⟨z, h1, h2⟩ := List.mem_map.mp hx
        have := all z h1
        rw [h2] at this
        exact (pm.map (·.2)).mem_iff.mpr this
    have lenL : L'.length < 4096 := by
      have := few (keys L') asc.nodup fun x hx => (mem x).mp hx
      rwa [List.length_map] at this
    refine ⟨p, rfl, ⟨_, .inl (.inl hp2)⟩, for_list (xs := refs L') (fun i σ H' => ∃ y2 y3 y4, σ = [some (.ref a), some (.ref o), y2, y3, y4] ∧ But o H2 H' ∧ H' o = some (.lst (refs ((L'.take i).filter fun z => topB (keys ks) z.2))))
      ⟨none, none, none, rfl, But.refl _ _, ho2⟩ (fun i σ H' _ hP => ?_) (fun i v σ H' hv hP => ?_) (fun σ H' hP => ?_)⟩
    · obtain ⟨y2, y3, y4, rfl, hB, hO⟩ := hP
      exact hB.seq hpo (.inl (.inl hp2))
    · obtain ⟨y2, y3, y4, rfl, hB, hO⟩ := hP
      have hi : i < L'.length := by
        have := (List.getElem?_eq_some_iff.mp hv).1
        rwa [List.length_map] at this
      rw [map_at hi] at hv
      obtain rfl : V.ref L'[i].1 = v := Option.some.inj hv
      have next : (L'.take (i + 1)).filter (fun z => topB (keys ks) z.2) = (L'.take i).filter (fun z => topB (keys ks) z.2) ++ (if topB (keys ks) L'[i].2 = true then [L'[i]] else []) := by
        rw [List.take_add_one, List.getElem?_eq_getElem hi, List.filter_append]
        congr 1
        by_cases c : topB (keys ks) L'[i].2 = true
        · rw [if_pos c]
          exact List.filter_cons_of_pos (by exact c)
        · rw [if_neg c]
          exact List.filter_cons_of_neg (by exact c)
      have hmL : L'[i] ∈ L' := List.getElem_mem hi
      generalize L'[i] = m at next hmL ⊢
      have hA : Tups K H' a ks := hL.same (hB.all base_ no)
      have tupM : Tup K H' m.1 m.2 := hA.2 m (subL m hmL)
      -- greatest = True; for other in limits
      refine ⟨.ref a, rfl, a, rfl, ⟨_, hA.1⟩, for_list (xs := refs ks) (fun c σ H3 => ∃ y, σ = [some (.ref a), some (.ref o), some (.ref m.1), some (.bl (topB (keys (ks.take c)) m.2)), y] ∧ H3 = H')
        ⟨y4, rfl, rfl⟩ (fun c σ H3 _ hP => ?_) (fun c v σ H3 hv hP => ?_) (fun σ H3 hP => ?_)⟩
      · obtain ⟨y, _, rfl⟩ := hP
        exact hA.1
      · obtain ⟨y, rfl, rfl⟩ := hP
        have hc : c < ks.length := by
          have := (List.getElem?_eq_some_iff.mp hv).1
          rwa [List.length_map] at this
        rw [map_at hc] at hv
        obtain rfl : V.ref ks[c].1 = v := Option.some.inj hv
        have hz : ks[c] ∈ ks := List.getElem_mem hc
        have grow : topB (keys (ks.take (c + 1))) m.2 = (topB (keys (ks.take c)) m.2 && !(decide (ks[c].2 ≠ m.2) && leT m.2 ks[c].2)) := by
          unfold topB keys
          rw [List.take_add_one, List.getElem?_eq_getElem hc, List.map_append, List.all_append]
          simp
        generalize ks[c] = z at hz grow ⊢
        refine ⟨.ref z.1, rfl, .ref m.1, rfl, _, _, dp_tup (hA.2 z hz), dp_tup tupM, shaped_tup _, shaped_tup _, _, rfl, ?_⟩
        rw [eqv_tup]
        refine ite2 (fun e => ?_) (fun e => ?_)
        · have ne : z.2 ≠ m.2 := by simpa using e
          rw [decide_eq_true ne, Bool.true_and] at grow
          refine ⟨.ref m.1, rfl, .ref z.1, rfl, m.1, z.1, m.2, z.2, rfl, tupM, hA.2 z hz, by rw [hk m (subL m hmL), hk z hz], by rw [hk m (subL m hmL)]; exact n4, _, rfl, ite2 (fun e2 => ?_) (fun e2 => ?_)⟩
          · rw [e2, Bool.not_true, Bool.and_false] at grow
            refine ⟨some (.ref z.1), ?_, rfl⟩
            rw [grow]
            rfl
          · rw [Bool.eq_false_iff.mpr e2, Bool.not_false, Bool.and_true] at grow
            refine ⟨some (.ref z.1), ?_, rfl⟩
            rw [grow]
            rfl
        · have eq_ : z.2 = m.2 := by simpa using e
          rw [decide_eq_false (fun ne => ne eq_), Bool.false_and, Bool.not_false, Bool.and_true] at grow
          refine ⟨some (.ref z.1), ?_, rfl⟩
          rw [grow]
          rfl
      · obtain ⟨y, rfl, rfl⟩ := hP
        rw [List.length_map, List.take_length]
        refine ⟨_, rfl, _, rfl, ite2 (fun e => ?_) (fun e => ?_)⟩
        · rw [if_pos e] at next
          refine ⟨.ref o, rfl, .inl ⟨rfl, _, .inl (.inl hO)⟩, .ref m.1, rfl, o, _, _, rfl, rfl, hO, ?_, ?_⟩
          · rw [List.length_map, sizeLine_eq]
            have h1 := List.length_filter_le (fun z : Addr × List Int => topB (keys ks) z.2) (L'.take i)
            rw [List.length_take] at h1
            omega
          · refine ⟨_, _, _, rfl, hB.put, ?_⟩
            rw [upd_same, next]
            show some (HO.lst (refs _ ++ [V.ref m.1])) = some (.lst ((_ ++ [m]).map fun q => V.ref q.1))
            rw [List.map_append]
            rfl
        · rw [if_neg e, List.append_nil] at next
          refine ⟨_, _, _, rfl, hB, ?_⟩
          rw [next]
          exact hO
    · obtain ⟨y2, y3, y4, rfl, hB, hO⟩ := hP
      rw [List.length_map, List.take_length] at hO
      have fk : keys (L'.filter fun z => topB (keys ks) z.2) = (keys L').filter (topB (keys ks)) := by
        unfold keys
        rw [List.filter_map]
        rfl
      have ok := frame_of_ok (n := n) (ks := keys ks) (s := keys L') (R := keys (L'.filter fun z => topB (keys ks) z.2)) (fun l hl => by
        obtain ⟨z, h1, h2⟩ := List.mem_map.mp hl
        rw [← h2]
        exact hk z h1) asc mem (by rw [fk]; exact List.filter_sublist) (fun x hx => by
          rw [fk, List.mem_filter, topB_iff]
          exact ⟨fun z => z.2, fun z => ⟨hx, z⟩⟩)
      refine ⟨_, rfl, q H' o _ (hB.all base_ no) ⟨hO, fun z hz => ?_⟩ ⟨ok.1, ok.2.1, ok.2.2⟩⟩
      exact hB.tup ho2 (hL3.2 z (subL z (List.mem_filter.mp hz).1))
end
end Cv
/-! CvW6: meet, frame_meet (printed by gen_meet.py) -/
namespace Cv
open PySem PySem.Spec PyProof.Rows L2
theorem prod_take {f : T → T → T} {A B : List T} {i : Nat} {x : T} (h : A[i]? = some x) : prod f (A.take (i + 1)) B = prod f (A.take i) B ++ B.map (f x) := by
  unfold prod
  rw [take_at h, List.flatMap_append]
  simp
theorem keys_take {ks : List (Addr × List Int)} {i : Nat} : keys (ks.take i) = (keys ks).take i := List.map_take
theorem scMeet : FnScope ["first", "second", "found", "one", "other"] ["first", "second"] (defScope sMeet) := ⟨rfl, rfl, rfl, by decide +kernel, rfl, by decide +kernel, by decide +kernel⟩
section
variable {P : Program} {w : World} {K : PySem.W.Frag} {mg : Str → Option Value} {base : Heap}
def spMeet (K : PySem.W.Frag) : Sp := fun vs H Q _ => ∃ (a b : Addr) (ks ms : List (Addr × List Int)) (n : Nat), vs = [.ref a, .ref b] ∧ Tups K H a ks ∧ Tups K H b ms ∧ 1 ≤ n ∧ n ≤ 4 ∧ (∀ q ∈ ks, q.2.length = n ∧ NN q.2) ∧ (∀ q ∈ ms, q.2.length = n ∧ NN q.2) ∧ ks.length * ms.length ≤ 1000000 ∧ Few (prod jnT (keys ks) (keys ms)) ∧
  ∀ H' p (rs : List (Addr × List Int)), Same H H' → NewT K H' p rs → Bas n (prod jnT (keys ks) (keys ms)) (keys rs) → Q (.ref p) H'
theorem ok_meet {f f1 f2 : Addr} {fd fd1 fd2 : FuncData} {k j1 j2 : Nat} (h1 : j1 ≤ k) (h2 : j2 ≤ k) (F : Fun K "meet" "meet" sMeet f fd) (F1 : Fun K "join" "join" sJoin f1 fd1) (F2 : Fun K "basis_of" "basis_of" sBasis f2 fd2) (b1 : Binds K fd1 ["first", "second"] []) (b2 : Binds K fd2 ["members"] []) (g1 : mg "join" = some (.ref f1)) (g2 : mg "basis_of" = some (.ref f2))
    (G1 : FnOk P w K mg base CX0 j1 f1 fd1 ["first", "second"] (spZip mx1 K)) (G2 : FnOk P w K mg base CX0 j2 f2 fd2 ["members"] (spBasis K)) : FnOk P w K mg base CX0 (k + 1) f fd ["first", "second"] (spMeet K) := by
  refine F.ok scMeet (fun vs H Q E h => ?_) (fun cdv A outer s H vs Q E hr h => ?_)
  · obtain ⟨a, b, ks, ms, n, rfl, _⟩ := h
    rfl
  · obtain ⟨a, b, ks, ms, n, rfl, hA, hB, n1, n4, ha, hb, small, few, q⟩ := h
    refine ⟨_, pss_cons (ps_set (i := 2) scMeet.nd rfl (.inl rfl) (pe_lst pa_nil))
      (pss_cons (ps_for PassesOwn.never rfl (pi_list (pv 0)) (pg_name (i := 3) scMeet.nd rfl (.inl rfl))
        (pss_one (ps_for PassesOwn.never rfl (pi_list (pv 1)) (pg_name (i := 4) scMeet.nd rfl (.inl rfl))
          (pss_one (ps_expr (pe_bm PySem.F.plainAttrs_list PySem.F.slot_list_append PySem.F.type_list_append mt_append (pv 2) (pa_cons (pe_call G1 (hr.mono h1) (by rfl) g1 F1.kp b1 .nil pass0 (pa_cons (pv 3) (pa_cons (pv 4) pa_nil))) pa_nil)))))))
      (pss_one (ps_ret (pe_call G2 (hr.mono h2) (by rfl) g2 F2.kp b2 .nil pass0 (pa_cons (pv 2) pa_nil))))), ?_⟩
    refine ⟨Nat.zero_le _, fun o no => ?_⟩
    have s1 : Same H (upd H o (.lst [])) := same_new no
    have o1 : (upd H o (.lst [])) o = some (.lst []) := upd_same
    generalize upd H o (.lst []) = H1 at s1 o1 ⊢
    have back : ∀ {H'}, But o H1 H' → Same H H' := fun hB => hB.all s1 no
    refine ⟨.ref a, rfl, a, rfl, ⟨_, (hA.same s1).1⟩, for_list (xs := refs ks) (fun i σ H' => ∃ y3 y4, ∃ R : List (Addr × List Int), σ = [some (.ref a), some (.ref b), some (.ref o), y3, y4] ∧ But o H1 H' ∧ H' o = some (.lst (refs R)) ∧ (∀ z ∈ R, Tup K H' z.1 z.2) ∧ keys R = prod jnT (keys (ks.take i)) (keys ms))
      ⟨none, none, [], rfl, But.refl _ _, o1, fun z hz => (by cases hz), rfl⟩ (fun i σ H' _ hP => ?_) (fun i v σ H' hv hP => ?_) (fun σ H' hP => ?_)⟩
    · obtain ⟨y3, y4, R, rfl, hU, _⟩ := hP
      exact (hA.same (back hU)).1
    · obtain ⟨y3, y4, R, rfl, hU, hO, hR, hK⟩ := hP
      have hi : i < ks.length := by
        have := (List.getElem?_eq_some_iff.mp hv).1
        rwa [List.length_map] at this
      rw [map_at hi] at hv
      obtain rfl : V.ref ks[i].1 = v := Option.some.inj hv
      have hx : ks[i] ∈ ks := List.getElem_mem hi
      have next : prod jnT (keys (ks.take (i + 1))) (keys ms) = prod jnT (keys (ks.take i)) (keys ms) ++ (keys ms).map (jnT ks[i].2) := by
        rw [keys_take, keys_take]
        exact prod_take (map_at hi)
      generalize ks[i] = x at hx next ⊢
      refine ⟨.ref b, rfl, b, rfl, ⟨_, (hB.same (back hU)).1⟩, for_list (xs := refs ms) (fun c σ H3 => ∃ y4, ∃ R3 : List (Addr × List Int), σ = [some (.ref a), some (.ref b), some (.ref o), some (.ref x.1), y4] ∧ But o H1 H3 ∧ H3 o = some (.lst (refs R3)) ∧ (∀ z ∈ R3, Tup K H3 z.1 z.2) ∧ keys R3 = prod jnT (keys (ks.take i)) (keys ms) ++ (keys (ms.take c)).map (jnT x.2))
        ⟨y4, R, rfl, hU, hO, hR, by rw [hK]; simp⟩ (fun c σ H3 _ hP => ?_) (fun c v σ H3 hv hP => ?_) (fun σ H3 hP => ?_)⟩
      · obtain ⟨y4, R3, _, hU3, _⟩ := hP
        exact (hB.same (back hU3)).1
      · obtain ⟨y4, R3, rfl, hU3, hO3, hR3, hK3⟩ := hP
        have hc : c < ms.length := by
          have := (List.getElem?_eq_some_iff.mp hv).1
          rwa [List.length_map] at this
        rw [map_at hc] at hv
        obtain rfl : V.ref ms[c].1 = v := Option.some.inj hv
        have hy : ms[c] ∈ ms := List.getElem_mem hc
        have nextc : keys (ms.take (c + 1)) = keys (ms.take c) ++ [ms[c].2] := by
          rw [keys_take, keys_take]
          exact take_at (map_at hc)
        generalize ms[c] = y at hy nextc ⊢
        have len3 : R3.length ≤ 1000000 := by
          have e := congrArg List.length hK3
          rw [List.length_map, List.length_append, prod_len, List.length_map, List.length_map, List.length_map, List.length_map, List.length_take, List.length_take] at e
          have e1 : min i ks.length = i := by omega
          have e2 : min c ms.length = c := by omega
          rw [e1, e2] at e
          have e3 : (i + 1) * ms.length ≤ ks.length * ms.length := Nat.mul_le_mul_right _ hi
          rw [Nat.succ_mul] at e3
          omega
        refine ⟨.ref o, rfl, .inl ⟨rfl, _, .inl (.inl hO3)⟩, .ref x.1, rfl, .ref y.1, rfl, x.1, y.1, x.2, y.2, rfl, (hA.same (back hU3)).2 x hx, (hB.same (back hU3)).2 y hy, ?_, ?_, fun H4 t s4 t4 => ⟨o, _, _, rfl, rfl, s4 o _ hO3, ?_, ?_⟩⟩
        · rw [(ha x hx).1, (hb y hy).1]
        · rw [(ha x hx).1]
          exact n4
        · rw [List.length_map, sizeLine_eq]
          omega
        · have u4 : But o H3 (upd H4 o (.lst (refs R3 ++ [V.ref t]))) := ((But.refl o H3).same s4).put
          refine ⟨_, R3 ++ [(t, jnT x.2 y.2)], rfl, (hU3.same s4).put, ?_, fun z hz => ?_, ?_⟩
          · rw [upd_same]
            show some (HO.lst (refs R3 ++ [V.ref t])) = some (.lst ((R3 ++ [(t, jnT x.2 y.2)]).map fun q => V.ref q.1))
            rw [List.map_append]
            rfl
          · rcases List.mem_append.mp hz with c1 | c1
            · exact u4.tup hO3 (hR3 z c1)
            · rw [List.mem_singleton.mp c1]
              exact ((But.refl o H4).put).tup (s4 o _ hO3) t4
          · show (R3 ++ [(t, jnT x.2 y.2)]).map (fun q => q.2) = _
            rw [List.map_append, nextc, List.map_append, ← List.append_assoc, ← hK3]
            rfl
      · obtain ⟨y4, R3, rfl, hU3, hO3, hR3, hK3⟩ := hP
        rw [List.length_map, List.take_length] at hK3
        exact ⟨_, _, R3, rfl, hU3, hO3, hR3, by rw [hK3, next]⟩
    · obtain ⟨y3, y4, R, rfl, hU, hO, hR, hK⟩ := hP
      rw [List.length_map, List.take_length] at hK
      refine ⟨.ref o, rfl, o, R, n, rfl, ⟨.inl (.inl hO), hR⟩, n1, n4, ?_, by rw [hK]; exact few, fun H3 p rs s3 t3 r3 => ?_⟩
      · intro z hz
        have hm : z.2 ∈ prod jnT (keys ks) (keys ms) := by
          rw [← hK]
          exact List.mem_map.mpr ⟨z, hz, rfl⟩
        refine ⟨len_prod (fun _ _ => jnT_len) (fun l hl => ?_) (fun l hl => ?_) _ hm, nn_jn (fun l hl => ?_) (fun l hl => ?_) _ hm⟩
        · obtain ⟨y, d1, rfl⟩ := List.mem_map.mp hl
          exact (ha y d1).1
        · obtain ⟨y, d1, rfl⟩ := List.mem_map.mp hl
          exact (hb y d1).1
        · obtain ⟨y, d1, rfl⟩ := List.mem_map.mp hl
          exact (ha y d1).2
        · obtain ⟨y, d1, rfl⟩ := List.mem_map.mp hl
          exact (hb y d1).2
      · rw [hK] at r3
        exact q H3 p rs ((back hU).trans s3) t3 r3
end
theorem scFmeet : FnScope ["first", "second", "found", "one", "other"] ["first", "second"] (defScope sFmeet) := ⟨rfl, rfl, rfl, by decide +kernel, rfl, by decide +kernel, by decide +kernel⟩
section
variable {P : Program} {w : World} {K : PySem.W.Frag} {mg : Str → Option Value} {base : Heap}
def spFmeet (K : PySem.W.Frag) : Sp := fun vs H Q _ => ∃ (a b : Addr) (ks ms : List (Addr × List Int)) (n : Nat), vs = [.ref a, .ref b] ∧ Tups K H a ks ∧ Tups K H b ms ∧ 1 ≤ n ∧ n ≤ 4 ∧ (∀ q ∈ ks, q.2.length = n) ∧ (∀ q ∈ ms, q.2.length = n) ∧ ks.length * ms.length ≤ 1000000 ∧ Few (prod lsT (keys ks) (keys ms)) ∧
  ∀ H' p (rs : List (Addr × List Int)), Same H H' → NewT K H' p rs → Frm n (prod lsT (keys ks) (keys ms)) (keys rs) → Q (.ref p) H'
theorem ok_fmeet {f f1 f2 : Addr} {fd fd1 fd2 : FuncData} {k j1 j2 : Nat} (h1 : j1 ≤ k) (h2 : j2 ≤ k) (F : Fun K "frame_meet" "frame_meet" sFmeet f fd) (F1 : Fun K "limit_meet" "limit_meet" sLmeet f1 fd1) (F2 : Fun K "frame_of" "frame_of" sFrame f2 fd2) (b1 : Binds K fd1 ["first", "second"] []) (b2 : Binds K fd2 ["limits"] []) (g1 : mg "limit_meet" = some (.ref f1)) (g2 : mg "frame_of" = some (.ref f2))
    (G1 : FnOk P w K mg base CX0 j1 f1 fd1 ["first", "second"] (spZip ls1 K)) (G2 : FnOk P w K mg base CX0 j2 f2 fd2 ["limits"] (spFrame K)) : FnOk P w K mg base CX0 (k + 1) f fd ["first", "second"] (spFmeet K) := by
  refine F.ok scFmeet (fun vs H Q E h => ?_) (fun cdv A outer s H vs Q E hr h => ?_)
  · obtain ⟨a, b, ks, ms, n, rfl, _⟩ := h
    rfl
  · obtain ⟨a, b, ks, ms, n, rfl, hA, hB, n1, n4, ha, hb, small, few, q⟩ := h
    refine ⟨_, pss_cons (ps_set (i := 2) scFmeet.nd rfl (.inl rfl) (pe_lst pa_nil))
      (pss_cons (ps_for PassesOwn.never rfl (pi_list (pv 0)) (pg_name (i := 3) scFmeet.nd rfl (.inl rfl))
        (pss_one (ps_for PassesOwn.never rfl (pi_list (pv 1)) (pg_name (i := 4) scFmeet.nd rfl (.inl rfl))
          (pss_one (ps_expr (pe_bm PySem.F.plainAttrs_list PySem.F.slot_list_append PySem.F.type_list_append mt_append (pv 2) (pa_cons (pe_call G1 (hr.mono h1) (by rfl) g1 F1.kp b1 .nil pass0 (pa_cons (pv 3) (pa_cons (pv 4) pa_nil))) pa_nil)))))))
      (pss_one (ps_ret (pe_call G2 (hr.mono h2) (by rfl) g2 F2.kp b2 .nil pass0 (pa_cons (pv 2) pa_nil))))), ?_⟩
    refine ⟨Nat.zero_le _, fun o no => ?_⟩
    have s1 : Same H (upd H o (.lst [])) := same_new no
    have o1 : (upd H o (.lst [])) o = some (.lst []) := upd_same
    generalize upd H o (.lst []) = H1 at s1 o1 ⊢
    have back : ∀ {H'}, But o H1 H' → Same H H' := fun hB => hB.all s1 no
    refine ⟨.ref a, rfl, a, rfl, ⟨_, (hA.same s1).1⟩, for_list (xs := refs ks) (fun i σ H' => ∃ y3 y4, ∃ R : List (Addr × List Int), σ = [some (.ref a), some (.ref b), some (.ref o), y3, y4] ∧ But o H1 H' ∧ H' o = some (.lst (refs R)) ∧ (∀ z ∈ R, Tup K H' z.1 z.2) ∧ keys R = prod lsT (keys (ks.take i)) (keys ms))
      ⟨none, none, [], rfl, But.refl _ _, o1, fun z hz => (by cases hz), rfl⟩ (fun i σ H' _ hP => ?_) (fun i v σ H' hv hP => ?_) (fun σ H' hP => ?_)⟩
    · obtain ⟨y3, y4, R, rfl, hU, _⟩ := hP
      exact (hA.same (back hU)).1
    · obtain ⟨y3, y4, R, rfl, hU, hO, hR, hK⟩ := hP
      have hi : i < ks.length := by
        have := (List.getElem?_eq_some_iff.mp hv).1
        rwa [List.length_map] at this
      rw [map_at hi] at hv
      obtain rfl : V.ref ks[i].1 = v := Option.some.inj hv
      have hx : ks[i] ∈ ks := List.getElem_mem hi
      have next : prod lsT (keys (ks.take (i + 1))) (keys ms) = prod lsT (keys (ks.take i)) (keys ms) ++ (keys ms).map (lsT ks[i].2) := by
        rw [keys_take, keys_take]
        exact prod_take (map_at hi)
      generalize ks[i] = x at hx next ⊢
      refine ⟨.ref b, rfl, b, rfl, ⟨_, (hB.same (back hU)).1⟩, for_list (xs := refs ms) (fun c σ H3 => ∃ y4, ∃ R3 : List (Addr × List Int), σ = [some (.ref a), some (.ref b), some (.ref o), some (.ref x.1), y4] ∧ But o H1 H3 ∧ H3 o = some (.lst (refs R3)) ∧ (∀ z ∈ R3, Tup K H3 z.1 z.2) ∧ keys R3 = prod lsT (keys (ks.take i)) (keys ms) ++ (keys (ms.take c)).map (lsT x.2))
        ⟨y4, R, rfl, hU, hO, hR, by rw [hK]; simp⟩ (fun c σ H3 _ hP => ?_) (fun c v σ H3 hv hP => ?_) (fun σ H3 hP => ?_)⟩
      · obtain ⟨y4, R3, _, hU3, _⟩ := hP
        exact (hB.same (back hU3)).1
      · obtain ⟨y4, R3, rfl, hU3, hO3, hR3, hK3⟩ := hP
        have hc : c < ms.length := by
          have := (List.getElem?_eq_some_iff.mp hv).1
          rwa [List.length_map] at this
        rw [map_at hc] at hv
        obtain rfl : V.ref ms[c].1 = v := Option.some.inj hv
        have hy : ms[c] ∈ ms := List.getElem_mem hc
        have nextc : keys (ms.take (c + 1)) = keys (ms.take c) ++ [ms[c].2] := by
          rw [keys_take, keys_take]
          exact take_at (map_at hc)
        generalize ms[c] = y at hy nextc ⊢
        have len3 : R3.length ≤ 1000000 := by
          have e := congrArg List.length hK3
          rw [List.length_map, List.length_append, prod_len, List.length_map, List.length_map, List.length_map, List.length_map, List.length_take, List.length_take] at e
          have e1 : min i ks.length = i := by omega
          have e2 : min c ms.length = c := by omega
          rw [e1, e2] at e
          have e3 : (i + 1) * ms.length ≤ ks.length * ms.length := Nat.mul_le_mul_right _ hi
          rw [Nat.succ_mul] at e3
          omega
        refine ⟨.ref o, rfl, .inl ⟨rfl, _, .inl (.inl hO3)⟩, .ref x.1, rfl, .ref y.1, rfl, x.1, y.1, x.2, y.2, rfl, (hA.same (back hU3)).2 x hx, (hB.same (back hU3)).2 y hy, ?_, ?_, fun H4 t s4 t4 => ⟨o, _, _, rfl, rfl, s4 o _ hO3, ?_, ?_⟩⟩
        · rw [ha x hx, hb y hy]
        · rw [ha x hx]
          exact n4
        · rw [List.length_map, sizeLine_eq]
          omega
        · have u4 : But o H3 (upd H4 o (.lst (refs R3 ++ [V.ref t]))) := ((But.refl o H3).same s4).put
          refine ⟨_, R3 ++ [(t, lsT x.2 y.2)], rfl, (hU3.same s4).put, ?_, fun z hz => ?_, ?_⟩
          · rw [upd_same]
            show some (HO.lst (refs R3 ++ [V.ref t])) = some (.lst ((R3 ++ [(t, lsT x.2 y.2)]).map fun q => V.ref q.1))
            rw [List.map_append]
            rfl
          · rcases List.mem_append.mp hz with c1 | c1
            · exact u4.tup hO3 (hR3 z c1)
            · rw [List.mem_singleton.mp c1]
              exact ((But.refl o H4).put).tup (s4 o _ hO3) t4
          · show (R3 ++ [(t, lsT x.2 y.2)]).map (fun q => q.2) = _
            rw [List.map_append, nextc, List.map_append, ← List.append_assoc, ← hK3]
            rfl
      · obtain ⟨y4, R3, rfl, hU3, hO3, hR3, hK3⟩ := hP
        rw [List.length_map, List.take_length] at hK3
        exact ⟨_, _, R3, rfl, hU3, hO3, hR3, by rw [hK3, next]⟩
    · obtain ⟨y3, y4, R, rfl, hU, hO, hR, hK⟩ := hP
      rw [List.length_map, List.take_length] at hK
      refine ⟨.ref o, rfl, o, R, n, rfl, ⟨.inl (.inl hO), hR⟩, n1, n4, ?_, by rw [hK]; exact few, fun H3 p rs s3 t3 r3 => ?_⟩
      · intro z hz
        have hm : z.2 ∈ prod lsT (keys ks) (keys ms) := by
          rw [← hK]
          exact List.mem_map.mpr ⟨z, hz, rfl⟩
        refine len_prod (fun _ _ => lsT_len) (fun l hl => ?_) (fun l hl => ?_) _ hm
        · obtain ⟨y, d1, rfl⟩ := List.mem_map.mp hl
          exact ha y d1
        · obtain ⟨y, d1, rfl⟩ := List.mem_map.mp hl
          exact hb y d1
      · rw [hK] at r3
        exact q H3 p rs ((back hU).trans s3) t3 r3
end
end Cv
/-! CvRep: tuple * k for k from 1 on: by 1 it is the tuple itself. -/
namespace Cv
open PySem PySem.Spec PyProof.Rows L2
theorem mul_one_walk (l : Addr) (items : Array Value) (n : Nat) (dd : Option Addr) (sl : Array (Option Value)) (u : Tok) :
    Meets (Builtin.«tuple.__mul__» ⟨[.ref l, .int 1 u], []⟩) (fun _ R s => s.heap.get? l = some { cls := .type "tuple", dict := dd, data := .seq items n, slots := sl } ∧ R (.ok (.ret (.ref l))) s) :=
  .of_wp fun prog w A R s h => by
    obtain ⟨hp, g, d, tk, os⟩ := s
    obtain ⟨hl, h⟩ := h
    have index_ok := AutoSeq1.idx_int
    have within_ : (decide ((1 : Int) < -(2 ^ 63)) || decide ((1 : Int) ≥ 2 ^ 63)) = false := by decide
    have one_ : (items.isEmpty || (1 : Int) == 1) = true := by simp
    wp_walk using wpAny_loadPart' hl
    exact ⟨_, rfl, h⟩
/-- a tuple by a number from 1 on -/
def rMul (K : PySem.W.Frag) : R2 := fun x y H Q => ∃ l k xs, x = .ref l ∧ y = .int k ∧ SqT K H l xs ∧ xs ≠ [] ∧ 1 ≤ k ∧ k ≤ 1000 ∧ xs.length ≤ 1000 ∧ (k = 1 → Q (.ref l) H) ∧ (k ≠ 1 → ∀ p, H p = none → Q (.ref p) (upd H p (.tup (List.replicate k.toNat xs).flatten)))
theorem op_mulT {X : Cx} : OpR X (binaryOp .Mult) (rMul X.K) := by
  intro pins s σ H x y v u Q I rx ry h
  obtain ⟨l, k, xs, rfl, rfl, hT, ne, k1, k2, sz, q1, q2⟩ := h
  by_cases c : k = 1
  · subst c
    cases rx
    obtain ⟨t, rfl⟩ := ry
    obtain ⟨its, _, ⟨⟨cl, dd, dt, sl⟩, at_, e1, n, e2⟩, _⟩ := I.tuple hT
    simp only at e1 e2
    subst e1 e2
    have isT : s.TypeIs (.ref l) "tuple" := ⟨_, at_, rfl⟩
    have done : EP X pins σ Q (.ref l) s := ⟨.ref l, H, I, rfl, q1 rfl⟩
    have second : wpAny (model X.prog X.w) X.A (call (.builtin "tuple.__mul__") [.ref l, .int 1 t]) (EP X pins σ Q) X.xe s :=
      call_meets F.slot_tuple_mul isT F.entry_tuple_mul (F.args_tuple_mul_2 _ _) (mul_one_walk l its.toArray n dd sl t) ⟨at_, done⟩
    have first_ : wpAny (model X.prog X.w) X.A (call (.builtin "int.__rmul__") [.int 1 t, .ref l]) (fun r s' => r = .notImplemented ∧ s'.TypeIs (.ref l) "tuple" ∧ wpAny (model X.prog X.w) X.A (call (.builtin "tuple.__mul__") [.ref l, .int 1 t]) (EP X pins σ Q) X.xe s') X.xe s :=
      call_meets F.slot_int_rmul (typeIs_int s 1 t) F.entry_int_rmul (F.args_int_rmul_2 _ _) (int_rmul_tuple 1 t l its.toArray n dd sl) ⟨at_, rfl, isT, second⟩
    exact wpAny_binaryOp_repeat_ref (by decide) isT (fun s' => typeIs_int s' 1 t) noFill_tuple_mul F.fills_int_mul F.slot_int_rmul repeat_tuple F.slot_int_index.lookup first_
  · exact op_repT pins s σ H (.ref l) (.int k) v u Q I rx ry ⟨l, k, xs, rfl, rfl, hT, ne, by omega, k2, sz, q2 c⟩
/-- the same, told once for all numbers -/
def rMulS (K : PySem.W.Frag) : R2 := fun x y H Q => ∃ (l : Addr) (n : Nat) (xs : List V), x = .ref l ∧ y = .int n ∧ SqT K H l xs ∧ xs ≠ [] ∧ 1 ≤ n ∧ n ≤ 1000 ∧ xs.length ≤ 1000 ∧ ∀ H' p, Same H H' → SqT K H' p (List.replicate n xs).flatten → Q (.ref p) H'
theorem op_mulS {X : Cx} : OpR X (binaryOp .Mult) (rMulS X.K) := by
  intro pins s σ H x y v u Q I rx ry h
  obtain ⟨l, n, xs, rfl, rfl, hT, ne, n1, n2, sz, q⟩ := h
  refine op_mulT pins s σ H (.ref l) (.int n) v u Q I rx ry ⟨l, n, xs, rfl, rfl, hT, ne, by omega, by omega, sz, fun e => ?_, fun _ p np => ?_⟩
  · have e1 : n = 1 := by omega
    subst e1
    refine q H l (Same.refl H) ?_
    rw [List.replicate_one, List.flatten_singleton]
    exact hT
  · rw [Int.toNat_natCast]
    exact q _ p (same_new np) (.inl (.inl upd_same))
end Cv
/-! CvW7: complement_closed, complement_frame (printed by gen_comp.py) -/
namespace Cv
open PySem PySem.Spec PyProof.Rows L2
theorem take_keys {ks : List (Addr × List Int)} {i : Nat} (h : i < ks.length) : keys (ks.take (i + 1)) = keys (ks.take i) ++ [ks[i].2] := by
  rw [keys_take, keys_take]
  exact take_at (map_at h)
theorem scCclosed : FnScope ["members", "size", "found", "member", "below", "place"] ["members", "size"] (defScope sCclosed) := ⟨rfl, rfl, rfl, by decide +kernel, rfl, by decide +kernel, by decide +kernel⟩
section
variable {P : Program} {w : World} {K : PySem.W.Frag} {mg : Str → Option Value} {base : Heap}
def spCclosed (K : PySem.W.Frag) : Sp := fun vs H Q _ => ∃ (a : Addr) (ks : List (Addr × List Int)) (n : Nat) (S : List Int), vs = [.ref a, .int n] ∧ Tups K H a ks ∧ 1 ≤ n ∧ n ≤ 4 ∧ S.length ≤ 8 ∧ (-1 : Int) ∈ S ∧ (∀ q ∈ ks, q.2.length = n ∧ NN q.2 ∧ ∀ v ∈ q.2, 0 < v → v - 1 ∈ S) ∧
  ∀ H' p (rs : List (Addr × List Int)), Same H H' → NewT K H' p rs → CC n S (keys ks) (keys rs) → Q (.ref p) H'
theorem ok_cclosed {f f1 f2 : Addr} {fd fd1 fd2 : FuncData} {k j1 j2 : Nat} {tk : Tok} (h1 : j1 ≤ k) (h2 : j2 ≤ k) (F : Fun K "complement_closed" "complement_closed" sCclosed f fd) (F1 : Fun K "single" "single" sSingle f1 fd1) (F2 : Fun K "frame_meet" "frame_meet" sFmeet f2 fd2) (b1 : Binds K fd1 ["size", "place", "number", "rest"] []) (b2 : Binds K fd2 ["first", "second"] []) (g1 : mg "single" = some (.ref f1)) (g2 : mg "frame_meet" = some (.ref f2))
    (G1 : FnOk P w K mg base CX0 j1 f1 fd1 ["size", "place", "number", "rest"] (spSingle K)) (G2 : FnOk P w K mg base CX0 j2 f2 fd2 ["first", "second"] (spFmeet K)) (mr : mg "range" = none) (mA : mg "ANY" = some (.int (-1) tk)) : FnOk P w K mg base CX0 (k + 1) f fd ["members", "size"] (spCclosed K) := by
  refine F.ok scCclosed (fun vs H Q E h => ?_) (fun cdv A outer s H vs Q E hr h => ?_)
  · obtain ⟨a, ks, n, S, rfl, _⟩ := h
    rfl
  · obtain ⟨a, ks, n, S, rfl, hA, n1, n4, hS, hm, hk, q⟩ := h
    refine ⟨_, pss_cons (ps_set (i := 2) scCclosed.nd rfl (.inl rfl) (pe_lst (pa_cons (pe_op op_mulS (pe_tup (pa_cons (pe_glob (v := .int (-1)) rfl mA ⟨_, rfl⟩) pa_nil)) (pv 1)) pa_nil)))
      (pss_cons (ps_for PassesOwn.never rfl (pi_list (pv 0)) (pg_name (i := 3) scCclosed.nd rfl (.inl rfl))
        (pss_cons (ps_set (i := 4) scCclosed.nd rfl (.inl rfl) (pe_lst pa_nil))
        (pss_cons (ps_for PassesOwn.never rfl (pi_range1 rfl mr (pa_cons (pv 1) pa_nil)) (pg_name (i := 5) scCclosed.nd rfl (.inl rfl))
          (pss_one (ps_if (pt_cmpR op_gt (pe_ix ix_tup (pv 3) (pv 5) (fun _ _ => rfl)) pe_int (nomark _))
            (pss_one (ps_expr (pe_bm PySem.F.plainAttrs_list PySem.F.slot_list_append PySem.F.type_list_append mt_append (pv 4) (pa_cons (pe_call G1 (hr.mono h1) (by rfl) g1 F1.kp b1 .nil pass0
              (pa_cons (pv 1) (pa_cons (pv 5) (pa_cons (pe_op op_sub (pe_ix ix_tup (pv 3) (pv 5) (fun _ _ => rfl)) pe_int) (pa_cons (pe_glob (v := .int (-1)) rfl mA ⟨_, rfl⟩) pa_nil))))) pa_nil)))) pss_nil)))
        (pss_one (ps_set (i := 2) scCclosed.nd rfl (.inl rfl) (pe_call G2 (hr.mono h2) (by rfl) g2 F2.kp b2 .nil pass0 (pa_cons (pv 2) (pa_cons (pv 4) pa_nil))))))))
      (pss_one (ps_ret (pv 2)))), ?_⟩
    -- found = [(..,) * size]
    refine ⟨by show 1 ≤ sizeLine; decide, fun t0 nt0 => ⟨_, rfl, t0, n, _, rfl, rfl, .inl (.inl upd_same), by simp, n1, by omega, by decide, fun H1 t1 s1 ht1 => ⟨by show 1 ≤ sizeLine; decide, fun fo nfo => ?_⟩⟩⟩
    have sA : Same H H1 := (same_new nt0).trans s1
    have sB : Same H (upd H1 fo (.lst [.ref t1])) := sA.trans (same_new nfo)
    have tB : NewT K (upd H1 fo (.lst [.ref t1])) fo [(t1, List.replicate n (-1))] := by
      refine ⟨upd_same, fun z hz => ?_⟩
      rw [List.mem_singleton.mp hz]
      refine same_tup (same_new nfo) ?_
      rw [rep_flat] at ht1
      show SqT K H1 t1 ((List.replicate n (-1 : Int)).map V.int)
      rw [List.map_replicate]
      exact ht1
    refine ⟨.ref a, rfl, a, rfl, ⟨_, (hA.same sB).1⟩, for_list (xs := refs ks) (fun i σ H' => ∃ fo y3 y4 y5, ∃ R : List (Addr × List Int), σ = [some (.ref a), some (.int n), some (.ref fo), y3, y4, y5] ∧ Same H H' ∧ NewT K H' fo R ∧ CC n S (keys (ks.take i)) (keys R))
      ⟨fo, none, none, none, [(t1, List.replicate n (-1))], rfl, sB, tB, CC.zero hm⟩ (fun i σ H' _ hP => ?_) (fun i v σ H' hv hP => ?_) (fun σ H' hP => ?_)⟩
    · obtain ⟨fo, y3, y4, y5, R, _, hs, _⟩ := hP
      exact (hA.same hs).1
    · obtain ⟨fo, y3, y4, y5, R, rfl, hs, hF, hC⟩ := hP
      have hi : i < ks.length := by
        have := (List.getElem?_eq_some_iff.mp hv).1
        rwa [List.length_map] at this
      rw [map_at hi] at hv
      obtain rfl : V.ref ks[i].1 = v := Option.some.inj hv
      have hx : ks[i] ∈ ks := List.getElem_mem hi
      have next := take_keys hi
      generalize ks[i] = x at hx next ⊢
      obtain ⟨x1, x2, x3⟩ := hk x hx
      -- the list of one turn
      refine ⟨Nat.zero_le _, fun o no => ?_⟩
      have sO : Same H' (upd H' o (.lst [])) := same_new no
      have o1 : (upd H' o (.lst [])) o = some (.lst []) := upd_same
      generalize upd H' o (.lst []) = H1' at sO o1 ⊢
      have back : ∀ {H''}, But o H1' H'' → Same H' H'' := fun hB => hB.all sO no
      refine ⟨.int n, rfl, (n : Int), rfl, (small62 (by omega)).1, (small62 (by omega)).2, ?_⟩
      rw [Int.toNat_natCast]
      refine for_range (lo := 0) (n := n) (fun c σ H3 => ∃ y5, ∃ B : List (Addr × List Int), σ = [some (.ref a), some (.int n), some (.ref fo), some (.ref x.1), some (.ref o), y5] ∧ But o H1' H3 ∧ H3 o = some (.lst (refs B)) ∧ (∀ z ∈ B, Tup K H3 z.1 z.2) ∧ keys B = belowT x.2 n c)
        ⟨y5, [], rfl, But.refl _ _, o1, fun z hz => (by cases hz), rfl⟩ (fun c σ H3 hc hP => ?_) (fun σ H3 hP => ?_)
      · obtain ⟨y5, B, rfl, hU, hO, hB, hKB⟩ := hP
        have hcx : c < x.2.length := by omega
        have tx : Tup K H3 x.1 x.2 := (hA.same (hs.trans (back hU))).2 x hx
        have nextB := below_next (n := n) (getElem?_at hcx)
        have lenB : B.length ≤ c := by
          have e := congrArg List.length hKB
          rw [List.length_map] at e
          rw [e]
          exact below_len _ _ _
        refine ⟨.ref x.1, rfl, .int (0 + (c : Int)), rfl, x.1, _, _, _, rfl, rfl, tx, at_tup hcx, _, _, rfl, rfl, _, rfl, ?_⟩
        refine ite2 (fun e => ?_) (fun e => ?_)
        · have yes : 0 < x.2[c] := of_decide_eq_true e
          rw [if_pos yes] at nextB
          refine ⟨.ref o, rfl, .inl ⟨rfl, _, .inl (.inl hO)⟩, .int n, rfl, .int (0 + (c : Int)), rfl, .ref x.1, rfl, .int (0 + (c : Int)), rfl, x.1, _, _, _, rfl, rfl, tx, at_tup hcx, _, _, rfl, rfl, n, c, x.2[c] - 1, -1, (by rw [Int.zero_add]; rfl), hc, n4, fun H4 t s4 t4 => ⟨o, _, _, rfl, rfl, s4 o _ hO, ?_, ?_⟩⟩
          · rw [List.length_map]
            exact small4 (by omega)
          · have u4 : But o H3 (upd H4 o (.lst (refs B ++ [V.ref t]))) := ((But.refl o H3).same s4).put
            refine ⟨_, B ++ [(t, single n c (x.2[c] - 1) (-1))], rfl, (hU.same s4).put, ?_, fun z hz => ?_, ?_⟩
            · rw [upd_same]
              show some (HO.lst (refs B ++ [V.ref t])) = some (.lst ((B ++ [(t, single n c (x.2[c] - 1) (-1))]).map fun q => V.ref q.1))
              rw [List.map_append]
              rfl
            · rcases List.mem_append.mp hz with c1 | c1
              · exact u4.tup hO (hB z c1)
              · rw [List.mem_singleton.mp c1]
                exact ((But.refl o H4).put).tup (s4 o _ hO) t4
            · show (B ++ [(t, single n c (x.2[c] - 1) (-1))]).map (fun q => q.2) = _
              rw [List.map_append, nextB, ← hKB]
              rfl
        · have no_ : ¬ (0 < x.2[c]) := fun z => e (decide_eq_true z)
          rw [if_neg no_] at nextB
          exact ⟨_, B, rfl, hU, hO, hB, by rw [nextB]; exact hKB⟩
      · obtain ⟨y5, B, rfl, hU, hO, hB, hKB⟩ := hP
        obtain ⟨f1_, f2_, f3_, f4_⟩ := below_facts (n := n) (i := n) x1 (Nat.le_refl n) x3 hm
        have inB : ∀ z ∈ B, z.2 ∈ belowT x.2 n n := fun z hz => by
          rw [← hKB]
          exact List.mem_map.mpr ⟨z, hz, rfl⟩
        have inR : ∀ z ∈ R, z.2 ∈ keys R := fun z hz => List.mem_map.mpr ⟨z, hz, rfl⟩
        refine ⟨.ref fo, rfl, .ref o, rfl, fo, o, R, B, n, rfl, (hF.same (back hU)).tups, ⟨.inl (.inl hO), hB⟩, n1, n4, fun z hz => hC.can.len _ (inR z hz), fun z hz => f1_ _ (inB z hz), ?_, ?_, fun H5 p rs s5 t5 r5 => ?_⟩
        · have l1 := hC.size hS (by decide) n4
          rw [List.length_map] at l1
          have l2 : B.length ≤ 4 := by
            have e := congrArg List.length hKB
            rw [List.length_map] at e
            have := below_len x.2 n n
            omega
          have l3 : R.length * B.length ≤ 8 ^ 4 * 4 := Nat.mul_le_mul l1 l2
          have e8 : (8 : Nat) ^ 4 * 4 = 16384 := by decide
          omega
        · rw [hKB]
          exact hC.few n4 hS hm x1 x3
        · rw [hKB] at r5
          refine ⟨p, _, _, _, rs, rfl, (hs.trans (back hU)).trans s5, t5, ?_⟩
          rw [next]
          exact hC.step hm x1 x2 x3 r5
    · obtain ⟨fo, y3, y4, y5, R, rfl, hs, hF, hC⟩ := hP
      rw [List.length_map, List.take_length] at hC
      exact ⟨.ref fo, rfl, q H' fo R hs hF hC⟩
end
theorem scCframe : FnScope ["limits", "size", "found", "limit", "above", "place"] ["limits", "size"] (defScope sCframe) := ⟨rfl, rfl, rfl, by decide +kernel, rfl, by decide +kernel, by decide +kernel⟩
section
variable {P : Program} {w : World} {K : PySem.W.Frag} {mg : Str → Option Value} {base : Heap}
def spCframe (K : PySem.W.Frag) : Sp := fun vs H Q _ => ∃ (a : Addr) (ks : List (Addr × List Int)) (n : Nat) (S : List Int), vs = [.ref a, .int n] ∧ Tups K H a ks ∧ 1 ≤ n ∧ n ≤ 4 ∧ S.length ≤ 8 ∧ (0 : Int) ∈ S ∧ (∀ q ∈ ks, q.2.length = n ∧ GE q.2 ∧ ∀ v ∈ q.2, v ≠ -1 → v + 1 ∈ S) ∧
  ∀ H' p (rs : List (Addr × List Int)), Same H H' → NewT K H' p rs → CF n S (keys ks) (keys rs) → Q (.ref p) H'
theorem ok_cframe {f f1 f2 : Addr} {fd fd1 fd2 : FuncData} {k j1 j2 : Nat} {tk : Tok} (h1 : j1 ≤ k) (h2 : j2 ≤ k) (F : Fun K "complement_frame" "complement_frame" sCframe f fd) (F1 : Fun K "single" "single" sSingle f1 fd1) (F2 : Fun K "meet" "meet" sMeet f2 fd2) (b1 : Binds K fd1 ["size", "place", "number", "rest"] []) (b2 : Binds K fd2 ["first", "second"] []) (g1 : mg "single" = some (.ref f1)) (g2 : mg "meet" = some (.ref f2))
    (G1 : FnOk P w K mg base CX0 j1 f1 fd1 ["size", "place", "number", "rest"] (spSingle K)) (G2 : FnOk P w K mg base CX0 j2 f2 fd2 ["first", "second"] (spMeet K)) (mr : mg "range" = none) (mA : mg "ANY" = some (.int (-1) tk)) : FnOk P w K mg base CX0 (k + 1) f fd ["limits", "size"] (spCframe K) := by
  refine F.ok scCframe (fun vs H Q E h => ?_) (fun cdv A outer s H vs Q E hr h => ?_)
  · obtain ⟨a, ks, n, S, rfl, _⟩ := h
    rfl
  · obtain ⟨a, ks, n, S, rfl, hA, n1, n4, hS, hm, hk, q⟩ := h
    refine ⟨_, pss_cons (ps_set (i := 2) scCframe.nd rfl (.inl rfl) (pe_lst (pa_cons (pe_op op_mulS (pe_tup (pa_cons pe_int pa_nil)) (pv 1)) pa_nil)))
      (pss_cons (ps_for PassesOwn.never rfl (pi_list (pv 0)) (pg_name (i := 3) scCframe.nd rfl (.inl rfl))
        (pss_cons (ps_set (i := 4) scCframe.nd rfl (.inl rfl) (pe_lst pa_nil))
        (pss_cons (ps_for PassesOwn.never rfl (pi_range1 rfl mr (pa_cons (pv 1) pa_nil)) (pg_name (i := 5) scCframe.nd rfl (.inl rfl))
          (pss_one (ps_if (pt_cmpR op_ne (pe_ix ix_tup (pv 3) (pv 5) (fun _ _ => rfl)) (pe_glob (v := .int (-1)) rfl mA ⟨_, rfl⟩) (nomark _))
            (pss_one (ps_expr (pe_bm PySem.F.plainAttrs_list PySem.F.slot_list_append PySem.F.type_list_append mt_append (pv 4) (pa_cons (pe_call G1 (hr.mono h1) (by rfl) g1 F1.kp b1 .nil pass0
              (pa_cons (pv 1) (pa_cons (pv 5) (pa_cons (pe_op op_add (pe_ix ix_tup (pv 3) (pv 5) (fun _ _ => rfl)) pe_int) (pa_cons pe_int pa_nil))))) pa_nil)))) pss_nil)))
        (pss_one (ps_set (i := 2) scCframe.nd rfl (.inl rfl) (pe_call G2 (hr.mono h2) (by rfl) g2 F2.kp b2 .nil pass0 (pa_cons (pv 2) (pa_cons (pv 4) pa_nil))))))))
      (pss_one (ps_ret (pv 2)))), ?_⟩
    -- found = [(..,) * size]
    refine ⟨by show 1 ≤ sizeLine; decide, fun t0 nt0 => ⟨_, rfl, t0, n, _, rfl, rfl, .inl (.inl upd_same), by simp, n1, by omega, by decide, fun H1 t1 s1 ht1 => ⟨by show 1 ≤ sizeLine; decide, fun fo nfo => ?_⟩⟩⟩
    have sA : Same H H1 := (same_new nt0).trans s1
    have sB : Same H (upd H1 fo (.lst [.ref t1])) := sA.trans (same_new nfo)
    have tB : NewT K (upd H1 fo (.lst [.ref t1])) fo [(t1, List.replicate n (0))] := by
      refine ⟨upd_same, fun z hz => ?_⟩
      rw [List.mem_singleton.mp hz]
      refine same_tup (same_new nfo) ?_
      rw [rep_flat] at ht1
      show SqT K H1 t1 ((List.replicate n (0 : Int)).map V.int)
      rw [List.map_replicate]
      exact ht1
    refine ⟨.ref a, rfl, a, rfl, ⟨_, (hA.same sB).1⟩, for_list (xs := refs ks) (fun i σ H' => ∃ fo y3 y4 y5, ∃ R : List (Addr × List Int), σ = [some (.ref a), some (.int n), some (.ref fo), y3, y4, y5] ∧ Same H H' ∧ NewT K H' fo R ∧ CF n S (keys (ks.take i)) (keys R))
      ⟨fo, none, none, none, [(t1, List.replicate n (0))], rfl, sB, tB, CF.zero hm⟩ (fun i σ H' _ hP => ?_) (fun i v σ H' hv hP => ?_) (fun σ H' hP => ?_)⟩
    · obtain ⟨fo, y3, y4, y5, R, _, hs, _⟩ := hP
      exact (hA.same hs).1
    · obtain ⟨fo, y3, y4, y5, R, rfl, hs, hF, hC⟩ := hP
      have hi : i < ks.length := by
        have := (List.getElem?_eq_some_iff.mp hv).1
        rwa [List.length_map] at this
      rw [map_at hi] at hv
      obtain rfl : V.ref ks[i].1 = v := Option.some.inj hv
      have hx : ks[i] ∈ ks := List.getElem_mem hi
      have next := take_keys hi
      generalize ks[i] = x at hx next ⊢
      obtain ⟨x1, x2, x3⟩ := hk x hx
      -- the list of one turn
      refine ⟨Nat.zero_le _, fun o no => ?_⟩
      have sO : Same H' (upd H' o (.lst [])) := same_new no
      have o1 : (upd H' o (.lst [])) o = some (.lst []) := upd_same
      generalize upd H' o (.lst []) = H1' at sO o1 ⊢
      have back : ∀ {H''}, But o H1' H'' → Same H' H'' := fun hB => hB.all sO no
      refine ⟨.int n, rfl, (n : Int), rfl, (small62 (by omega)).1, (small62 (by omega)).2, ?_⟩
      rw [Int.toNat_natCast]
      refine for_range (lo := 0) (n := n) (fun c σ H3 => ∃ y5, ∃ B : List (Addr × List Int), σ = [some (.ref a), some (.int n), some (.ref fo), some (.ref x.1), some (.ref o), y5] ∧ But o H1' H3 ∧ H3 o = some (.lst (refs B)) ∧ (∀ z ∈ B, Tup K H3 z.1 z.2) ∧ keys B = aboveT x.2 n c)
        ⟨y5, [], rfl, But.refl _ _, o1, fun z hz => (by cases hz), rfl⟩ (fun c σ H3 hc hP => ?_) (fun σ H3 hP => ?_)
      · obtain ⟨y5, B, rfl, hU, hO, hB, hKB⟩ := hP
        have hcx : c < x.2.length := by omega
        have tx : Tup K H3 x.1 x.2 := (hA.same (hs.trans (back hU))).2 x hx
        have nextB := above_next (n := n) (getElem?_at hcx)
        have lenB : B.length ≤ c := by
          have e := congrArg List.length hKB
          rw [List.length_map] at e
          rw [e]
          exact above_len _ _ _
        refine ⟨.ref x.1, rfl, .int (0 + (c : Int)), rfl, x.1, _, _, _, rfl, rfl, tx, at_tup hcx, rfl, _, rfl, ?_⟩
        rw [int_dec]
        refine ite2 (fun e => ?_) (fun e => ?_)
        · have yes : x.2[c] ≠ -1 := by simpa using e
          rw [if_pos yes] at nextB
          refine ⟨.ref o, rfl, .inl ⟨rfl, _, .inl (.inl hO)⟩, .int n, rfl, .int (0 + (c : Int)), rfl, .ref x.1, rfl, .int (0 + (c : Int)), rfl, x.1, _, _, _, rfl, rfl, tx, at_tup hcx, _, _, rfl, rfl, n, c, x.2[c] + 1, 0, (by rw [Int.zero_add]; rfl), hc, n4, fun H4 t s4 t4 => ⟨o, _, _, rfl, rfl, s4 o _ hO, ?_, ?_⟩⟩
          · rw [List.length_map]
            exact small4 (by omega)
          · have u4 : But o H3 (upd H4 o (.lst (refs B ++ [V.ref t]))) := ((But.refl o H3).same s4).put
            refine ⟨_, B ++ [(t, single n c (x.2[c] + 1) (0))], rfl, (hU.same s4).put, ?_, fun z hz => ?_, ?_⟩
            · rw [upd_same]
              show some (HO.lst (refs B ++ [V.ref t])) = some (.lst ((B ++ [(t, single n c (x.2[c] + 1) (0))]).map fun q => V.ref q.1))
              rw [List.map_append]
              rfl
            · rcases List.mem_append.mp hz with c1 | c1
              · exact u4.tup hO (hB z c1)
              · rw [List.mem_singleton.mp c1]
                exact ((But.refl o H4).put).tup (s4 o _ hO) t4
            · show (B ++ [(t, single n c (x.2[c] + 1) (0))]).map (fun q => q.2) = _
              rw [List.map_append, nextB, ← hKB]
              rfl
        · have no_ : ¬ (x.2[c] ≠ -1) := fun z => e (by simpa using z)
          rw [if_neg no_] at nextB
          exact ⟨_, B, rfl, hU, hO, hB, by rw [nextB]; exact hKB⟩
      · obtain ⟨y5, B, rfl, hU, hO, hB, hKB⟩ := hP
        obtain ⟨f1_, f2_, f3_, f4_⟩ := above_facts (n := n) (i := n) x1 x2 (Nat.le_refl n) x3 hm
        have inB : ∀ z ∈ B, z.2 ∈ aboveT x.2 n n := fun z hz => by
          rw [← hKB]
          exact List.mem_map.mpr ⟨z, hz, rfl⟩
        have inR : ∀ z ∈ R, z.2 ∈ keys R := fun z hz => List.mem_map.mpr ⟨z, hz, rfl⟩
        refine ⟨.ref fo, rfl, .ref o, rfl, fo, o, R, B, n, rfl, (hF.same (back hU)).tups, ⟨.inl (.inl hO), hB⟩, n1, n4, fun z hz => ⟨hC.can.len _ (inR z hz), hC.nn _ (inR z hz)⟩, fun z hz => ⟨f1_ _ (inB z hz), f3_ _ (inB z hz)⟩, ?_, ?_, fun H5 p rs s5 t5 r5 => ?_⟩
        · have l1 := hC.size hS (by decide) n4
          rw [List.length_map] at l1
          have l2 : B.length ≤ 4 := by
            have e := congrArg List.length hKB
            rw [List.length_map] at e
            have := above_len x.2 n n
            omega
          have l3 : R.length * B.length ≤ 8 ^ 4 * 4 := Nat.mul_le_mul l1 l2
          have e8 : (8 : Nat) ^ 4 * 4 = 16384 := by decide
          omega
        · rw [hKB]
          exact hC.few n4 hS hm x1 x2 x3
        · rw [hKB] at r5
          refine ⟨p, _, _, _, rs, rfl, (hs.trans (back hU)).trans s5, t5, ?_⟩
          rw [next]
          exact hC.step hm x1 x2 x3 r5
    · obtain ⟨fo, y3, y4, y5, R, rfl, hs, hF, hC⟩ := hP
      rw [List.length_map, List.take_length] at hC
      exact ⟨.ref fo, rfl, q H' fo R hs hF hC⟩
end
end Cv
/-! CvW8: the law's own helpers: cell, draws, take -/
namespace Cv
open PySem PySem.Spec PyProof.Rows L2
theorem scCell : FnScope ["_law_script", "_law_k"] ["_law_script", "_law_k"] (defScope sCell) := ⟨rfl, rfl, rfl, by decide +kernel, rfl, by decide +kernel, by decide +kernel⟩
theorem scDraws : FnScope ["_law_script", "_law_count", "_law_cells", "_law_found", "_law_mixed", "_law_k", "_law_j", "_law_cell_here", "_law_again"] ["_law_script", "_law_count"] (defScope sDraws) := ⟨rfl, rfl, rfl, by decide +kernel, rfl, by decide +kernel, by decide +kernel⟩
theorem scTake : FnScope ["_law_draws_here", "_law_limit_here"] ["_law_draws_here", "_law_limit_here"] (defScope sTake) := ⟨rfl, rfl, rfl, by decide +kernel, rfl, by decide +kernel, by decide +kernel⟩
section
variable {P : Program} {w : World} {K : PySem.W.Frag} {mg : Str → Option Value} {base : Heap}
abbrev nums (ns : List Int) : List V := ns.map V.int
def spCell (K : PySem.W.Frag) : Sp := fun vs H Q _ => ∃ (a : Addr) (ns : List Int), vs = [.ref a, .int 0] ∧ SqL K H a (nums ns) ∧ ∀ z : Int, Q (.int z) H
theorem ok_cell {f : Addr} {fd : FuncData} {k : Nat} (F : Fun K "_law_cell" "_law_cell" sCell f fd) (ml : mg "len" = none) : FnOk P w K mg base CX0 (k + 1) f fd ["_law_script", "_law_k"] (spCell K) := by
  refine F.ok scCell (fun vs H Q E h => ?_) (fun cdv A outer s H vs Q E hr h => ?_)
  · obtain ⟨a, ns, rfl, _⟩ := h
    rfl
  · obtain ⟨a, ns, rfl, hS, q⟩ := h
    refine ⟨_, pss_cons (ps_if (pt_cmpR op_lt (pv 1) (pe_callB call_len_seq (by rfl) ml PySem.boot_len (pa_cons (pv 0) pa_nil)) (nomark _)) (pss_one (ps_ret (pe_ix ix_list (pv 0) (pv 1) (fun _ _ => rfl)))) pss_nil)
      (pss_one (ps_ret pe_int)), ?_⟩
    refine ⟨.int 0, rfl, .ref a, rfl, a, _, rfl, .inl hS, _, _, rfl, rfl, _, rfl, ite2 (fun e => ?_) (fun e => q 0)⟩
    have e1 : (0 : Int) < ((nums ns).length : Int) := of_decide_eq_true e
    rw [List.length_map] at e1
    have e2 : 0 < ns.length := by omega
    exact ⟨.ref a, rfl, .int 0, rfl, a, _, 0, _, rfl, rfl, hS, atI_nat (j := 0) (map_at e2), q _⟩
def spTake : Sp := fun vs H Q _ => ∃ (d : Addr) (ds : List Int) (m : Int), vs = [.ref d, .int m] ∧ 0 < m ∧ H d = some (.lst (nums ds)) ∧ ∀ H' z ds', But d H H' → H' d = some (.lst (nums ds')) → 0 ≤ z → z < m → Q (.int z) H'
theorem ok_take {f : Addr} {fd : FuncData} {k : Nat} (F : Fun K "_law_take" "_law_take" sTake f fd) (ml : mg "len" = none) (mi : mg "int" = none) : FnOk P w K mg base CX0 (k + 1) f fd ["_law_draws_here", "_law_limit_here"] spTake := by
  refine F.ok scTake (fun vs H Q E h => ?_) (fun cdv A outer s H vs Q E hr h => ?_)
  · obtain ⟨d, ds, m, rfl, _⟩ := h
    rfl
  · obtain ⟨d, ds, m, rfl, m0, hd, q⟩ := h
    refine ⟨_, pss_cons (ps_if (pt_cmpR op_eq (pe_callB call_len_seq (by rfl) ml PySem.boot_len (pa_cons (pv 0) pa_nil)) pe_int (nomark _)) (pss_one (ps_ret pe_int)) pss_nil)
      (pss_one (ps_ret (pe_op op_mod (pe_callTy call_int1 (by rfl) mi (by decide +kernel) (pa_cons (pe_bm0 PySem.F.plainAttrs_list PySem.F.slot_list_pop PySem.F.type_list_pop mt_pop (pv 0)) pa_nil)) (pv 1)))), ?_⟩
    refine ⟨.ref d, rfl, d, _, rfl, .inl (.inl (.inl hd)), rfl, _, rfl, ?_⟩
    rw [int_dec]
    refine ite2 (fun e => q H 0 ds (But.refl _ _) hd (Int.le_refl 0) m0) (fun e => ?_)
    have e1 : ((nums ds).length : Int) ≠ 0 := fun z => e (decide_eq_true z)
    rw [List.length_map] at e1
    have e2 : ds.length - 1 < ds.length := by omega
    refine ⟨.ref d, rfl, .inl ⟨rfl, _, .inl (.inl hd)⟩, d, _, _, rfl, rfl, hd, by rw [List.length_map]; exact map_at e2, .inl ⟨_, rfl, _, rfl, _, m, rfl, rfl, m0, ?_⟩⟩
    refine q _ _ ds.dropLast (But.refl d H).put ?_ (Int.emod_nonneg _ (by omega)) (Int.emod_lt_of_pos _ m0)
    rw [upd_same]
    show some (HO.lst (nums ds).dropLast) = some (.lst (nums ds.dropLast))
    unfold nums
    rw [List.map_dropLast]
end
end Cv
/-! CvW9: the law's own helper: draws -/
namespace Cv
open PySem PySem.Spec PyProof.Rows L2
section
variable {P : Program} {w : World} {K : PySem.W.Frag} {mg : Str → Option Value} {base : Heap}
def spDraws (K : PySem.W.Frag) : Sp := fun vs H Q _ => ∃ (a : Addr) (ns : List Int), vs = [.ref a, .int 80] ∧ SqL K H a (nums ns) ∧ ∀ H' d ds, Same H H' → H d = none → H' d = some (.lst (nums ds)) → Q (.ref d) H'
theorem ok_draws {f : Addr} {fd : FuncData} {k : Nat} (F : Fun K "_law_draws" "_law_draws" sDraws f fd) (ml : mg "len" = none) (mi : mg "int" = none) (mr : mg "range" = none) (mt : mg "list" = none) : FnOk P w K mg base CX0 (k + 1) f fd ["_law_script", "_law_count"] (spDraws K) := by
  refine F.ok scDraws (fun vs H Q E h => ?_) (fun cdv A outer s H vs Q E hr h => ?_)
  · obtain ⟨a, ns, rfl, _⟩ := h
    rfl
  · obtain ⟨a, ns, rfl, hS, q⟩ := h
    refine ⟨_, (pss_cons (ps_set (i := 2) scDraws.nd rfl (.inl rfl) (pe_callTy call_list_of (by rfl) mt (by decide +kernel) (pa_cons (pv 0) pa_nil)))
      (C8.pss_cut (ps_if (pt_cmpR op_eq (pe_callB call_len_seq (by rfl) ml PySem.boot_len (pa_cons (pv 2) pa_nil)) pe_int (nomark _)) (pss_one (ps_set (i := 2) scDraws.nd rfl (.inl rfl) (pe_lst (pa_cons pe_int pa_nil)))) pss_nil)
      (pss_cons (ps_set (i := 3) scDraws.nd rfl (.inl rfl) (pe_lst pa_nil))
      (pss_cons (ps_set (i := 4) scDraws.nd rfl (.inl rfl) pe_int)
      (pss_cons (ps_for PassesOwn.never rfl (pi_range1 rfl mr (pa_cons (pv 1) pa_nil)) (pg_name (i := 5) scDraws.nd rfl (.inl rfl))
      (pss_cons (ps_set (i := 6) scDraws.nd rfl (.inl rfl) (pe_op op_mod (pv 5) (pe_callB call_len_seq (by rfl) ml PySem.boot_len (pa_cons (pv 2) pa_nil))))
      (pss_cons (ps_set (i := 7) scDraws.nd rfl (.inl rfl) (pe_ix ix_list (pv 2) (pv 6) (fun _ _ => rfl)))
      (pss_cons (ps_set (i := 4) scDraws.nd rfl (.inl rfl) (pe_op op_mod (pe_callTy call_int1 (by rfl) mi (by decide +kernel) (pa_cons (pe_op op_add (pe_op op_add (pe_op op_add (pe_op op_mul (pv 4) pe_int) (pe_op op_mul (pe_op op_mod (pe_callTy call_int1 (by rfl) mi (by decide +kernel) (pa_cons (pv 7) pa_nil)) pe_int) pe_int)) (pe_op op_mul (pv 5) pe_int)) pe_int) pa_nil)) pe_int))
      (pss_cons (ps_set (i := 8) scDraws.nd rfl (.inl rfl) (pe_op op_mod (pe_callTy call_int1 (by rfl) mi (by decide +kernel) (pa_cons (pe_op op_add (pe_op op_add (pe_op op_mul (pv 4) (pv 4)) (pe_op op_mul pe_int (pv 4))) (pv 5)) pa_nil)) pe_int))
      (pss_one (ps_if (pt_cmpR op_ge (pv 7) (pe_op op_pow pe_int pe_int) (nomark _)) (pss_cons (ps_expr (pe_bm PySem.F.plainAttrs_list PySem.F.slot_list_append PySem.F.type_list_append mt_append (pv 3) (pa_cons (pe_op op_mod (pe_callTy call_int1 (by rfl) mi (by decide +kernel) (pa_cons (pv 7) pa_nil)) pe_int) pa_nil)))
      (pss_one (ps_asg (pe_op op_fdiv (pv 7) pe_int) (pg_sub (pv 2) (pv 6) set_list)))) (pss_one (ps_expr (pe_bm PySem.F.plainAttrs_list PySem.F.slot_list_append PySem.F.type_list_append mt_append (pv 3) (pa_cons (pe_op op_mod (pe_callTy call_int1 (by rfl) mi (by decide +kernel) (pa_cons (pv 8) pa_nil)) pe_int) pa_nil)))))))))))
      (pss_cons (ps_expr (pe_bm0 PySem.F.plainAttrs_list PySem.F.slot_list_reverse PySem.F.type_list_reverse mt_reverse (pv 3)))
      (pss_one (ps_ret (pv 3))))))))), ?_⟩
    -- cells = list(script)
    refine ⟨.ref a, rfl, a, _, rfl, .inl hS, fun c nc => ?_⟩
    have s1 : Same H (upd H c (.lst (nums ns))) := same_new nc
    have c1 : (upd H c (.lst (nums ns))) c = some (.lst (nums ns)) := upd_same
    -- if len(cells) == 0
    refine ⟨fun σ H' => ∃ (c : Addr) (cs : List Int), σ = [some (.ref a), some (.int 80), some (.ref c), none, none, none, none, none, none] ∧ Same H H' ∧ H c = none ∧ H' c = some (.lst (nums cs)) ∧ cs ≠ [], ?_, ?_⟩
    · refine ⟨.ref c, rfl, c, _, rfl, .inl (.inl (.inl c1)), rfl, _, rfl, ?_⟩
      rw [int_dec]
      refine ite2 (fun e => ?_) (fun e => ?_)
      · refine ⟨by show 1 ≤ sizeLine; decide, fun c2 nc2 => ⟨c2, [7], rfl, s1.trans (same_new nc2), s1.free nc2, upd_same, by simp⟩⟩
      · refine ⟨c, ns, rfl, s1, nc, c1, fun z => e ?_⟩
        rw [z]
        rfl
    · rintro σ H' ⟨c, cs, rfl, s2, nc2, hc, ne⟩
      -- found = [], mixed = 12345
      refine ⟨Nat.zero_le _, fun o no => ?_⟩
      have sO : Same H' (upd H' o (.lst [])) := same_new no
      have hco : c ≠ o := ne_of_none hc no
      have n63 : (2 : Int) ^ 63 = 9223372036854775808 := by decide
      refine ⟨.int 80, rfl, (80 : Int), rfl, by decide, by decide, ?_⟩
      refine for_range (lo := 0) (n := 80) (fun i σ H3 => ∃ (m : Int) (y5 y6 y7 y8 : Option V) (cs fs : List Int), σ = [some (.ref a), some (.int 80), some (.ref c), some (.ref o), some (.int m), y5, y6, y7, y8] ∧ Same H H3 ∧ H3 c = some (.lst (nums cs)) ∧ cs ≠ [] ∧ H3 o = some (.lst (nums fs)) ∧ fs.length = i ∧ 0 ≤ m ∧ m < 2147483647)
        ⟨12345, none, none, none, none, cs, [], rfl, s2.trans sO, sO c _ hc, ne, upd_same, rfl, by decide, by decide⟩ (fun i σ H3 hi hP => ?_) (fun σ H3 hP => ?_)
      · obtain ⟨m, y5, y6, y7, y8, cs, fs, rfl, s3, hc3, ne3, ho3, hf, m0, m1⟩ := hP
        have lpos : 0 < cs.length := List.length_pos_iff.mpr ne3
        have lcs : (nums cs).length = cs.length := List.length_map _
        have jlt : i % cs.length < cs.length := Nat.mod_lt _ lpos
        have ej : (0 + (i : Int)) % ((nums cs).length : Int) = ((i % cs.length : Nat) : Int) := by
          rw [lcs, Int.zero_add]
          rfl
        have sO3 : H o = none := s2.free no
        have sm : fs.length < sizeLine := by rw [hf]; exact Nat.lt_trans hi (by decide)
        -- j, cell_here
        refine ⟨_, rfl, .ref c, rfl, c, _, rfl, .inl (.inl (.inl hc3)), _, _, rfl, rfl, by rw [lcs]; omega, ?_⟩
        have at_j : atI (nums cs) ((0 + (i : Int)) % ((nums cs).length : Int)) = some (.int (cs[i % cs.length])) := by
          rw [ej]
          exact atI_nat (map_at jlt)
        refine ⟨.ref c, rfl, _, rfl, c, _, _, .int (cs[i % cs.length]), rfl, rfl, .inl (.inl hc3), at_j, ?_⟩
        generalize cs[i % cs.length] = x
        -- mixed, again
        have big_ : ∀ z : Int, 0 ≤ z → z < 2147483647 → -(2 ^ 64) < z ∧ z < 2 ^ 64 := fun z z0 z1 => by
          have p64 : (2 : Int) ^ 64 = 18446744073709551616 := by decide
          rw [p64]
          omega
        have r0 := Int.emod_nonneg x (show (1000003 : Int) ≠ 0 by decide)
        have r1 := Int.emod_lt_of_pos x (show (0 : Int) < 1000003 by decide)
        have q0 : 0 ≤ (m * 48271 + x % 1000003 * 69621 + (0 + (i : Int)) * 7919 + 11) % 2147483647 := Int.emod_nonneg _ (by decide)
        have q1 : (m * 48271 + x % 1000003 * 69621 + (0 + (i : Int)) * 7919 + 11) % 2147483647 < 2147483647 := Int.emod_lt_of_pos _ (by decide)
        refine ⟨_, rfl, _, _, rfl, rfl, .inl (big_ m m0 m1), _, rfl, .inl ⟨_, rfl, _, _, rfl, rfl, (by show (0 : Int) < 1000003; decide), ?_⟩⟩
        refine ⟨_, _, rfl, rfl, .inl (big_ _ r0 (by omega)), _, _, rfl, rfl, _, rfl, _, _, rfl, rfl, .inl (big_ _ (by omega) (by omega)), _, _, rfl, rfl, _, _, rfl, rfl, .inl ⟨_, rfl, _, _, rfl, rfl, (by show (0 : Int) < 2147483647; decide), ?_⟩⟩
        refine ⟨_, rfl, _, rfl, _, _, rfl, rfl, .inl (big_ _ q0 q1), _, rfl, _, _, rfl, rfl, .inl (big_ 31 (by decide) (by decide)), _, _, rfl, rfl, _, rfl, _, _, rfl, rfl, .inl ⟨_, rfl, _, _, rfl, rfl, (by show (0 : Int) < 1000003; decide), ?_⟩⟩
        -- if cell_here >= 10 ** 18
        refine ⟨_, rfl, _, _, rfl, rfl, (by show (0 : Int) ≤ 18 ∧ (18 : Int) ≤ 1000000 ∧ (10 : Int).natAbs < 2 ^ 64; decide), _, _, rfl, rfl, _, rfl, ite2 (fun e => ?_) (fun e => ?_)⟩
        · refine ⟨.ref o, rfl, .inl ⟨rfl, _, .inl (.inl ho3)⟩, _, rfl, .inl ⟨_, rfl, _, _, rfl, rfl, (by show (0 : Int) < 1000; decide), o, _, _, rfl, rfl, ho3, by rw [List.length_map]; exact sm, ?_⟩⟩
          have hc4 : upd H3 o (.lst (nums fs ++ [V.int (x % 1000)])) c = some (.lst (nums cs)) := by rw [upd_ne hco]; exact hc3
          refine ⟨_, rfl, _, _, rfl, rfl, ⟨by decide, by decide⟩, _, rfl, _, rfl, c, _, _, i % cs.length, rfl, rfl, hc4, ?_, ?_⟩
          · show ixN (nums cs).length ((0 + (i : Int)) % ((nums cs).length : Int)) = some (i % cs.length)
            rw [ej, lcs]
            unfold ixN
            rw [if_pos (by omega), if_pos (by omega), Int.toNat_natCast]
          · refine ⟨_, _, _, _, _, cs.set (i % cs.length) (x / 1000), fs ++ [x % 1000], rfl, same_put nc2 (same_put sO3 s3), ?_, ?_, ?_, ?_, q0, q1⟩
            · rw [upd_same]
              show some (HO.lst ((nums cs).set (i % cs.length) (V.int (x / 1000)))) = some (.lst (nums (cs.set (i % cs.length) (x / 1000))))
              unfold nums
              rw [List.map_set]
            · intro z
              have z2 := congrArg List.length z
              rw [List.length_set] at z2
              rw [z2] at lpos
              exact absurd lpos (Nat.lt_irrefl 0)
            · rw [upd_ne hco.symm, upd_same]
              show some (HO.lst (nums fs ++ [V.int (x % 1000)])) = some (.lst ((fs ++ [x % 1000]).map V.int))
              rw [List.map_append]
              rfl
            · rw [List.length_append, hf]
              rfl
        · generalize hA : (m * 48271 + x % 1000003 * 69621 + (0 + (i : Int)) * 7919 + 11) % 2147483647 = m2 at q0 q1
          refine ⟨.ref o, rfl, .inl ⟨rfl, _, .inl (.inl ho3)⟩, _, rfl, .inl ⟨_, rfl, _, _, rfl, rfl, (by show (0 : Int) < 1000; decide), o, _, _, rfl, rfl, ho3, by rw [List.length_map]; exact sm, ?_⟩⟩
          refine ⟨_, _, _, _, _, cs, fs ++ [(m2 * m2 + 31 * m2 + (0 + (i : Int))) % 1000003 % 1000], rfl, same_put sO3 s3, ?_, ne3, ?_, ?_, by rw [hA]; exact q0, by rw [hA]; exact q1⟩
          · rw [upd_ne hco]
            exact hc3
          · rw [upd_same, ← hA]
            show _ = some (HO.lst ((fs ++ [_]).map V.int))
            rw [List.map_append]
            rfl
          · rw [List.length_append, hf]
            rfl
      · obtain ⟨m, y5, y6, y7, y8, cs, fs, rfl, s3, hc3, ne3, ho3, hf, m0, m1⟩ := hP
        refine ⟨.ref o, rfl, .inl ⟨rfl, _, .inl (.inl ho3)⟩, o, _, rfl, rfl, ho3, _, rfl, q _ o fs.reverse (same_put (s2.free no) s3) (s2.free no) ?_⟩
        rw [upd_same]
        show some (HO.lst (nums fs).reverse) = some (.lst (nums fs.reverse))
        unfold nums
        rw [List.map_reverse]
end
end Cv
/-! CvW10: the law's own helpers: a marking, markings, a limit, limits (printed by gen_mark.py) -/
namespace Cv
open PySem PySem.Spec PyProof.Rows L2
section
/-- d holds numbers; the rest stands; the answer is a tuple of n numbers from lo to m -/
def spOne (lo : Int) (K : PySem.W.Frag) : Sp := fun vs H Q _ => ∃ (d : Addr) (ds : List Int) (n : Nat) (m : Int), vs = [.ref d, .int n, .int m] ∧ n ≤ 4 ∧ 0 ≤ m ∧ H d = some (.lst (nums ds)) ∧
  ∀ H' t (x : T) ds', But d H H' → H' d = some (.lst (nums ds')) → Tup K H' t x → x.length = n → (∀ v ∈ x, lo ≤ v ∧ v ≤ m) → Q (.ref t) H'
def spMany (lo : Int) (K : PySem.W.Frag) : Sp := fun vs H Q _ => ∃ (d : Addr) (ds : List Int) (n c : Nat) (m : Int), vs = [.ref d, .int n, .int c, .int m] ∧ n ≤ 4 ∧ c ≤ 4 ∧ 0 ≤ m ∧ H d = some (.lst (nums ds)) ∧
  ∀ H' p (ks : List (Addr × List Int)) ds', But d H H' → H p = none → H' d = some (.lst (nums ds')) → H' p = some (.lst (refs ks)) → (∀ q ∈ ks, Tup K H' q.1 q.2) → ks.length = c → (∀ q ∈ ks, q.2.length = n ∧ ∀ v ∈ q.2, lo ≤ v ∧ v ≤ m) → Q (.ref p) H'
end
theorem scMarking : FnScope ["_law_draws_here", "_law_size", "_law_most", "_law_k"] ["_law_draws_here", "_law_size", "_law_most"] (defScope sMarking) := ⟨rfl, rfl, rfl, by decide +kernel, rfl, by decide +kernel, by decide +kernel⟩
theorem scMarkings : FnScope ["_law_draws_here", "_law_size", "_law_count", "_law_most", "_law_k"] ["_law_draws_here", "_law_size", "_law_count", "_law_most"] (defScope sMarkings) := ⟨rfl, rfl, rfl, by decide +kernel, rfl, by decide +kernel, by decide +kernel⟩
section
variable {P : Program} {w : World} {K : PySem.W.Frag} {mg : Str → Option Value} {base : Heap}
theorem ok_marking {f f1 : Addr} {fd fd1 : FuncData} {k j : Nat} (h1 : j ≤ k) (F : Fun K "_law_marking" "_law_marking" sMarking f fd) (F1 : Fun K "_law_take" "_law_take" sTake f1 fd1) (b1 : Binds K fd1 ["_law_draws_here", "_law_limit_here"] []) (g1 : mg "_law_take" = some (.ref f1))
    (G1 : FnOk P w K mg base CX0 j f1 fd1 ["_law_draws_here", "_law_limit_here"] spTake) (mr : mg "range" = none) (mt : mg "tuple" = none) : FnOk P w K mg base CX0 (k + 1) f fd ["_law_draws_here", "_law_size", "_law_most"] (spOne (0) K) := by
  refine F.ok scMarking (fun vs H Q E h => ?_) (fun cdv A outer s H vs Q E hr h => ?_)
  · obtain ⟨d, ds, n, m, rfl, _⟩ := h
    rfl
  · obtain ⟨d, ds, n, m, rfl, n4, m0, hd, q⟩ := h
    refine ⟨_, pss_one (ps_ret (pe_callTy call_tuple_of (by rfl) mt (by decide +kernel) (pa_cons
      (pe_lc (own := [("_law_k", 3)]) (g := gName 3) (tt := tYes) rfl scMarking.nd (pi_range1 rfl mr (pa_cons (pv 1) pa_nil))
        (blkOk_by (N := ["_law_draws_here", "_law_size", "_law_most", "_law_k"]) (sc := defScope sMarking) (by decide +kernel)) (fun _ _ _ _ _ => pg_name (i := 3) scMarking.nd rfl (Or.inl rfl)) (fun _ _ _ _ _ => pts_nil)
        (fun _ _ _ _ _ => (pe_call G1 (hr.mono h1) (by rfl) g1 F1.kp b1 .nil pass0 (pa_cons (pv 0) (pa_cons (pe_op op_add (pv 2) pe_int) pa_nil))))) pa_nil))), ?_⟩
    refine ⟨.int n, rfl, (n : Int), rfl, (small62 (by omega)).1, (small62 (by omega)).2, fun D nD => ?_⟩
    rw [Int.toNat_natCast]
    have ndD : d ≠ D := ne_of_none hd nD
    refine lc_range (lo := 0) (n := n) (fun i H' => ∃ (xs ds' : List Int), But d H H' ∧ H' d = some (.lst (nums ds')) ∧ H' D = some (.lst (nums xs)) ∧ xs.length = i ∧ ∀ v ∈ xs, 0 ≤ v ∧ v ≤ m)
      ⟨[], ds, fun b u _ e => same_new nD b u e, by rw [upd_ne ndD]; exact hd, upd_same, rfl, fun v hv => (by cases hv)⟩ (fun i H' hi hP => ?_) (fun H' hP => ?_)
    · obtain ⟨xs, ds', hB, hd', hD', hl, hx⟩ := hP
      refine ⟨rfl, .ref d, rfl, .int m, rfl, m, 1, rfl, rfl, d, ds', m + 1, rfl, by omega, hd', fun H4 z ds4 b4 d4 z0 z1 => ⟨_, b4 D _ ndD.symm hD', ?_, xs ++ [z], ds4, fun b u ne e => ?_, ?_, ?_, ?_, fun v hv => ?_⟩⟩
      · rw [List.length_map]
        exact small4 (by omega)
      · rw [upd_ne (ne_of_none e nD)]
        exact b4 b u ne (hB b u ne e)
      · rw [upd_ne ndD]
        exact d4
      · rw [upd_same]
        show some (HO.lst (nums xs ++ [V.int (z)])) = some (.lst ((xs ++ [z]).map V.int))
        rw [List.map_append]
        rfl
      · rw [List.length_append, hl]
        rfl
      · rcases List.mem_append.mp hv with c | c
        · exact hx v c
        · rw [List.mem_singleton.mp c]
          omega
    · obtain ⟨xs, ds', hB, hd', hD', hl, hx⟩ := hP
      refine ⟨D, _, rfl, .inl ⟨.inl (.inl hD'), fun t nt => q _ t xs ds' (hB.same (same_new nt)) (same_new nt _ _ hd') (.inl (.inl upd_same)) hl hx⟩⟩
theorem ok_markings {f f1 : Addr} {fd fd1 : FuncData} {k j : Nat} (h1 : j ≤ k) (F : Fun K "_law_markings" "_law_markings" sMarkings f fd) (F1 : Fun K "_law_marking" "_law_marking" sMarking f1 fd1) (b1 : Binds K fd1 ["_law_draws_here", "_law_size", "_law_most"] []) (g1 : mg "_law_marking" = some (.ref f1))
    (G1 : FnOk P w K mg base CX0 j f1 fd1 ["_law_draws_here", "_law_size", "_law_most"] (spOne (0) K)) (mr : mg "range" = none) : FnOk P w K mg base CX0 (k + 1) f fd ["_law_draws_here", "_law_size", "_law_count", "_law_most"] (spMany (0) K) := by
  refine F.ok scMarkings (fun vs H Q E h => ?_) (fun cdv A outer s H vs Q E hr h => ?_)
  · obtain ⟨d, ds, n, c, m, rfl, _⟩ := h
    rfl
  · obtain ⟨d, ds, n, c, m, rfl, n4, c4, m0, hd, q⟩ := h
    refine ⟨_, pss_one (ps_ret
      (pe_lc (own := [("_law_k", 4)]) (g := gName 4) (tt := tYes) rfl scMarkings.nd (pi_range1 rfl mr (pa_cons (pv 2) pa_nil))
        (blkOk_by (N := ["_law_draws_here", "_law_size", "_law_count", "_law_most", "_law_k"]) (sc := defScope sMarkings) (by decide +kernel)) (fun _ _ _ _ _ => pg_name (i := 4) scMarkings.nd rfl (Or.inl rfl)) (fun _ _ _ _ _ => pts_nil)
        (fun _ _ _ _ _ => pe_call G1 (hr.mono h1) (by rfl) g1 F1.kp b1 .nil pass0 (pa_cons (pv 0) (pa_cons (pv 1) (pa_cons (pv 3) pa_nil)))))), ?_⟩
    refine ⟨.int c, rfl, (c : Int), rfl, (small62 (by omega)).1, (small62 (by omega)).2, fun D nD => ?_⟩
    rw [Int.toNat_natCast]
    have ndD : d ≠ D := ne_of_none hd nD
    refine lc_range (lo := 0) (n := c) (fun i H' => ∃ (ks : List (Addr × List Int)) (ds' : List Int), But d H H' ∧ H' d = some (.lst (nums ds')) ∧ H' D = some (.lst (refs ks)) ∧ (∀ q ∈ ks, Tup K H' q.1 q.2) ∧ ks.length = i ∧ ∀ q ∈ ks, q.2.length = n ∧ ∀ v ∈ q.2, 0 ≤ v ∧ v ≤ m)
      ⟨[], ds, fun b u _ e => same_new nD b u e, by rw [upd_ne ndD]; exact hd, upd_same, fun q hq => (by cases hq), rfl, fun q hq => (by cases hq)⟩ (fun i H' hi hP => ?_) (fun H' hP => ?_)
    · obtain ⟨ks, ds', hB, hd', hD', hT, hl, hx⟩ := hP
      refine ⟨rfl, .ref d, rfl, .int n, rfl, .int m, rfl, d, ds', n, m, rfl, n4, m0, hd', fun H4 t x ds4 b4 d4 t4 xl xr => ⟨_, b4 D _ ndD.symm hD', ?_, ks ++ [(t, x)], ds4, fun b u ne e => ?_, ?_, ?_, fun q hq => ?_, ?_, fun q hq => ?_⟩⟩
      · rw [List.length_map]
        exact small4 (by omega)
      · rw [upd_ne (ne_of_none e nD)]
        exact b4 b u ne (hB b u ne e)
      · rw [upd_ne ndD]
        exact d4
      · rw [upd_same]
        show some (HO.lst (refs ks ++ [V.ref t])) = some (.lst ((ks ++ [(t, x)]).map fun q => V.ref q.1))
        rw [List.map_append]
        rfl
      · have keep : But D H4 (upd H4 D (.lst (refs ks ++ [V.ref t]))) := (But.refl D H4).put
        have at4 : H4 D = some (.lst (refs ks)) := b4 D _ ndD.symm hD'
        rcases List.mem_append.mp hq with e | e
        · exact keep.tup at4 (b4.tup hd' (hT q e))
        · rw [List.mem_singleton.mp e]
          exact keep.tup at4 t4
      · rw [List.length_append, hl]
        rfl
      · rcases List.mem_append.mp hq with e | e
        · exact hx q e
        · rw [List.mem_singleton.mp e]
          exact ⟨xl, xr⟩
    · obtain ⟨ks, ds', hB, hd', hD', hT, hl, hx⟩ := hP
      exact q H' D ks ds' hB nD hd' hD' hT hl hx
end
theorem scLimit : FnScope ["_law_draws_here", "_law_size", "_law_most", "_law_k"] ["_law_draws_here", "_law_size", "_law_most"] (defScope sLimit) := ⟨rfl, rfl, rfl, by decide +kernel, rfl, by decide +kernel, by decide +kernel⟩
theorem scLimits : FnScope ["_law_draws_here", "_law_size", "_law_count", "_law_most", "_law_k"] ["_law_draws_here", "_law_size", "_law_count", "_law_most"] (defScope sLimits) := ⟨rfl, rfl, rfl, by decide +kernel, rfl, by decide +kernel, by decide +kernel⟩
section
variable {P : Program} {w : World} {K : PySem.W.Frag} {mg : Str → Option Value} {base : Heap}
theorem ok_limit {f f1 : Addr} {fd fd1 : FuncData} {k j : Nat} (h1 : j ≤ k) (F : Fun K "_law_limit" "_law_limit" sLimit f fd) (F1 : Fun K "_law_take" "_law_take" sTake f1 fd1) (b1 : Binds K fd1 ["_law_draws_here", "_law_limit_here"] []) (g1 : mg "_law_take" = some (.ref f1))
    (G1 : FnOk P w K mg base CX0 j f1 fd1 ["_law_draws_here", "_law_limit_here"] spTake) (mr : mg "range" = none) (mt : mg "tuple" = none) : FnOk P w K mg base CX0 (k + 1) f fd ["_law_draws_here", "_law_size", "_law_most"] (spOne (-1) K) := by
  refine F.ok scLimit (fun vs H Q E h => ?_) (fun cdv A outer s H vs Q E hr h => ?_)
  · obtain ⟨d, ds, n, m, rfl, _⟩ := h
    rfl
  · obtain ⟨d, ds, n, m, rfl, n4, m0, hd, q⟩ := h
    refine ⟨_, pss_one (ps_ret (pe_callTy call_tuple_of (by rfl) mt (by decide +kernel) (pa_cons
      (pe_lc (own := [("_law_k", 3)]) (g := gName 3) (tt := tYes) rfl scLimit.nd (pi_range1 rfl mr (pa_cons (pv 1) pa_nil))
        (blkOk_by (N := ["_law_draws_here", "_law_size", "_law_most", "_law_k"]) (sc := defScope sLimit) (by decide +kernel)) (fun _ _ _ _ _ => pg_name (i := 3) scLimit.nd rfl (Or.inl rfl)) (fun _ _ _ _ _ => pts_nil)
        (fun _ _ _ _ _ => pe_op op_sub (pe_call G1 (hr.mono h1) (by rfl) g1 F1.kp b1 .nil pass0 (pa_cons (pv 0) (pa_cons (pe_op op_add (pv 2) pe_int) pa_nil))) pe_int)) pa_nil))), ?_⟩
    refine ⟨.int n, rfl, (n : Int), rfl, (small62 (by omega)).1, (small62 (by omega)).2, fun D nD => ?_⟩
    rw [Int.toNat_natCast]
    have ndD : d ≠ D := ne_of_none hd nD
    refine lc_range (lo := 0) (n := n) (fun i H' => ∃ (xs ds' : List Int), But d H H' ∧ H' d = some (.lst (nums ds')) ∧ H' D = some (.lst (nums xs)) ∧ xs.length = i ∧ ∀ v ∈ xs, -1 ≤ v ∧ v ≤ m)
      ⟨[], ds, fun b u _ e => same_new nD b u e, by rw [upd_ne ndD]; exact hd, upd_same, rfl, fun v hv => (by cases hv)⟩ (fun i H' hi hP => ?_) (fun H' hP => ?_)
    · obtain ⟨xs, ds', hB, hd', hD', hl, hx⟩ := hP
      refine ⟨rfl, .ref d, rfl, .int m, rfl, m, 2, rfl, rfl, d, ds', m + 2, rfl, by omega, hd', fun H4 z ds4 b4 d4 z0 z1 => ⟨_, _, rfl, rfl, _, b4 D _ ndD.symm hD', ?_, xs ++ [z - 1], ds4, fun b u ne e => ?_, ?_, ?_, ?_, fun v hv => ?_⟩⟩
      · rw [List.length_map]
        exact small4 (by omega)
      · rw [upd_ne (ne_of_none e nD)]
        exact b4 b u ne (hB b u ne e)
      · rw [upd_ne ndD]
        exact d4
      · rw [upd_same]
        show some (HO.lst (nums xs ++ [V.int (z - 1)])) = some (.lst ((xs ++ [z - 1]).map V.int))
        rw [List.map_append]
        rfl
      · rw [List.length_append, hl]
        rfl
      · rcases List.mem_append.mp hv with c | c
        · exact hx v c
        · rw [List.mem_singleton.mp c]
          omega
    · obtain ⟨xs, ds', hB, hd', hD', hl, hx⟩ := hP
      refine ⟨D, _, rfl, .inl ⟨.inl (.inl hD'), fun t nt => q _ t xs ds' (hB.same (same_new nt)) (same_new nt _ _ hd') (.inl (.inl upd_same)) hl hx⟩⟩
theorem ok_limits {f f1 : Addr} {fd fd1 : FuncData} {k j : Nat} (h1 : j ≤ k) (F : Fun K "_law_limits" "_law_limits" sLimits f fd) (F1 : Fun K "_law_limit" "_law_limit" sLimit f1 fd1) (b1 : Binds K fd1 ["_law_draws_here", "_law_size", "_law_most"] []) (g1 : mg "_law_limit" = some (.ref f1))
    (G1 : FnOk P w K mg base CX0 j f1 fd1 ["_law_draws_here", "_law_size", "_law_most"] (spOne (-1) K)) (mr : mg "range" = none) : FnOk P w K mg base CX0 (k + 1) f fd ["_law_draws_here", "_law_size", "_law_count", "_law_most"] (spMany (-1) K) := by
  refine F.ok scLimits (fun vs H Q E h => ?_) (fun cdv A outer s H vs Q E hr h => ?_)
  · obtain ⟨d, ds, n, c, m, rfl, _⟩ := h
    rfl
  · obtain ⟨d, ds, n, c, m, rfl, n4, c4, m0, hd, q⟩ := h
    refine ⟨_, pss_one (ps_ret
      (pe_lc (own := [("_law_k", 4)]) (g := gName 4) (tt := tYes) rfl scLimits.nd (pi_range1 rfl mr (pa_cons (pv 2) pa_nil))
        (blkOk_by (N := ["_law_draws_here", "_law_size", "_law_count", "_law_most", "_law_k"]) (sc := defScope sLimits) (by decide +kernel)) (fun _ _ _ _ _ => pg_name (i := 4) scLimits.nd rfl (Or.inl rfl)) (fun _ _ _ _ _ => pts_nil)
        (fun _ _ _ _ _ => pe_call G1 (hr.mono h1) (by rfl) g1 F1.kp b1 .nil pass0 (pa_cons (pv 0) (pa_cons (pv 1) (pa_cons (pv 3) pa_nil)))))), ?_⟩
    refine ⟨.int c, rfl, (c : Int), rfl, (small62 (by omega)).1, (small62 (by omega)).2, fun D nD => ?_⟩
    rw [Int.toNat_natCast]
    have ndD : d ≠ D := ne_of_none hd nD
    refine lc_range (lo := 0) (n := c) (fun i H' => ∃ (ks : List (Addr × List Int)) (ds' : List Int), But d H H' ∧ H' d = some (.lst (nums ds')) ∧ H' D = some (.lst (refs ks)) ∧ (∀ q ∈ ks, Tup K H' q.1 q.2) ∧ ks.length = i ∧ ∀ q ∈ ks, q.2.length = n ∧ ∀ v ∈ q.2, -1 ≤ v ∧ v ≤ m)
      ⟨[], ds, fun b u _ e => same_new nD b u e, by rw [upd_ne ndD]; exact hd, upd_same, fun q hq => (by cases hq), rfl, fun q hq => (by cases hq)⟩ (fun i H' hi hP => ?_) (fun H' hP => ?_)
    · obtain ⟨ks, ds', hB, hd', hD', hT, hl, hx⟩ := hP
      refine ⟨rfl, .ref d, rfl, .int n, rfl, .int m, rfl, d, ds', n, m, rfl, n4, m0, hd', fun H4 t x ds4 b4 d4 t4 xl xr => ⟨_, b4 D _ ndD.symm hD', ?_, ks ++ [(t, x)], ds4, fun b u ne e => ?_, ?_, ?_, fun q hq => ?_, ?_, fun q hq => ?_⟩⟩
      · rw [List.length_map]
        exact small4 (by omega)
      · rw [upd_ne (ne_of_none e nD)]
        exact b4 b u ne (hB b u ne e)
      · rw [upd_ne ndD]
        exact d4
      · rw [upd_same]
        show some (HO.lst (refs ks ++ [V.ref t])) = some (.lst ((ks ++ [(t, x)]).map fun q => V.ref q.1))
        rw [List.map_append]
        rfl
      · have keep : But D H4 (upd H4 D (.lst (refs ks ++ [V.ref t]))) := (But.refl D H4).put
        have at4 : H4 D = some (.lst (refs ks)) := b4 D _ ndD.symm hD'
        rcases List.mem_append.mp hq with e | e
        · exact keep.tup at4 (b4.tup hd' (hT q e))
        · rw [List.mem_singleton.mp e]
          exact keep.tup at4 t4
      · rw [List.length_append, hl]
        rfl
      · rcases List.mem_append.mp hq with e | e
        · exact hx q e
        · rw [List.mem_singleton.mp e]
          exact ⟨xl, xr⟩
    · obtain ⟨ks, ds', hB, hd', hD', hT, hl, hx⟩ := hP
      exact q H' D ks ds' hB nD hd' hD' hT hl hx
end
end Cv
/-! CvLaw: the law (its term printed by gen_law.py) -/
namespace Cv
open PySem PySem.Spec PyProof.Rows L2
abbrev nLaw : List Str := ["_law_script", "_law_draws_here", "_law_size", "_law_base", "_law_members", "_law_others", "_law_limits_here", "_law_outside", "_law_inside", "_law_either", "_law_both", "_law_marking_here", "_law_number"]
theorem scLaw : FnScope nLaw ["_law_script"] (defScope sLaw) := ⟨rfl, rfl, rfl, by decide +kernel, rfl, by decide +kernel, by decide +kernel⟩
def lcScope : Expr → Scope
  | .ListComp _ _ sc _ => sc
  | _ => { kind := .function, names := [], isGenerator := false, isCoroutine := false }
def asgVal : Stmt → Expr
  | .Assign _ e _ => e
  | _ => .Constant .none 0 ⟨0, 0, 0, 0⟩
abbrev lawComp : Expr := asgVal ((defBody sLaw).getD 4 (.Pass ⟨0, 0, 0, 0⟩))
def rTupleOf (K : PySem.W.Frag) : List V → Hp → VK → Prop := fun xs H Q => ∃ p ys, xs = [.ref p] ∧ ((SqL K H p ys ∧ ∀ l, H l = none → Q (.ref l) (upd H l (.tup ys))) ∨ (SqT K H p ys ∧ Q (.ref p) H))
section
variable {P : Program} {w : World} {K : PySem.W.Frag} {mg : Str → Option Value} {base : Heap}
theorem newt_copy {H : Hp} {l p : Addr} {ks : List (Addr × List Int)} (h : NewT K H p ks) (n : H l = none) : NewT K (upd H l (.lst (refs ks))) l ks := ⟨upd_same, fun q hq => same_tup (same_new n) (h.2 q hq)⟩
theorem eq_no {L L' : List T} (e : L = L') : ¬ (!PyData.eqv (.list (L.map tup_)) (.list (L'.map tup_))) = true := by
  rw [e, eqv_list]
  decide
theorem key_in {ks : List (Addr × List Int)} {z : Addr × List Int} (h : z ∈ ks) : z.2 ∈ keys ks := List.mem_map.mpr ⟨z, h, rfl⟩
theorem keys_all {ks : List (Addr × List Int)} {p : T → Prop} (h : ∀ z ∈ ks, p z.2) : ∀ x ∈ keys ks, p x := fun x hx => by
  obtain ⟨z, h1, rfl⟩ := List.mem_map.mp hx
  exact h z h1
theorem few_keys {ks : List (Addr × List Int)} (h : ks.length < 4096) : Few (keys ks) := few_len (by rw [List.length_map]; exact h)
theorem newt_cat {H : Hp} {p l1 l2 : Addr} {as bs : List (Addr × List Int)} (h1 : NewT K H l1 as) (h2 : NewT K H l2 bs) (n : H p = none) : NewT K (upd H p (.lst (refs as ++ refs bs))) p (as ++ bs) := by
  refine ⟨?_, fun z hz => same_tup (same_new n) ?_⟩
  · rw [upd_same]
    show some (HO.lst (as.map _ ++ bs.map _)) = some (.lst ((as ++ bs).map _))
    rw [List.map_append]
  · rcases List.mem_append.mp hz with e | e
    · exact h1.2 z e
    · exact h2.2 z e
theorem keys_cat {as bs : List (Addr × List Int)} : keys (as ++ bs) = keys as ++ keys bs := List.map_append
/-- [t] with t = (c, c, ..) -/
theorem newt_one {H : Hp} {l t : Addr} {n : Nat} {c : Int} (h : SqT K H t (List.replicate n [V.int c]).flatten) (nl : H l = none) : NewT K (upd H l (.lst [.ref t])) l [(t, List.replicate n c)] := by
  refine ⟨upd_same, fun z hz => ?_⟩
  rw [List.mem_singleton.mp hz]
  refine same_tup (same_new nl) ?_
  rw [rep_flat] at h
  show SqT K H t ((List.replicate n c).map V.int)
  rw [List.map_replicate]
  exact h
theorem newt_nil {H : Hp} {l : Addr} : NewT K (upd H l (.lst [])) l [] := ⟨upd_same, fun z hz => (by cases hz)⟩
theorem eq_yes {L L' : List T} (e : L = L') : PyData.eqv (.list (L.map tup_)) (.list (L'.map tup_)) = true := by
  rw [e]
  exact eqv_list L'
/-- a def that may be called -/
structure Cal (P : Program) (w : World) (K : PySem.W.Frag) (mg : Str → Option Value) (base : Heap) (k : Nat) (x : Str) (ps : List Str) (sp : Sp) : Prop where
  ex : ∃ (j : Nat) (f : Addr) (fd : FuncData), j ≤ k ∧ FnOk P w K mg base CX0 j f fd ps sp ∧ mg x = some (.ref f) ∧ PySem.W.keepIn K (.ref f) = true ∧ Binds K fd ps []
def spLaw (K : PySem.W.Frag) : Sp := fun vs H Q _ => ∃ (a : Addr) (ns : List Int), vs = [.ref a] ∧ SqL K H a (nums ns) ∧ ∀ H', Q (.bl true) H'
theorem ok_law {f : Addr} {fd : FuncData} {k : Nat} (F : Fun K "law" "law" sLaw f fd)
    (cD : Cal P w K mg base k "_law_draws" ["_law_script", "_law_count"] (spDraws K)) (cT : Cal P w K mg base k "_law_take" ["_law_draws_here", "_law_limit_here"] spTake) (cC : Cal P w K mg base k "_law_cell" ["_law_script", "_law_k"] (spCell K))
    (cMs : Cal P w K mg base k "_law_markings" ["_law_draws_here", "_law_size", "_law_count", "_law_most"] (spMany 0 K)) (cLs : Cal P w K mg base k "_law_limits" ["_law_draws_here", "_law_size", "_law_count", "_law_most"] (spMany (-1) K))
    (cCc : Cal P w K mg base k "complement_closed" ["members", "size"] (spCclosed K)) (cCf : Cal P w K mg base k "complement_frame" ["limits", "size"] (spCframe K)) (cB : Cal P w K mg base k "basis_of" ["members"] (spBasis K)) (cF : Cal P w K mg base k "frame_of" ["limits"] (spFrame K))
    (cM : Cal P w K mg base k "meet" ["first", "second"] (spMeet K)) (cFm : Cal P w K mg base k "frame_meet" ["first", "second"] (spFmeet K))
    (mint : mg "int" = none) (mlist : mg "list" = none) (mtuple : mg "tuple" = none) : FnOk P w K mg base CX0 (k + 1) f fd ["_law_script"] (spLaw K) := by
  obtain ⟨jD, fD, fdD, hD, GD, gD, kD, bD⟩ := cD.ex
  obtain ⟨jT, fT, fdT, hT, GT, gT, kT, bT⟩ := cT.ex
  obtain ⟨jC, fC, fdC, hC, GC, gC, kC, bC⟩ := cC.ex
  obtain ⟨jMs, fMs, fdMs, hMs, GMs, gMs, kMs, bMs⟩ := cMs.ex
  obtain ⟨jLs, fLs, fdLs, hLs, GLs, gLs, kLs, bLs⟩ := cLs.ex
  obtain ⟨jCc, fCc, fdCc, hCc, GCc, gCc, kCc, bCc⟩ := cCc.ex
  obtain ⟨jCf, fCf, fdCf, hCf, GCf, gCf, kCf, bCf⟩ := cCf.ex
  obtain ⟨jB, fB, fdB, hB, GB, gB, kB, bB⟩ := cB.ex
  obtain ⟨jF, fF, fdF, hF, GF, gF, kF, bF⟩ := cF.ex
  obtain ⟨jM, fM, fdM, hM, GM, gM, kM, bM⟩ := cM.ex
  obtain ⟨jFm, fFm, fdFm, hFm, GFm, gFm, kFm, bFm⟩ := cFm.ex
  refine F.ok scLaw (fun vs H Q E h => ?_) (fun cdv A outer s H vs Q E hr h => ?_)
  · obtain ⟨a, ns, rfl, _⟩ := h
    rfl
  · obtain ⟨a, ns, rfl, hS, q⟩ := h
    refine ⟨_, (pss_cons (ps_set (i := 1) scLaw.nd rfl (.inl rfl) (pe_call GD (hr.mono hD) (by rfl) gD kD bD .nil pass0 (pa_cons (pv 0) (pa_cons pe_int pa_nil))))
      (pss_cons (ps_set (i := 2) scLaw.nd rfl (.inl rfl) (pe_op op_add pe_int (pe_call GT (hr.mono hT) (by rfl) gT kT bT .nil pass0 (pa_cons (pv 1) (pa_cons pe_int pa_nil)))))
      (pss_cons (ps_set (i := 3) scLaw.nd rfl (.inr rfl) pe_int)
      (C8.pss_cut (ps_if (pt_cmpR op_eq (pe_call GT (hr.mono hT) (by rfl) gT kT bT .nil pass0 (pa_cons (pv 1) (pa_cons pe_int pa_nil))) pe_int (nomark _)) (pss_one (ps_set (i := 3) scLaw.nd rfl (.inr rfl) (pe_op op_mod (pe_callTy call_int1 (by rfl) mint (by decide +kernel) (pa_cons (pe_call GC (hr.mono hC) (by rfl) gC kC bC .nil pass0 (pa_cons (pv 0) (pa_cons pe_int pa_nil))) pa_nil)) (pe_op op_pow pe_int pe_int)))) pss_nil)
      (pss_cons (ps_setLc (i := 4) (own := [("_law_marking_here", 11)]) (g := gName 11) (tt := tYes) (by rfl) scLaw.nd rfl rfl (sw_true rfl rfl rfl (by decide +kernel)) (pi_list (pe_call GMs (hr.mono hMs) (by rfl) gMs kMs bMs .nil pass0 (pa_cons (pv 1) (pa_cons (pv 2) (pa_cons (pe_call GT (hr.mono hT) (by rfl) gT kT bT .nil pass0 (pa_cons (pv 1) (pa_cons pe_int pa_nil))) (pa_cons pe_int pa_nil))))))
        (blkOk_by (N := nLaw) (sc := defScope sLaw) (by decide +kernel)) (fun _ _ _ _ _ => pg_name (i := 11) scLaw.nd rfl (Or.inl rfl)) (fun _ _ _ _ _ => pts_nil)
        (fun _ _ _ _ _ => (pe_callTy (show CallR _ (.type "tuple") (rTupleOf K) from call_tuple_of) (by rfl) mtuple (by decide +kernel) (pa_cons (pe_lc (own := [("_law_number", 12)]) (g := gName 12) (tt := tYes) rfl scLaw.nd (show PI _ _ _ (iTup K (tVar 11)) from pi_tup (pv 11))
          (blkOk_by (N := nLaw) (sc := relS (lcScope lawComp) (defScope sLaw)) (by decide +kernel)) (fun _ _ _ _ _ => pg_name (i := 12) scLaw.nd rfl (Or.inl rfl)) (fun _ _ _ _ _ => pts_nil)
          (fun _ _ _ _ _ => pe_op op_add (pv 3) (pv 12))) pa_nil))))
      (pss_cons (ps_set (i := 5) scLaw.nd rfl (.inl rfl) (pe_call GMs (hr.mono hMs) (by rfl) gMs kMs bMs .nil pass0 (pa_cons (pv 1) (pa_cons (pv 2) (pa_cons (pe_call GT (hr.mono hT) (by rfl) gT kT bT .nil pass0 (pa_cons (pv 1) (pa_cons pe_int pa_nil))) (pa_cons pe_int pa_nil))))))
      (C8.pss_cut (ps_set (i := 6) scLaw.nd rfl (.inl rfl) (pe_call GLs (hr.mono hLs) (by rfl) gLs kLs bLs .nil pass0 (pa_cons (pv 1) (pa_cons (pv 2) (pa_cons (pe_call GT (hr.mono hT) (by rfl) gT kT bT .nil pass0 (pa_cons (pv 1) (pa_cons pe_int pa_nil))) (pa_cons pe_int pa_nil))))))
      (pss_cons (ps_set (i := 7) scLaw.nd rfl (.inl rfl) (pe_call GCc (hr.mono hCc) (by rfl) gCc kCc bCc .nil pass0 (pa_cons (pe_callTy call_list_of (by rfl) mlist (by decide +kernel) (pa_cons (pv 4) pa_nil)) (pa_cons (pv 2) pa_nil))))
      (pss_cons (ps_if (PW.pt (pw_or (pt_cmpR (op_neD hr.units) (pe_call GCf (hr.mono hCf) (by rfl) gCf kCf bCf .nil pass0 (pa_cons (pe_callTy call_list_of (by rfl) mlist (by decide +kernel) (pa_cons (pv 7) pa_nil)) (pa_cons (pv 2) pa_nil))) (pe_call GB (hr.mono hB) (by rfl) gB kB bB .nil pass0 (pa_cons (pe_callTy call_list_of (by rfl) mlist (by decide +kernel) (pa_cons (pv 4) pa_nil)) pa_nil)) (nomark _)) (pw_or1 (pt_cmpR (op_neD hr.units) (pv 7) (pe_call GF (hr.mono hF) (by rfl) gF kF bF .nil pass0 (pa_cons (pe_callTy call_list_of (by rfl) mlist (by decide +kernel) (pa_cons (pv 7) pa_nil)) pa_nil)) (nomark _))))) (pss_one (ps_ret pe_bl)) pss_nil)
      (pss_cons (ps_set (i := 8) scLaw.nd rfl (.inl rfl) (pe_call GCf (hr.mono hCf) (by rfl) gCf kCf bCf .nil pass0 (pa_cons (pe_callTy call_list_of (by rfl) mlist (by decide +kernel) (pa_cons (pv 6) pa_nil)) (pa_cons (pv 2) pa_nil))))
      (pss_cons (ps_if (PW.pt (pw_or (pt_cmpR (op_neD hr.units) (pe_call GCc (hr.mono hCc) (by rfl) gCc kCc bCc .nil pass0 (pa_cons (pe_callTy call_list_of (by rfl) mlist (by decide +kernel) (pa_cons (pv 8) pa_nil)) (pa_cons (pv 2) pa_nil))) (pe_call GF (hr.mono hF) (by rfl) gF kF bF .nil pass0 (pa_cons (pe_callTy call_list_of (by rfl) mlist (by decide +kernel) (pa_cons (pv 6) pa_nil)) pa_nil)) (nomark _)) (pw_or1 (pt_cmpR (op_neD hr.units) (pv 8) (pe_call GB (hr.mono hB) (by rfl) gB kB bB .nil pass0 (pa_cons (pe_callTy call_list_of (by rfl) mlist (by decide +kernel) (pa_cons (pv 8) pa_nil)) pa_nil)) (nomark _))))) (pss_one (ps_ret pe_bl)) pss_nil)
      (pss_cons (ps_set (i := 9) scLaw.nd rfl (.inl rfl) (pe_call GF (hr.mono hF) (by rfl) gF kF bF .nil pass0 (pa_cons (pe_op op_cat (pe_callTy call_list_of (by rfl) mlist (by decide +kernel) (pa_cons (pv 7) pa_nil)) (pe_call GCc (hr.mono hCc) (by rfl) gCc kCc bCc .nil pass0 (pa_cons (pe_callTy call_list_of (by rfl) mlist (by decide +kernel) (pa_cons (pv 5) pa_nil)) (pa_cons (pv 2) pa_nil)))) pa_nil)))
      (pss_cons (ps_if (pt_cmpR (op_neD hr.units) (pe_call GCc (hr.mono hCc) (by rfl) gCc kCc bCc .nil pass0 (pa_cons (pe_call GM (hr.mono hM) (by rfl) gM kM bM .nil pass0 (pa_cons (pe_callTy call_list_of (by rfl) mlist (by decide +kernel) (pa_cons (pv 4) pa_nil)) (pa_cons (pe_callTy call_list_of (by rfl) mlist (by decide +kernel) (pa_cons (pv 5) pa_nil)) pa_nil))) (pa_cons (pv 2) pa_nil))) (pv 9) (nomark _)) (pss_one (ps_ret pe_bl)) pss_nil)
      (pss_cons (ps_set (i := 10) scLaw.nd rfl (.inl rfl) (pe_call GFm (hr.mono hFm) (by rfl) gFm kFm bFm .nil pass0 (pa_cons (pe_callTy call_list_of (by rfl) mlist (by decide +kernel) (pa_cons (pv 7) pa_nil)) (pa_cons (pe_call GCc (hr.mono hCc) (by rfl) gCc kCc bCc .nil pass0 (pa_cons (pe_callTy call_list_of (by rfl) mlist (by decide +kernel) (pa_cons (pv 5) pa_nil)) (pa_cons (pv 2) pa_nil))) pa_nil))))
      (pss_cons (ps_if (pt_cmpR (op_neD hr.units) (pe_call GCc (hr.mono hCc) (by rfl) gCc kCc bCc .nil pass0 (pa_cons (pe_op op_cat (pe_callTy call_list_of (by rfl) mlist (by decide +kernel) (pa_cons (pv 4) pa_nil)) (pe_callTy call_list_of (by rfl) mlist (by decide +kernel) (pa_cons (pv 5) pa_nil))) (pa_cons (pv 2) pa_nil))) (pv 10) (nomark _)) (pss_one (ps_ret pe_bl)) pss_nil)
      (pss_one (ps_ret (pe_and (pe_cmpR (op_eqD hr.units) (pe_call GCc (hr.mono hCc) (by rfl) gCc kCc bCc .nil pass0 (pa_cons (pe_lst (pa_cons (pe_op op_mulS (pe_tup (pa_cons pe_int pa_nil)) (pv 2)) pa_nil)) (pa_cons (pv 2) pa_nil))) (pe_lst pa_nil) (nomark _)) (pe_one (pe_cmpR (op_eqD hr.units) (pe_call GCf (hr.mono hCf) (by rfl) gCf kCf bCf .nil pass0 (pa_cons (pe_lst (pa_cons (pe_op op_mulS (pe_tup (pa_cons (pe_un un_neg pe_int) pa_nil)) (pv 2)) pa_nil)) (pa_cons (pv 2) pa_nil))) (pe_lst pa_nil) (nomark _))))))))))))))))))))), ?_⟩
    -- draws
    refine ⟨.ref a, rfl, a, ns, rfl, hS, fun H1 d ds s1 nd hd => ?_⟩
    -- size
    refine ⟨.ref d, rfl, d, ds, 4, rfl, by decide, hd, fun H2 z2 ds2 b2 hd2 z20 z21 => ?_⟩
    obtain ⟨zn, rfl⟩ : ∃ zn : Nat, z2 = zn := ⟨z2.toNat, by omega⟩
    refine ⟨1, zn, rfl, rfl, ?_⟩
    -- base
    refine ⟨fun σ H' => ∃ (n : Nat) (b : Int) (ds' : List Int), σ = [some (.ref a), some (.ref d), some (.int n), some (.int b), none, none, none, none, none, none, none, none, none] ∧ 1 ≤ n ∧ n ≤ 4 ∧ 0 ≤ b ∧ But d H1 H' ∧ H' d = some (.lst (nums ds')), ?_, ?_⟩
    · refine ⟨.ref d, rfl, d, ds2, 3, rfl, by decide, hd2, fun H3 z3 ds3 b3 hd3 _ _ => ⟨rfl, _, rfl, ?_⟩⟩
      have b13 : But d H1 H3 := fun b u ne e => b3 b u ne (b2 b u ne e)
      refine ite2 (fun _ => ?_) (fun _ => ?_)
      · refine ⟨.ref a, rfl, a, ns, rfl, (b13.all s1 nd).seq hS, fun z => .inl ⟨_, rfl, _, _, rfl, rfl, (by show (0 : Int) ≤ 20 ∧ (20 : Int) ≤ 1000000 ∧ (10 : Int).natAbs < 2 ^ 64; decide), _, _, rfl, rfl, (by show (0 : Int) < 10 ^ 20; decide), ?_⟩⟩
        exact ⟨1 + zn, z % 10 ^ 20, ds3, rfl, by omega, by omega, Int.emod_nonneg _ (by decide), b13, hd3⟩
      · exact ⟨1 + zn, 0, ds3, rfl, by omega, by omega, Int.le_refl 0, b13, hd3⟩
    rintro σ H3 ⟨n, b, ds3, rfl, n1, n4, b0, b13, hd3⟩
    -- members
    refine ⟨.ref d, rfl, .int n, rfl, .ref d, rfl, d, ds3, 5, rfl, by decide, hd3, fun H4 z4 ds4 b4 hd4 z40 z41 => ?_⟩
    obtain ⟨c4, rfl⟩ : ∃ c : Nat, z4 = c := ⟨z4.toNat, by omega⟩
    refine ⟨d, ds4, n, c4, 3, rfl, n4, by omega, by decide, hd4, fun H5 p5 ks5 ds5 b5 np5 hd5 hp5 t5 l5 r5 => ⟨p5, rfl, ⟨_, .inl (.inl hp5)⟩, fun D nD => ?_⟩⟩
    have b15 : But d H1 H5 := fun z u ne e => b5 z u ne (b4 z u ne (b13 z u ne e))
    have dD : d ≠ D := ne_of_none hd5 nD
    have hp5D : p5 ≠ D := ne_of_none hp5 nD
    refine lc_list (xs := refs ks5) (fun i H' => ∃ R : List (Addr × List Int), But D (upd H5 D (.lst [])) H' ∧ NewT K H' D R ∧ keys R = (keys (ks5.take i)).map (fun x => x.map (fun u => b + u)))
      ⟨[], But.refl _ _, ⟨upd_same, fun z hz => (by cases hz)⟩, rfl⟩ (fun i H' _ hP => ?_) (fun i v H' hv hP => ?_) (fun H' hP => ?_)
    · obtain ⟨R, hU, _⟩ := hP
      exact .inl (.inl (hU p5 _ hp5D (same_new nD _ _ hp5)))
    · obtain ⟨R, hU, hR, hK⟩ := hP
      have hi : i < ks5.length := by
        have := (List.getElem?_eq_some_iff.mp hv).1
        rwa [List.length_map] at this
      rw [map_at hi] at hv
      obtain rfl : V.ref ks5[i].1 = v := Option.some.inj hv
      have hx : ks5[i] ∈ ks5 := List.getElem_mem hi
      have next := take_keys hi
      generalize ks5[i] = x at hx next ⊢
      have tx : Tup K H' x.1 x.2 := hU.tup upd_same (same_tup (same_new nD) (t5 x hx))
      have lx : x.2.length ≤ 4 := by rw [(r5 x hx).1]; exact n4
      refine ⟨rfl, .ref x.1, rfl, x.1, rfl, ⟨_, tx⟩, fun D2 nD2 => lc_tup (xs := x.2.map V.int) (fun j H'' => But D2 (upd H' D2 (.lst [])) H'' ∧ H'' D2 = some (.lst (nums ((x.2.take j).map (fun u => b + u)))))
        ⟨But.refl _ _, by rw [upd_same]; rfl⟩ (fun j H'' _ hP => ?_) (fun j v H'' hv hP => ?_) (fun H'' hP => ?_)⟩
      · exact hP.1.tup upd_same (same_tup (same_new nD2) tx)
      · obtain ⟨hU2, hD2⟩ := hP
        have hj : j < x.2.length := by
          have := (List.getElem?_eq_some_iff.mp hv).1
          rwa [List.length_map] at this
        rw [map_at hj] at hv
        obtain rfl : V.int x.2[j] = v := Option.some.inj hv
        refine ⟨rfl, _, rfl, _, rfl, b, x.2[j], rfl, rfl, _, hD2, ?_, hU2.put, ?_⟩
        · rw [List.length_map, List.length_map, List.length_take]
          exact small4 (Nat.le_trans (Nat.min_le_left _ _) (by omega))
        · rw [upd_same, List.take_add_one, List.getElem?_eq_getElem hj, List.map_append]
          show some (HO.lst (nums _ ++ [V.int (b + x.2[j])])) = some (.lst ((_ ++ [b + x.2[j]]).map V.int))
          rw [List.map_append]
          rfl
      · obtain ⟨hU2, hD2⟩ := hP
        rw [List.length_map, List.take_length] at hD2
        have s2 : Same H' H'' := fun z u e => hU2 z u (ne_of_none e nD2) (same_new nD2 z u e)
        refine ⟨D2, _, rfl, .inl ⟨.inl (.inl hD2), fun t nt => ?_⟩⟩
        have s3 := s2.trans (same_new (o := .tup (nums (x.2.map (fun u => b + u)))) nt)
        have hR3 := hR.same s3
        have tt3 : Tup K (upd H'' t (.tup (nums (x.2.map (fun u => b + u))))) t (x.2.map (fun u => b + u)) := .inl (.inl upd_same)
        refine ⟨_, hR3.1, ?_, R ++ [(t, x.2.map (fun u => b + u))], (hU.same s3).put, ⟨?_, fun z hz => ?_⟩, ?_⟩
        · rw [List.length_map]
          have e := congrArg List.length hK
          rw [List.length_map, List.length_map, List.length_map, List.length_take] at e
          exact small4 (by omega)
        · rw [upd_same]
          show some (HO.lst (refs R ++ [V.ref t])) = some (.lst ((R ++ [(t, x.2.map (fun u => b + u))]).map fun q => V.ref q.1))
          rw [List.map_append]
          rfl
        · rcases List.mem_append.mp hz with e | e
          · exact ((But.refl D _).put).tup hR3.1 (hR3.2 z e)
          · rw [List.mem_singleton.mp e]
            exact ((But.refl D _).put).tup hR3.1 tt3
        · show (R ++ [(t, x.2.map (fun u => b + u))]).map (fun q => q.2) = _
          rw [List.map_append, next, List.map_append, ← hK]
          rfl
    obtain ⟨mem, hU, hM, hK⟩ := hP
    rw [List.length_map, List.take_length] at hK
    have b16 : But d H1 H' := fun z u ne e => by
      have e5 := b15 z u ne e
      exact hU z u (ne_of_none e5 nD) (same_new nD z u e5)
    have hd6 : H' d = some (.lst (nums ds5)) := hU d _ dD (same_new nD _ _ hd5)
    have memF : ∀ z ∈ mem, z.2.length = n ∧ ∀ u ∈ z.2, b ≤ u ∧ u ≤ b + 3 := fun z hz => by
      have h1 : z.2 ∈ keys mem := List.mem_map.mpr ⟨z, hz, rfl⟩
      rw [hK] at h1
      obtain ⟨x, h2, h3⟩ := List.mem_map.mp h1
      obtain ⟨y, h4, rfl⟩ := List.mem_map.mp h2
      rw [← h3]
      refine ⟨by rw [List.length_map]; exact (r5 y h4).1, fun u hu => ?_⟩
      obtain ⟨u', h5, rfl⟩ := List.mem_map.mp hu
      have := (r5 y h4).2 u' h5
      omega
    have memL : mem.length ≤ 4 := by
      have e := congrArg List.length hK
      rw [List.length_map, List.length_map, List.length_map] at e
      omega
    clear hU hK hp5 t5 r5 l5 b15 b5 b4 b13
    generalize H' = H6 at *
    -- others
    refine ⟨.ref d, rfl, .int n, rfl, .ref d, rfl, d, ds5, 4, rfl, by decide, hd6, fun H7 z7 ds7 b7 hd7 z70 z71 => ?_⟩
    obtain ⟨c7, rfl⟩ : ∃ c : Nat, z7 = c := ⟨z7.toNat, by omega⟩
    refine ⟨d, ds7, n, c7, 3, rfl, n4, by omega, by decide, hd7, fun H8 po os ds8 b8 npo hd8 hpo to lo ro => ?_⟩
    have nO : NewT K H8 po os := ⟨hpo, to⟩
    have hM8 : NewT K H8 D mem := (show But d H6 H8 from fun z u ne e => b8 z u ne (b7 z u ne e)).newt hd6 dD.symm hM
    have dpo : po ≠ d := (ne_of_none hd7 npo).symm
    -- limits, and all of them from here on
    refine ⟨fun σ H' => ∃ (n : Nat) (b : Int) (y1 : Option V) (D po pl : Addr) (mem os ls : List (Addr × List Int)), σ = [some (.ref a), y1, some (.int n), some (.int b), some (.ref D), some (.ref po), some (.ref pl), none, none, none, none, none, none] ∧ 1 ≤ n ∧ n ≤ 4 ∧ 0 ≤ b ∧
      NewT K H' D mem ∧ NewT K H' po os ∧ NewT K H' pl ls ∧ (∀ z ∈ mem, z.2.length = n ∧ ∀ u ∈ z.2, b ≤ u ∧ u ≤ b + 3) ∧ (∀ z ∈ os, z.2.length = n ∧ ∀ u ∈ z.2, 0 ≤ u ∧ u ≤ 3) ∧ (∀ z ∈ ls, z.2.length = n ∧ ∀ u ∈ z.2, -1 ≤ u ∧ u ≤ 3) ∧ mem.length ≤ 4 ∧ os.length ≤ 3 ∧ ls.length ≤ 4, ?_, ?_⟩
    · refine ⟨.ref d, rfl, .int n, rfl, .ref d, rfl, d, ds8, 5, rfl, by decide, hd8, fun H9 z9 ds9 b9 hd9 z90 z91 => ?_⟩
      obtain ⟨c9, rfl⟩ : ∃ c : Nat, z9 = c := ⟨z9.toNat, by omega⟩
      refine ⟨d, ds9, n, c9, 3, rfl, n4, by omega, by decide, hd9, fun H10 pl ls ds10 b10 npl hd10 hpl tl ll rl => ?_⟩
      have b810 : But d H8 H10 := fun z u ne e => b10 z u ne (b9 z u ne e)
      exact ⟨n, b, _, D, po, pl, mem, os, ls, rfl, n1, n4, b0, b810.newt hd8 dD.symm hM8, b810.newt hd8 dpo nO, ⟨hpl, tl⟩, memF, ro, rl, memL, by omega, by omega⟩
    clear hM8 nO dpo hM memF memL to lo ro hpo hd8 npo b8 hd7 b7 z70 z71 hd6 b16 dD nD hd5 np5 hd4 z40 z41 hd3 hd2 b2 z20 z21 hd nd s1 n1 n4 b0
    rintro σ H11 ⟨n, b, y1, D, po, pl, mem, os, ls, rfl, n1, n4, b0, nM, nO, nL, fM, fO, fL, lM, lO, lL⟩
    have nnM : ∀ z ∈ mem, NN z.2 := fun z hz u hu => by have := (fM z hz).2 u hu; omega
    have nnO : ∀ z ∈ os, NN z.2 := fun z hz u hu => ((fO z hz).2 u hu).1
    have geL : ∀ z ∈ ls, GE z.2 := fun z hz u hu => ((fL z hz).2 u hu).1
    -- outside
    refine ⟨.ref D, rfl, D, _, rfl, .inl (.inl (.inl nM.1)), fun l1 nl1 => ⟨.int n, rfl, l1, mem, n, sM b, rfl, (newt_copy nM nl1).tups, n1, n4, (by show 5 ≤ 8; decide), List.mem_cons_self, fun z hz => ⟨(fM z hz).1, nnM z hz, fun u hu _ => toM ((fM z hz).2 u hu)⟩, fun H12 pA A s12 nA cA => ?_⟩⟩
    have t12 : Same H11 H12 := (same_new nl1).trans s12
    replace nM := nM.same t12
    replace nO := nO.same t12
    replace nL := nL.same t12
    have lA : A.length ≤ 625 := by
      have := cA.size (k := 5) (Nat.le_refl 5) (by decide) n4
      rwa [List.length_map] at this
    have fA : ∀ z ∈ A, z.2.length = n ∧ GE z.2 := fun z hz => ⟨cA.can.len _ (key_in hz), cA.ge _ (key_in hz)⟩
    -- complement_frame(list(outside), size) != basis_of(list(members)) or outside != frame_of(list(outside))
    refine ⟨.ref pA, rfl, pA, _, rfl, .inl (.inl (.inl nA.1)), fun l2 nl2 => ⟨.int n, rfl, l2, A, n, sU b, rfl, (newt_copy nA nl2).tups, n1, n4, (by show 5 ≤ 8; decide), List.mem_cons_self, fun z hz => ⟨(fA z hz).1, (fA z hz).2, fun u hu ne => toU (cA.ins _ (key_in hz) u hu) ne⟩, fun H13 p13 R13 s13 n13 c13 => ?_⟩⟩
    have t13 : Same H12 H13 := (same_new nl2).trans s13
    replace nM := nM.same t13
    replace nO := nO.same t13
    replace nL := nL.same t13
    replace nA := nA.same t13
    refine ⟨.ref D, rfl, D, _, rfl, .inl (.inl (.inl nM.1)), fun l3 nl3 => ⟨l3, mem, n, rfl, (newt_copy nM nl3).tups, n1, n4, fun z hz => ⟨(fM z hz).1, nnM z hz⟩, few_keys (by omega), fun H14 p14 R14 s14 n14 c14 => ?_⟩⟩
    have t14 : Same H13 H14 := (same_new nl3).trans s14
    replace nM := nM.same t14
    replace nO := nO.same t14
    replace nL := nL.same t14
    replace nA := nA.same t14
    have e1 : keys R13 = keys R14 := law_basis cA c13 c14 (keys_all nnM)
    refine ⟨_, _, dp_list (n13.same t14).tups, dp_list n14.tups, shaped_list _, shaped_list _, _, rfl, ite2 (fun c => absurd c (eq_no e1)) (fun _ => ?_)⟩
    refine ⟨.ref pA, rfl, .ref pA, rfl, pA, _, rfl, .inl (.inl (.inl nA.1)), fun l4 nl4 => ⟨l4, A, n, rfl, (newt_copy nA nl4).tups, n1, n4, fun z hz => (fA z hz).1, few_keys (by omega), fun H15 p15 R15 s15 n15 c15 => ?_⟩⟩
    have t15 : Same H14 H15 := (same_new nl4).trans s15
    replace nM := nM.same t15
    replace nO := nO.same t15
    replace nL := nL.same t15
    replace nA := nA.same t15
    have e2 : keys A = keys R15 := law_frame_self cA c15
    refine ⟨_, _, dp_list nA.tups, dp_list n15.tups, shaped_list _, shaped_list _, _, rfl, ite2 (fun c => absurd c (eq_no e2)) (fun _ => ?_)⟩
    -- inside
    refine ⟨.ref pl, rfl, pl, _, rfl, .inl (.inl (.inl nL.1)), fun l5 nl5 => ⟨.int n, rfl, l5, ls, n, sL, rfl, (newt_copy nL nl5).tups, n1, n4, (by show 5 ≤ 8; decide), List.mem_cons_self, fun z hz => ⟨(fL z hz).1, geL z hz, fun u hu ne => toL ((fL z hz).2 u hu) ne⟩, fun H16 pI I s16 nI cI => ?_⟩⟩
    have t16 : Same H15 H16 := (same_new nl5).trans s16
    replace nM := nM.same t16
    replace nO := nO.same t16
    replace nL := nL.same t16
    replace nA := nA.same t16
    have lI : I.length ≤ 625 := by
      have := cI.size (k := 5) (Nat.le_refl 5) (by decide) n4
      rwa [List.length_map] at this
    have fI : ∀ z ∈ I, z.2.length = n ∧ NN z.2 := fun z hz => ⟨cI.can.len _ (key_in hz), cI.nn _ (key_in hz)⟩
    -- complement_closed(list(inside), size) != frame_of(list(limits)) or inside != basis_of(list(inside))
    refine ⟨.ref pI, rfl, pI, _, rfl, .inl (.inl (.inl nI.1)), fun l6 nl6 => ⟨.int n, rfl, l6, I, n, sD, rfl, (newt_copy nI nl6).tups, n1, n4, (by show 5 ≤ 8; decide), List.mem_cons_self, fun z hz => ⟨(fI z hz).1, (fI z hz).2, fun u hu _ => toD (cI.ins _ (key_in hz) u hu)⟩, fun H17 p17 R17 s17 n17 c17 => ?_⟩⟩
    have t17 : Same H16 H17 := (same_new nl6).trans s17
    replace nM := nM.same t17
    replace nO := nO.same t17
    replace nL := nL.same t17
    replace nA := nA.same t17
    replace nI := nI.same t17
    refine ⟨.ref pl, rfl, pl, _, rfl, .inl (.inl (.inl nL.1)), fun l7 nl7 => ⟨l7, ls, n, rfl, (newt_copy nL nl7).tups, n1, n4, fun z hz => (fL z hz).1, few_keys (by omega), fun H18 p18 R18 s18 n18 c18 => ?_⟩⟩
    have t18 : Same H17 H18 := (same_new nl7).trans s18
    replace nM := nM.same t18
    replace nO := nO.same t18
    replace nA := nA.same t18
    replace nI := nI.same t18
    have e3 : keys R17 = keys R18 := law_frame cI c17 c18 (keys_all geL)
    refine ⟨_, _, dp_list (n17.same t18).tups, dp_list n18.tups, shaped_list _, shaped_list _, _, rfl, ite2 (fun c => absurd c (eq_no e3)) (fun _ => ?_)⟩
    refine ⟨.ref pI, rfl, .ref pI, rfl, pI, _, rfl, .inl (.inl (.inl nI.1)), fun l8 nl8 => ⟨l8, I, n, rfl, (newt_copy nI nl8).tups, n1, n4, fI, few_keys (by omega), fun H19 p19 R19 s19 n19 c19 => ?_⟩⟩
    have t19 : Same H18 H19 := (same_new nl8).trans s19
    replace nM := nM.same t19
    replace nO := nO.same t19
    replace nA := nA.same t19
    replace nI := nI.same t19
    have e4 : keys I = keys R19 := law_basis_self cI c19
    refine ⟨_, _, dp_list nI.tups, dp_list n19.tups, shaped_list _, shaped_list _, _, rfl, ite2 (fun c => absurd c (eq_no e4)) (fun _ => ?_)⟩
    clear e1 e2 e3 e4 n13 n14 n15 n17 n18 n19 c13 c14 c15 c17 c18 c19 nI cI lI fI geL nL fL lL
    -- either = frame_of(list(outside) + complement_closed(list(others), size))
    refine ⟨.ref pA, rfl, pA, _, rfl, .inl (.inl (.inl nA.1)), fun l9 nl9 => ?_⟩
    have nl9A := newt_copy nA nl9
    have t9 : Same H19 (upd H19 l9 (.lst (refs A))) := same_new nl9
    replace nM := nM.same t9
    replace nO := nO.same t9
    replace nA := nA.same t9
    refine ⟨.ref po, rfl, po, _, rfl, .inl (.inl (.inl nO.1)), fun l10 nl10 => ⟨.int n, rfl, l10, os, n, sO, rfl, (newt_copy nO nl10).tups, n1, n4, (by show 4 ≤ 8; decide), List.mem_cons_self, fun z hz => ⟨(fO z hz).1, nnO z hz, fun u hu _ => toO ((fO z hz).2 u hu)⟩, fun H20 pB B s20 nB cB => ?_⟩⟩
    have t20 := (same_new nl10).trans s20
    replace nl9A := nl9A.same t20
    replace nM := nM.same t20
    replace nO := nO.same t20
    replace nA := nA.same t20
    have lB : B.length ≤ 256 := by
      have := cB.size (k := 4) (Nat.le_refl 4) (by decide) n4
      rwa [List.length_map] at this
    refine ⟨l9, pB, refs A, refs B, rfl, rfl, nl9A.1, nB.1, by rw [List.length_map, List.length_map, sizeLine_eq]; omega, fun p21 np21 => ?_⟩
    have t21 : Same H20 (upd H20 p21 (.lst (refs A ++ refs B))) := same_new np21
    refine ⟨p21, A ++ B, n, rfl, (newt_cat nl9A nB np21).tups, n1, n4, fun z hz => ?_, few_keys (by rw [List.length_append]; omega), fun H22 pE E1 s22 nE cE => ?_⟩
    · rcases List.mem_append.mp hz with e | e
      · exact (fA z e).1
      · exact cB.can.len _ (key_in e)
    have t22 := t21.trans s22
    replace nM := nM.same t22
    replace nO := nO.same t22
    replace nA := nA.same t22
    rw [keys_cat] at cE
    -- complement_closed(meet(list(members), list(others)), size) != either
    refine ⟨.ref D, rfl, D, _, rfl, .inl (.inl (.inl nM.1)), fun l11 nl11 => ?_⟩
    have t11 : Same H22 (upd H22 l11 (.lst (refs mem))) := same_new nl11
    have nl11M := newt_copy nM nl11
    replace nM := nM.same t11
    replace nO := nO.same t11
    replace nA := nA.same t11
    replace nE := nE.same t11
    refine ⟨.ref po, rfl, po, _, rfl, .inl (.inl (.inl nO.1)), fun l12 nl12 => ⟨l11, l12, mem, os, n, rfl, (nl11M.same (same_new nl12)).tups, (newt_copy nO nl12).tups, n1, n4, fun z hz => ⟨(fM z hz).1, nnM z hz⟩, fun z hz => ⟨(fO z hz).1, nnO z hz⟩, ?_, ?_, fun H23 pX X1 s23 nX cX => ?_⟩⟩
    · have := Nat.mul_le_mul lM lO
      omega
    · refine few_len ?_
      rw [prod_len, List.length_map, List.length_map]
      have := Nat.mul_le_mul lM lO
      omega
    have t23 := (same_new nl12).trans s23
    replace nM := nM.same t23
    replace nO := nO.same t23
    replace nA := nA.same t23
    replace nE := nE.same t23
    have inMO : ∀ x ∈ prod jnT (keys mem) (keys os), x.length = n ∧ NN x ∧ ∀ u ∈ x, u ∈ sJ b := fun x hx =>
      ⟨len_prod (fun _ _ => jnT_len) (keys_all fun z hz => (fM z hz).1) (keys_all fun z hz => (fO z hz).1) x hx,
        nn_jn (keys_all nnM) (keys_all nnO) x hx,
        in_jn (S := sJ b) (keys_all (p := fun x => ∀ u ∈ x, u ∈ sJ b) fun z hz u hu => toJ1 ((fM z hz).2 u hu)) (keys_all (p := fun x => ∀ u ∈ x, u ∈ sJ b) fun z hz u hu => toJ2 ((fO z hz).2 u hu)) x hx⟩
    refine ⟨.int n, rfl, pX, X1, n, sA b, rfl, nX.tups, n1, n4, (by show 8 ≤ 8; decide), List.mem_cons_self, fun z hz => ?_, fun H24 pC C1 s24 nC cC => ?_⟩
    · obtain ⟨g1, g2, g3⟩ := inMO _ (cX.sub _ (key_in hz))
      exact ⟨g1, g2, fun u hu hp => toA (g3 u hu) hp⟩
    replace nM := nM.same s24
    replace nO := nO.same s24
    replace nA := nA.same s24
    replace nE := nE.same s24
    have e5 : keys C1 = keys E1 := law_either cA cB cX cC cE (keys_all fun z hz => (fM z hz).1) (keys_all fun z hz => (fO z hz).1) (keys_all nnM) (keys_all nnO)
    refine ⟨.ref pE, rfl, _, _, dp_list nC.tups, dp_list nE.tups, shaped_list _, shaped_list _, _, rfl, ite2 (fun c => absurd c (eq_no e5)) (fun _ => ?_)⟩
    clear e5 nC cC nX cX nE cE
    -- both = frame_meet(list(outside), complement_closed(list(others), size))
    refine ⟨.ref pA, rfl, pA, _, rfl, .inl (.inl (.inl nA.1)), fun l13 nl13 => ?_⟩
    have t13' : Same H24 (upd H24 l13 (.lst (refs A))) := same_new nl13
    have nl13A := newt_copy nA nl13
    replace nM := nM.same t13'
    replace nO := nO.same t13'
    refine ⟨.ref po, rfl, po, _, rfl, .inl (.inl (.inl nO.1)), fun l14 nl14 => ⟨.int n, rfl, l14, os, n, sO, rfl, (newt_copy nO nl14).tups, n1, n4, (by show 4 ≤ 8; decide), List.mem_cons_self, fun z hz => ⟨(fO z hz).1, nnO z hz, fun u hu _ => toO ((fO z hz).2 u hu)⟩, fun H25 pB2 B2 s25 nB2 cB2 => ?_⟩⟩
    have t25 := (same_new nl14).trans s25
    replace nM := nM.same t25
    replace nO := nO.same t25
    replace nl13A := nl13A.same t25
    have lB2 : B2.length ≤ 256 := by
      have := cB2.size (k := 4) (Nat.le_refl 4) (by decide) n4
      rwa [List.length_map] at this
    refine ⟨l13, pB2, A, B2, n, rfl, nl13A.tups, nB2.tups, n1, n4, fun z hz => (fA z hz).1, fun z hz => cB2.can.len _ (key_in hz), ?_, ?_, fun H26 pG G1 s26 nG cG => ?_⟩
    · have := Nat.mul_le_mul lA lB2
      omega
    · exact few_both cA cB2 n4 (S := sA b) (by show 8 ≤ 8; decide) List.mem_cons_self (fun u hu => sM_A hu) (fun u hu => sO_A hu) (keys_all fun z hz => (fM z hz).1) (keys_all fun z hz => (fO z hz).1) (keys_all nnM) (keys_all nnO)
    replace nM := nM.same s26
    replace nO := nO.same s26
    -- complement_closed(list(members) + list(others), size) != both
    refine ⟨.ref D, rfl, D, _, rfl, .inl (.inl (.inl nM.1)), fun l15 nl15 => ?_⟩
    have t15' : Same H26 (upd H26 l15 (.lst (refs mem))) := same_new nl15
    have nl15M := newt_copy nM nl15
    replace nO := nO.same t15'
    replace nG := nG.same t15'
    refine ⟨.ref po, rfl, po, _, rfl, .inl (.inl (.inl nO.1)), fun l16 nl16 => ?_⟩
    have t16' : Same (upd H26 l15 (.lst (refs mem))) (upd (upd H26 l15 (.lst (refs mem))) l16 (.lst (refs os))) := same_new nl16
    have nl16O := newt_copy nO nl16
    replace nl15M := nl15M.same t16'
    replace nG := nG.same t16'
    generalize upd (upd H26 l15 (.lst (refs mem))) l16 (.lst (refs os)) = H27 at nl15M nl16O nG ⊢
    refine ⟨l15, l16, refs mem, refs os, rfl, rfl, nl15M.1, nl16O.1, by rw [List.length_map, List.length_map, sizeLine_eq]; omega, fun p28 np28 => ?_⟩
    have t28 : Same H27 (upd H27 p28 (.lst (refs mem ++ refs os))) := same_new np28
    refine ⟨.int n, rfl, p28, mem ++ os, n, sA b, rfl, (newt_cat nl15M nl16O np28).tups, n1, n4, (by show 8 ≤ 8; decide), List.mem_cons_self, fun z hz => ?_, fun H29 pW W1 s29 nW cW => ?_⟩
    · rcases List.mem_append.mp hz with e | e
      · exact ⟨(fM z e).1, nnM z e, fun u hu hp => toA (toJ1 ((fM z e).2 u hu)) hp⟩
      · exact ⟨(fO z e).1, nnO z e, fun u hu hp => toA (toJ2 ((fO z e).2 u hu)) hp⟩
    replace nG := nG.same (t28.trans s29)
    rw [keys_cat] at cW
    have e6 : keys W1 = keys G1 := law_both cA cB2 cG cW
    refine ⟨.ref pG, rfl, _, _, dp_list nW.tups, dp_list nG.tups, shaped_list _, shaped_list _, _, rfl, ite2 (fun c => absurd c (eq_no e6)) (fun _ => ?_)⟩
    clear e6
    -- return complement_closed([(0,) * size], size) == [] and complement_frame([(-1,) * size], size) == []
    refine ⟨by show 1 ≤ sizeLine; decide, fun ta nta => ⟨.int n, rfl, ta, n, _, rfl, rfl, .inl (.inl upd_same), by simp, n1, by omega, by decide, fun H30 tb s30 htb => ⟨by show 1 ≤ sizeLine; decide, fun la nla => ⟨.int n, rfl, la, [(tb, List.replicate n 0)], n, [-1], rfl, (newt_one htb nla).tups, n1, n4, (by show 1 ≤ 8; decide), List.mem_cons_self, fun z hz => ?_, fun H31 pZ Z s31 nZ cZ => ⟨Nat.zero_le _, fun e1 ne1 => ?_⟩⟩⟩⟩⟩
    · rw [List.mem_singleton.mp hz]
      refine ⟨List.length_replicate, fun u hu => ?_, fun u hu hp => ?_⟩
      · rw [List.eq_of_mem_replicate hu]
        exact Int.le_refl 0
      · rw [List.eq_of_mem_replicate hu] at hp
        exact absurd hp (by decide)
    have z1 : keys Z = keys [] := law_all cZ
    refine ⟨_, _, dp_list (nZ.same (same_new ne1)).tups, dp_list (ks := []) newt_nil.tups, shaped_list _, shaped_list _, _, rfl, ite2 (fun _ => ?_) (fun c => absurd (eq_yes z1) c)⟩
    refine ⟨1, rfl, by show 1 ≤ sizeLine; decide, fun tc ntc => ⟨.int n, rfl, tc, n, _, rfl, rfl, .inl (.inl upd_same), by simp, n1, by omega, by decide, fun H32 td s32 htd => ⟨by show 1 ≤ sizeLine; decide, fun lb nlb => ⟨.int n, rfl, lb, [(td, List.replicate n (-1))], n, [0], rfl, (newt_one htd nlb).tups, n1, n4, (by show 1 ≤ 8; decide), List.mem_cons_self, fun z hz => ?_, fun H33 pY Y s33 nY cY => ⟨Nat.zero_le _, fun e2 ne2 => ?_⟩⟩⟩⟩⟩
    · rw [List.mem_singleton.mp hz]
      refine ⟨List.length_replicate, fun u hu => ?_, fun u hu ne => ?_⟩
      · rw [List.eq_of_mem_replicate hu]
        decide
      · exact absurd (List.eq_of_mem_replicate hu) ne
    have z2 : keys Y = keys [] := law_any cY
    refine ⟨_, _, dp_list (nY.same (same_new ne2)).tups, dp_list (ks := []) newt_nil.tups, shaped_list _, shaped_list _, ?_⟩
    have done := q (upd H33 e2 (.lst []))
    rw [← eq_yes z2] at done
    exact done
end
end Cv
/-! CvEnd: what the top has written; the theorem (printed by gen_end.py) -/
namespace Cv
open PySem PySem.Spec PyProof.Rows L2
theorem all_mk {l : PySem.W.OpenLaw} {w : World} {K : PySem.W.Frag} {h : Heap} {mg : Str → Option Value} {fa f1 f2 f3 f4 f5 f6 f7 f8 f9 f10 f11 f12 f13 f14 f15 f16 f17 f18 f19 f20 : Addr} {tA : Tok} (X : K.In h) (G : h.Ns mainGlobals mg) (hfa : mg "law" = some (.ref fa))
    {od1 an1 od2 an2 od3 an3 od4 an4 od5 an5 od6 an6 od7 an7 od8 an8 od9 an9 od10 an10 od11 an11 od12 an12 od13 an13 od14 an14 od15 an15 od16 an16 od17 an17 od18 an18 od19 an19 od20 an20 : Option Addr} {sl1 sl2 sl3 sl4 sl5 sl6 sl7 sl8 sl9 sl10 sl11 sl12 sl13 sl14 sl15 sl16 sl17 sl18 sl19 sl20 : Array (Option Value)} {oc1 kV1 dc1 pm1 cd1 ct1 oc2 kV2 dc2 pm2 cd2 ct2 oc3 kV3 dc3 pm3 cd3 ct3 oc4 kV4 dc4 pm4 cd4 ct4 oc5 kV5 dc5 pm5 cd5 ct5 oc6 kV6 dc6 pm6 cd6 ct6 oc7 kV7 dc7 pm7 cd7 ct7 oc8 kV8 dc8 pm8 cd8 ct8 oc9 kV9 dc9 pm9 cd9 ct9 oc10 kV10 dc10 pm10 cd10 ct10 oc11 kV11 dc11 pm11 cd11 ct11 oc12 kV12 dc12 pm12 cd12 ct12 oc13 kV13 dc13 pm13 cd13 ct13 oc14 kV14 dc14 pm14 cd14 ct14 oc15 kV15 dc15 pm15 cd15 ct15 oc16 kV16 dc16 pm16 cd16 ct16 oc17 kV17 dc17 pm17 cd17 ct17 oc18 kV18 dc18 pm18 cd18 ct18 oc19 kV19 dc19 pm19 cd19 ct19 oc20 kV20 dc20 pm20 cd20 ct20 : Value}
    (a1 : PySem.W.nsIn K mainGlobals "covers" = some (some (.ref f1))) (l1 : K.lookup f1 = some ⟨oc1, od1, .func (PySem.W.fnOf "covers" "covers" (defArgs sCovers) (defBody sCovers) (defScope sCovers) .none kV1 dc1 pm1 an1 cd1 ct1), sl1⟩) (c1 : PySem.W.codeIn K cd1 "covers" = true) (k1 : PySem.W.keepIn K (.ref f1) = true)
    (a2 : PySem.W.nsIn K mainGlobals "basis_of" = some (some (.ref f2))) (l2 : K.lookup f2 = some ⟨oc2, od2, .func (PySem.W.fnOf "basis_of" "basis_of" (defArgs sBasis) (defBody sBasis) (defScope sBasis) .none kV2 dc2 pm2 an2 cd2 ct2), sl2⟩) (c2 : PySem.W.codeIn K cd2 "basis_of" = true) (k2 : PySem.W.keepIn K (.ref f2) = true)
    (a3 : PySem.W.nsIn K mainGlobals "join" = some (some (.ref f3))) (l3 : K.lookup f3 = some ⟨oc3, od3, .func (PySem.W.fnOf "join" "join" (defArgs sJoin) (defBody sJoin) (defScope sJoin) .none kV3 dc3 pm3 an3 cd3 ct3), sl3⟩) (c3 : PySem.W.codeIn K cd3 "join" = true) (k3 : PySem.W.keepIn K (.ref f3) = true)
    (a4 : PySem.W.nsIn K mainGlobals "meet" = some (some (.ref f4))) (l4 : K.lookup f4 = some ⟨oc4, od4, .func (PySem.W.fnOf "meet" "meet" (defArgs sMeet) (defBody sMeet) (defScope sMeet) .none kV4 dc4 pm4 an4 cd4 ct4), sl4⟩) (c4 : PySem.W.codeIn K cd4 "meet" = true) (k4 : PySem.W.keepIn K (.ref f4) = true)
    (a5 : PySem.W.nsIn K mainGlobals "within" = some (some (.ref f5))) (l5 : K.lookup f5 = some ⟨oc5, od5, .func (PySem.W.fnOf "within" "within" (defArgs sWithin) (defBody sWithin) (defScope sWithin) .none kV5 dc5 pm5 an5 cd5 ct5), sl5⟩) (c5 : PySem.W.codeIn K cd5 "within" = true) (k5 : PySem.W.keepIn K (.ref f5) = true)
    (a6 : PySem.W.nsIn K mainGlobals "frame_of" = some (some (.ref f6))) (l6 : K.lookup f6 = some ⟨oc6, od6, .func (PySem.W.fnOf "frame_of" "frame_of" (defArgs sFrame) (defBody sFrame) (defScope sFrame) .none kV6 dc6 pm6 an6 cd6 ct6), sl6⟩) (c6 : PySem.W.codeIn K cd6 "frame_of" = true) (k6 : PySem.W.keepIn K (.ref f6) = true)
    (a7 : PySem.W.nsIn K mainGlobals "lesser" = some (some (.ref f7))) (l7 : K.lookup f7 = some ⟨oc7, od7, .func (PySem.W.fnOf "lesser" "lesser" (defArgs sLesser) (defBody sLesser) (defScope sLesser) .none kV7 dc7 pm7 an7 cd7 ct7), sl7⟩) (c7 : PySem.W.codeIn K cd7 "lesser" = true) (k7 : PySem.W.keepIn K (.ref f7) = true)
    (a8 : PySem.W.nsIn K mainGlobals "limit_meet" = some (some (.ref f8))) (l8 : K.lookup f8 = some ⟨oc8, od8, .func (PySem.W.fnOf "limit_meet" "limit_meet" (defArgs sLmeet) (defBody sLmeet) (defScope sLmeet) .none kV8 dc8 pm8 an8 cd8 ct8), sl8⟩) (c8 : PySem.W.codeIn K cd8 "limit_meet" = true) (k8 : PySem.W.keepIn K (.ref f8) = true)
    (a9 : PySem.W.nsIn K mainGlobals "frame_meet" = some (some (.ref f9))) (l9 : K.lookup f9 = some ⟨oc9, od9, .func (PySem.W.fnOf "frame_meet" "frame_meet" (defArgs sFmeet) (defBody sFmeet) (defScope sFmeet) .none kV9 dc9 pm9 an9 cd9 ct9), sl9⟩) (c9 : PySem.W.codeIn K cd9 "frame_meet" = true) (k9 : PySem.W.keepIn K (.ref f9) = true)
    (a10 : PySem.W.nsIn K mainGlobals "single" = some (some (.ref f10))) (l10 : K.lookup f10 = some ⟨oc10, od10, .func (PySem.W.fnOf "single" "single" (defArgs sSingle) (defBody sSingle) (defScope sSingle) .none kV10 dc10 pm10 an10 cd10 ct10), sl10⟩) (c10 : PySem.W.codeIn K cd10 "single" = true) (k10 : PySem.W.keepIn K (.ref f10) = true)
    (a11 : PySem.W.nsIn K mainGlobals "complement_closed" = some (some (.ref f11))) (l11 : K.lookup f11 = some ⟨oc11, od11, .func (PySem.W.fnOf "complement_closed" "complement_closed" (defArgs sCclosed) (defBody sCclosed) (defScope sCclosed) .none kV11 dc11 pm11 an11 cd11 ct11), sl11⟩) (c11 : PySem.W.codeIn K cd11 "complement_closed" = true) (k11 : PySem.W.keepIn K (.ref f11) = true)
    (a12 : PySem.W.nsIn K mainGlobals "complement_frame" = some (some (.ref f12))) (l12 : K.lookup f12 = some ⟨oc12, od12, .func (PySem.W.fnOf "complement_frame" "complement_frame" (defArgs sCframe) (defBody sCframe) (defScope sCframe) .none kV12 dc12 pm12 an12 cd12 ct12), sl12⟩) (c12 : PySem.W.codeIn K cd12 "complement_frame" = true) (k12 : PySem.W.keepIn K (.ref f12) = true)
    (a13 : PySem.W.nsIn K mainGlobals "_law_cell" = some (some (.ref f13))) (l13 : K.lookup f13 = some ⟨oc13, od13, .func (PySem.W.fnOf "_law_cell" "_law_cell" (defArgs sCell) (defBody sCell) (defScope sCell) .none kV13 dc13 pm13 an13 cd13 ct13), sl13⟩) (c13 : PySem.W.codeIn K cd13 "_law_cell" = true) (k13 : PySem.W.keepIn K (.ref f13) = true)
    (a14 : PySem.W.nsIn K mainGlobals "_law_draws" = some (some (.ref f14))) (l14 : K.lookup f14 = some ⟨oc14, od14, .func (PySem.W.fnOf "_law_draws" "_law_draws" (defArgs sDraws) (defBody sDraws) (defScope sDraws) .none kV14 dc14 pm14 an14 cd14 ct14), sl14⟩) (c14 : PySem.W.codeIn K cd14 "_law_draws" = true) (k14 : PySem.W.keepIn K (.ref f14) = true)
    (a15 : PySem.W.nsIn K mainGlobals "_law_take" = some (some (.ref f15))) (l15 : K.lookup f15 = some ⟨oc15, od15, .func (PySem.W.fnOf "_law_take" "_law_take" (defArgs sTake) (defBody sTake) (defScope sTake) .none kV15 dc15 pm15 an15 cd15 ct15), sl15⟩) (c15 : PySem.W.codeIn K cd15 "_law_take" = true) (k15 : PySem.W.keepIn K (.ref f15) = true)
    (a16 : PySem.W.nsIn K mainGlobals "_law_marking" = some (some (.ref f16))) (l16 : K.lookup f16 = some ⟨oc16, od16, .func (PySem.W.fnOf "_law_marking" "_law_marking" (defArgs sMarking) (defBody sMarking) (defScope sMarking) .none kV16 dc16 pm16 an16 cd16 ct16), sl16⟩) (c16 : PySem.W.codeIn K cd16 "_law_marking" = true) (k16 : PySem.W.keepIn K (.ref f16) = true)
    (a17 : PySem.W.nsIn K mainGlobals "_law_markings" = some (some (.ref f17))) (l17 : K.lookup f17 = some ⟨oc17, od17, .func (PySem.W.fnOf "_law_markings" "_law_markings" (defArgs sMarkings) (defBody sMarkings) (defScope sMarkings) .none kV17 dc17 pm17 an17 cd17 ct17), sl17⟩) (c17 : PySem.W.codeIn K cd17 "_law_markings" = true) (k17 : PySem.W.keepIn K (.ref f17) = true)
    (a18 : PySem.W.nsIn K mainGlobals "_law_limit" = some (some (.ref f18))) (l18 : K.lookup f18 = some ⟨oc18, od18, .func (PySem.W.fnOf "_law_limit" "_law_limit" (defArgs sLimit) (defBody sLimit) (defScope sLimit) .none kV18 dc18 pm18 an18 cd18 ct18), sl18⟩) (c18 : PySem.W.codeIn K cd18 "_law_limit" = true) (k18 : PySem.W.keepIn K (.ref f18) = true)
    (a19 : PySem.W.nsIn K mainGlobals "_law_limits" = some (some (.ref f19))) (l19 : K.lookup f19 = some ⟨oc19, od19, .func (PySem.W.fnOf "_law_limits" "_law_limits" (defArgs sLimits) (defBody sLimits) (defScope sLimits) .none kV19 dc19 pm19 an19 cd19 ct19), sl19⟩) (c19 : PySem.W.codeIn K cd19 "_law_limits" = true) (k19 : PySem.W.keepIn K (.ref f19) = true)
    (a20 : PySem.W.nsIn K mainGlobals "law" = some (some (.ref f20))) (l20 : K.lookup f20 = some ⟨oc20, od20, .func (PySem.W.fnOf "law" "law" (defArgs sLaw) (defBody sLaw) (defScope sLaw) .none kV20 dc20 pm20 an20 cd20 ct20), sl20⟩) (c20 : PySem.W.codeIn K cd20 "law" = true) (k20 : PySem.W.keepIn K (.ref f20) = true)
    (aA : PySem.W.nsIn K mainGlobals "ANY" = some (some (.int (-1) tA)))
    (z_range : PySem.W.nsIn K mainGlobals "range" = some none)
    (z_len : PySem.W.nsIn K mainGlobals "len" = some none)
    (z_max : PySem.W.nsIn K mainGlobals "max" = some none)
    (z_min : PySem.W.nsIn K mainGlobals "min" = some none)
    (z_tuple : PySem.W.nsIn K mainGlobals "tuple" = some none)
    (z_sorted : PySem.W.nsIn K mainGlobals "sorted" = some none)
    (z_set : PySem.W.nsIn K mainGlobals "set" = some none)
    (z_int : PySem.W.nsIn K mainGlobals "int" = some none)
    (z_list : PySem.W.nsIn K mainGlobals "list" = some none) :
    ∃ fd : FuncData, (∀ (s : Shared) (v : Value), BindsTo s fd ⟨[v], []⟩ [("_law_script", v)]) ∧ ∀ base : Heap, K.In base → base.Ns mainGlobals mg → FnOk l.prog w K mg base CX0 5 fa fd ["_law_script"] (spLaw K) := by
  have e := hfa.symm.trans (PySem.W.mg_of X G a20)
  cases e
  have F1 := fun_mk (st := sCovers) l1 c1 k1
  have g1 : mg "covers" = some (.ref f1) := PySem.W.mg_of X G a1
  have b1 := F1.binds (ps := ["first", "second"]) fun _ _ _ _ _ _ us hl => match us, hl with | [_, _], _ => rfl
  have F2 := fun_mk (st := sBasis) l2 c2 k2
  have g2 : mg "basis_of" = some (.ref f2) := PySem.W.mg_of X G a2
  have b2 := F2.binds (ps := ["members"]) fun _ _ _ _ _ _ us hl => match us, hl with | [_], _ => rfl
  have F3 := fun_mk (st := sJoin) l3 c3 k3
  have g3 : mg "join" = some (.ref f3) := PySem.W.mg_of X G a3
  have b3 := F3.binds (ps := ["first", "second"]) fun _ _ _ _ _ _ us hl => match us, hl with | [_, _], _ => rfl
  have F4 := fun_mk (st := sMeet) l4 c4 k4
  have g4 : mg "meet" = some (.ref f4) := PySem.W.mg_of X G a4
  have b4 := F4.binds (ps := ["first", "second"]) fun _ _ _ _ _ _ us hl => match us, hl with | [_, _], _ => rfl
  have F5 := fun_mk (st := sWithin) l5 c5 k5
  have g5 : mg "within" = some (.ref f5) := PySem.W.mg_of X G a5
  have b5 := F5.binds (ps := ["first", "second"]) fun _ _ _ _ _ _ us hl => match us, hl with | [_, _], _ => rfl
  have F6 := fun_mk (st := sFrame) l6 c6 k6
  have g6 : mg "frame_of" = some (.ref f6) := PySem.W.mg_of X G a6
  have b6 := F6.binds (ps := ["limits"]) fun _ _ _ _ _ _ us hl => match us, hl with | [_], _ => rfl
  have F7 := fun_mk (st := sLesser) l7 c7 k7
  have g7 : mg "lesser" = some (.ref f7) := PySem.W.mg_of X G a7
  have b7 := F7.binds (ps := ["first", "second"]) fun _ _ _ _ _ _ us hl => match us, hl with | [_, _], _ => rfl
  have F8 := fun_mk (st := sLmeet) l8 c8 k8
  have g8 : mg "limit_meet" = some (.ref f8) := PySem.W.mg_of X G a8
  have b8 := F8.binds (ps := ["first", "second"]) fun _ _ _ _ _ _ us hl => match us, hl with | [_, _], _ => rfl
  have F9 := fun_mk (st := sFmeet) l9 c9 k9
  have g9 : mg "frame_meet" = some (.ref f9) := PySem.W.mg_of X G a9
  have b9 := F9.binds (ps := ["first", "second"]) fun _ _ _ _ _ _ us hl => match us, hl with | [_, _], _ => rfl
  have F10 := fun_mk (st := sSingle) l10 c10 k10
  have g10 : mg "single" = some (.ref f10) := PySem.W.mg_of X G a10
  have b10 := F10.binds (ps := ["size", "place", "number", "rest"]) fun _ _ _ _ _ _ us hl => match us, hl with | [_, _, _, _], _ => rfl
  have F11 := fun_mk (st := sCclosed) l11 c11 k11
  have g11 : mg "complement_closed" = some (.ref f11) := PySem.W.mg_of X G a11
  have b11 := F11.binds (ps := ["members", "size"]) fun _ _ _ _ _ _ us hl => match us, hl with | [_, _], _ => rfl
  have F12 := fun_mk (st := sCframe) l12 c12 k12
  have g12 : mg "complement_frame" = some (.ref f12) := PySem.W.mg_of X G a12
  have b12 := F12.binds (ps := ["limits", "size"]) fun _ _ _ _ _ _ us hl => match us, hl with | [_, _], _ => rfl
  have F13 := fun_mk (st := sCell) l13 c13 k13
  have g13 : mg "_law_cell" = some (.ref f13) := PySem.W.mg_of X G a13
  have b13 := F13.binds (ps := ["_law_script", "_law_k"]) fun _ _ _ _ _ _ us hl => match us, hl with | [_, _], _ => rfl
  have F14 := fun_mk (st := sDraws) l14 c14 k14
  have g14 : mg "_law_draws" = some (.ref f14) := PySem.W.mg_of X G a14
  have b14 := F14.binds (ps := ["_law_script", "_law_count"]) fun _ _ _ _ _ _ us hl => match us, hl with | [_, _], _ => rfl
  have F15 := fun_mk (st := sTake) l15 c15 k15
  have g15 : mg "_law_take" = some (.ref f15) := PySem.W.mg_of X G a15
  have b15 := F15.binds (ps := ["_law_draws_here", "_law_limit_here"]) fun _ _ _ _ _ _ us hl => match us, hl with | [_, _], _ => rfl
  have F16 := fun_mk (st := sMarking) l16 c16 k16
  have g16 : mg "_law_marking" = some (.ref f16) := PySem.W.mg_of X G a16
  have b16 := F16.binds (ps := ["_law_draws_here", "_law_size", "_law_most"]) fun _ _ _ _ _ _ us hl => match us, hl with | [_, _, _], _ => rfl
  have F17 := fun_mk (st := sMarkings) l17 c17 k17
  have g17 : mg "_law_markings" = some (.ref f17) := PySem.W.mg_of X G a17
  have b17 := F17.binds (ps := ["_law_draws_here", "_law_size", "_law_count", "_law_most"]) fun _ _ _ _ _ _ us hl => match us, hl with | [_, _, _, _], _ => rfl
  have F18 := fun_mk (st := sLimit) l18 c18 k18
  have g18 : mg "_law_limit" = some (.ref f18) := PySem.W.mg_of X G a18
  have b18 := F18.binds (ps := ["_law_draws_here", "_law_size", "_law_most"]) fun _ _ _ _ _ _ us hl => match us, hl with | [_, _, _], _ => rfl
  have F19 := fun_mk (st := sLimits) l19 c19 k19
  have g19 : mg "_law_limits" = some (.ref f19) := PySem.W.mg_of X G a19
  have b19 := F19.binds (ps := ["_law_draws_here", "_law_size", "_law_count", "_law_most"]) fun _ _ _ _ _ _ us hl => match us, hl with | [_, _, _, _], _ => rfl
  have F20 := fun_mk (st := sLaw) l20 c20 k20
  have gA : mg "ANY" = some (.int (-1) tA) := PySem.W.mg_of X G aA
  have m_range : mg "range" = none := PySem.W.mg_none_of X G z_range
  have m_len : mg "len" = none := PySem.W.mg_none_of X G z_len
  have m_max : mg "max" = none := PySem.W.mg_none_of X G z_max
  have m_min : mg "min" = none := PySem.W.mg_none_of X G z_min
  have m_tuple : mg "tuple" = none := PySem.W.mg_none_of X G z_tuple
  have m_sorted : mg "sorted" = none := PySem.W.mg_none_of X G z_sorted
  have m_set : mg "set" = none := PySem.W.mg_none_of X G z_set
  have m_int : mg "int" = none := PySem.W.mg_none_of X G z_int
  have m_list : mg "list" = none := PySem.W.mg_none_of X G z_list
  refine ⟨PySem.W.fnOf "law" "law" (defArgs sLaw) (defBody sLaw) (defScope sLaw) .none kV20 dc20 pm20 an20 cd20 ct20, fun s v => .of_eq rfl, fun base _ _ => ?_⟩
  have G1 : FnOk l.prog w K mg base CX0 1 f1 _ ["first", "second"] (spCovers K) := ok_covers F1 m_range m_len
  have G5 : FnOk l.prog w K mg base CX0 1 f5 _ ["first", "second"] (spWithin K) := ok_within F5 m_range m_len gA
  have G7 : FnOk l.prog w K mg base CX0 1 f7 _ ["first", "second"] (spLesser) := ok_lesser F7 m_min gA
  have G3 : FnOk l.prog w K mg base CX0 1 f3 _ ["first", "second"] (spZip mx1 K) := ok_join F3 m_range m_len m_max m_tuple
  have G10 : FnOk l.prog w K mg base CX0 1 f10 _ ["size", "place", "number", "rest"] (spSingle K) := ok_single F10 m_tuple
  have G13 : FnOk l.prog w K mg base CX0 1 f13 _ ["_law_script", "_law_k"] (spCell K) := ok_cell F13 m_len
  have G14 : FnOk l.prog w K mg base CX0 1 f14 _ ["_law_script", "_law_count"] (spDraws K) := ok_draws F14 m_len m_int m_range m_list
  have G15 : FnOk l.prog w K mg base CX0 1 f15 _ ["_law_draws_here", "_law_limit_here"] (spTake) := ok_take F15 m_len m_int
  have G8 : FnOk l.prog w K mg base CX0 2 f8 _ ["first", "second"] (spZip ls1 K) := ok_lmeet F8 F7 b7 g7 G7 m_range m_len m_tuple
  have G2 : FnOk l.prog w K mg base CX0 2 f2 _ ["members"] (spBasis K) := ok_basis (j := 1) (by decide) F2 F1 b1 g1 G1 m_sorted m_set
  have G6 : FnOk l.prog w K mg base CX0 2 f6 _ ["limits"] (spFrame K) := ok_frame (j := 1) (by decide) F6 F5 b5 g5 G5 m_sorted m_set
  have G16 : FnOk l.prog w K mg base CX0 2 f16 _ ["_law_draws_here", "_law_size", "_law_most"] (spOne 0 K) := ok_marking (j := 1) (by decide) F16 F15 b15 g15 G15 m_range m_tuple
  have G18 : FnOk l.prog w K mg base CX0 2 f18 _ ["_law_draws_here", "_law_size", "_law_most"] (spOne (-1) K) := ok_limit (j := 1) (by decide) F18 F15 b15 g15 G15 m_range m_tuple
  have G17 : FnOk l.prog w K mg base CX0 3 f17 _ ["_law_draws_here", "_law_size", "_law_count", "_law_most"] (spMany 0 K) := ok_markings (j := 2) (by decide) F17 F16 b16 g16 G16 m_range
  have G19 : FnOk l.prog w K mg base CX0 3 f19 _ ["_law_draws_here", "_law_size", "_law_count", "_law_most"] (spMany (-1) K) := ok_limits (j := 2) (by decide) F19 F18 b18 g18 G18 m_range
  have G4 : FnOk l.prog w K mg base CX0 3 f4 _ ["first", "second"] (spMeet K) := ok_meet (j1 := 1) (j2 := 2) (by decide) (by decide) F4 F3 F2 b3 b2 g3 g2 G3 G2
  have G9 : FnOk l.prog w K mg base CX0 3 f9 _ ["first", "second"] (spFmeet K) := ok_fmeet (j1 := 2) (j2 := 2) (by decide) (by decide) F9 F8 F6 b8 b6 g8 g6 G8 G6
  have G11 : FnOk l.prog w K mg base CX0 4 f11 _ ["members", "size"] (spCclosed K) := ok_cclosed (j1 := 1) (j2 := 3) (by decide) (by decide) F11 F10 F9 b10 b9 g10 g9 G10 G9 m_range gA
  have G12 : FnOk l.prog w K mg base CX0 4 f12 _ ["limits", "size"] (spCframe K) := ok_cframe (j1 := 1) (j2 := 3) (by decide) (by decide) F12 F10 F4 b10 b4 g10 g4 G10 G4 m_range gA
  exact ok_law (k := 4) F20 ⟨⟨1, _, _, (by decide), G14, g14, F14.kp, b14⟩⟩ ⟨⟨1, _, _, (by decide), G15, g15, F15.kp, b15⟩⟩ ⟨⟨1, _, _, (by decide), G13, g13, F13.kp, b13⟩⟩ ⟨⟨3, _, _, (by decide), G17, g17, F17.kp, b17⟩⟩ ⟨⟨3, _, _, (by decide), G19, g19, F19.kp, b19⟩⟩ ⟨⟨4, _, _, (by decide), G11, g11, F11.kp, b11⟩⟩ ⟨⟨4, _, _, (by decide), G12, g12, F12.kp, b12⟩⟩ ⟨⟨2, _, _, (by decide), G2, g2, F2.kp, b2⟩⟩ ⟨⟨2, _, _, (by decide), G6, g6, F6.kp, b6⟩⟩ ⟨⟨3, _, _, (by decide), G4, g4, F4.kp, b4⟩⟩ ⟨⟨3, _, _, (by decide), G9, g9, F9.kp, b9⟩⟩ m_int m_list m_tuple
end Cv
open PySem PySem.W PyProof.Rows
set_option maxHeartbeats 0 in
theorem PySem.Challenge.cw_covernets_k07_whole_complements_are_inve_holds : PySem.Challenge.rw_covernets_k07_whole_complements_are_inve.Holds := by
  w_on; o_law; k_head; (case hw => w_witness2)
  k_fill
  refine L2.walk_of (l := PySem.Challenge.rw_covernets_k07_whole_complements_are_inve) (n := 63) (k := 5) (x := "_law_script") (CX := fun _ => L2.CX0) (sp := fun w => Cv.spLaw _) rfl (by decide) rfl ⟨rfl, by decide, by decide⟩ (fun w h Y => PySem.W.kIn_of Y) ?F (fun _ _ a ns hl _ hS => ⟨a, ns, rfl, hS, fun _ => rfl⟩) (fun _ _ _ _ _ h => h)
  case F =>
    intro w mg fa h KX G hmg
    refine' Cv.all_mk KX G hmg ?a1 ?l1 ?c1 ?k1 ?a2 ?l2 ?c2 ?k2 ?a3 ?l3 ?c3 ?k3 ?a4 ?l4 ?c4 ?k4 ?a5 ?l5 ?c5 ?k5 ?a6 ?l6 ?c6 ?k6 ?a7 ?l7 ?c7 ?k7 ?a8 ?l8 ?c8 ?k8 ?a9 ?l9 ?c9 ?k9 ?a10 ?l10 ?c10 ?k10 ?a11 ?l11 ?c11 ?k11 ?a12 ?l12 ?c12 ?k12 ?a13 ?l13 ?c13 ?k13 ?a14 ?l14 ?c14 ?k14 ?a15 ?l15 ?c15 ?k15 ?a16 ?l16 ?c16 ?k16 ?a17 ?l17 ?c17 ?k17 ?a18 ?l18 ?c18 ?k18 ?a19 ?l19 ?c19 ?k19 ?a20 ?l20 ?c20 ?k20 ?aA ?z_range ?z_len ?z_max ?z_min ?z_tuple ?z_sorted ?z_set ?z_int ?z_list
    (case a1 => k_is); (case l1 => k_is); (case c1 => k_is); (case k1 => k_is); (case a2 => k_is); (case l2 => k_is); (case c2 => k_is); (case k2 => k_is); (case a3 => k_is); (case l3 => k_is); (case c3 => k_is); (case k3 => k_is); (case a4 => k_is); (case l4 => k_is); (case c4 => k_is); (case k4 => k_is); (case a5 => k_is); (case l5 => k_is); (case c5 => k_is); (case k5 => k_is); (case a6 => k_is); (case l6 => k_is); (case c6 => k_is); (case k6 => k_is); (case a7 => k_is); (case l7 => k_is); (case c7 => k_is); (case k7 => k_is); (case a8 => k_is); (case l8 => k_is); (case c8 => k_is); (case k8 => k_is); (case a9 => k_is); (case l9 => k_is); (case c9 => k_is); (case k9 => k_is); (case a10 => k_is); (case l10 => k_is); (case c10 => k_is); (case k10 => k_is); (case a11 => k_is); (case l11 => k_is); (case c11 => k_is); (case k11 => k_is); (case a12 => k_is); (case l12 => k_is); (case c12 => k_is); (case k12 => k_is); (case a13 => k_is); (case l13 => k_is); (case c13 => k_is); (case k13 => k_is); (case a14 => k_is); (case l14 => k_is); (case c14 => k_is); (case k14 => k_is); (case a15 => k_is); (case l15 => k_is); (case c15 => k_is); (case k15 => k_is); (case a16 => k_is); (case l16 => k_is); (case c16 => k_is); (case k16 => k_is); (case a17 => k_is); (case l17 => k_is); (case c17 => k_is); (case k17 => k_is); (case a18 => k_is); (case l18 => k_is); (case c18 => k_is); (case k18 => k_is); (case a19 => k_is); (case l19 => k_is); (case c19 => k_is); (case k19 => k_is); (case a20 => k_is); (case l20 => k_is); (case c20 => k_is); (case k20 => k_is); (case aA => k_is); (case z_range => k_is); (case z_len => k_is); (case z_max => k_is); (case z_min => k_is); (case z_tuple => k_is); (case z_sorted => k_is); (case z_set => k_is); (case z_int => k_is); (case z_list => k_is)
