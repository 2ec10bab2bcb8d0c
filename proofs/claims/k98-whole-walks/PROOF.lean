import PyProof.Rows.All
import Wide.All
import OpenK.AllK
import Wide.FinOn
import KE.KStateDown
import KE.RegKIsAll
import HandS.ForMost
import PyProof.DictUpdate
import PyProof.DictDisplay
import PyProof.RulesMatch
import HandS.More
import HandS.DeepEq
import HandS.Slots
import HandS.SlotsOwn
import HandS.ClsMeth
import HandS.CallLocal
import HandS.SetFor
import HandS.Strs
import KE.KEqNest
import KE.DatumOrd
import KE.KDictList
import HandS.Star
import HandS.TupAny
import HandS.IsInst
import HandS.Zip
import HandS.Conv
import HandS.Codes
import HandS.DictComp
import HandS.Walk
import HandS.Wide
import HandS.SortInts
import HandS.Small
import PySem.Challenge.RW_halvesmeet_k98_whole_walks_of_the_plain
set_option Elab.async false
set_option linter.all false
set_option maxRecDepth 100000
set_option maxHeartbeats 4000000
/-! Pm: the plain protocol, as mathematics alone: states, let actions, soundness, the chosen row. -/
namespace Pm
/-- an entry: client, number, which of three deeds -/
abbrev En := Int × Int × Nat
/-- a dict, by what it gives -/
abbrev Dc (α : Type) := Int → Option α
def up {α : Type} (f : Dc α) (k : Int) (v : α) : Dc α := fun j => if j = k then some v else f j
theorem up_same {α : Type} {f : Dc α} {k : Int} {v : α} : up f k v k = some v := by simp [up]
theorem up_ne {α : Type} {f : Dc α} {k j : Int} {v : α} (h : j ≠ k) : up f k v j = f j := by simp [up, h]
structure St where
  C : List Int
  pr : Dc Int
  rw : Dc (List En)
  fs : Dc Int
  vt : Dc (Dc Int)
def St.pg (s : St) (h : Int) : Int := (s.pr h).getD (-1)
def St.vg (s : St) (h t : Int) : Option Int := (s.vt h).bind fun f => f t
def St.vn (s : St) (h t : Int) : Int := (s.vg h t).getD 0
def more (C L : List Int) : Prop := C.length < 2 * L.length
def St.Opn (s : St) (t m : Int) : Prop := more s.C (s.C.filter fun h => decide (m ≤ s.vn h t ∨ s.pg h ≤ t))
def St.Chs (s : St) (t m : Int) : Prop := more s.C (s.C.filter fun h => decide (m ≤ s.vn h t))
structure Circ (C : List Int) : Prop where
  up : C.Pairwise (· < ·)
  ge : 1 ≤ C.length
  le : C.length ≤ 7
  nm : ∀ h ∈ C, 0 ≤ h ∧ h ≤ 8
structure Sound (s : St) : Prop where
  circ : Circ s.C
  prk : ∀ h, (s.pr h).isSome = true ↔ h ∈ s.C
  vtk : ∀ h, (s.vt h).isSome = true ↔ h ∈ s.C
  fsk : ∀ t, (s.fs t).isSome = (s.rw t).isSome
  tge : ∀ t r, s.rw t = some r → 0 ≤ t
  prm : ∀ h p, s.pr h = some p → -1 ≤ p
  votes : ∀ h t m, s.vg h t = some m → ∃ r f, s.rw t = some r ∧ s.fs t = some f ∧ f ≤ m ∧ m ≤ (r.length : Int)
  proms : ∀ h t m, s.vg h t = some m → t ≤ s.pg h
  firsts : ∀ t r f, s.rw t = some r → s.fs t = some f → 0 ≤ f ∧ f ≤ (r.length : Int)
  lots : ∀ t r, s.rw t = some r → more s.C (s.C.filter fun h => decide (t ≤ s.pg h))
  chosen : ∀ t t' r r' f', s.rw t = some r → s.rw t' = some r' → s.fs t' = some f' → t < t' → ∀ m : Int, 0 ≤ m → m ≤ (r.length : Int) → s.Opn t m → m ≤ f' ∧ r.take m.toNat = r'.take m.toNat

/-! ### counting -/
theorem filter_le {C : List Int} {p q : Int → Bool} (h : ∀ x ∈ C, p x = true → q x = true) : (C.filter p).length ≤ (C.filter q).length := by
  induction C with
  | nil => simp
  | cons a r ih =>
    have ih' := ih fun x hx => h x (List.mem_cons_of_mem _ hx)
    by_cases hp : p a = true
    · have hq := h a List.mem_cons_self hp
      rw [List.filter_cons_of_pos hp, List.filter_cons_of_pos hq]
      simpa using ih'
    · rw [List.filter_cons_of_neg hp]
      refine Nat.le_trans ih' ?_
      by_cases hq : q a = true
      · rw [List.filter_cons_of_pos hq]; simp
      · rw [List.filter_cons_of_neg hq]; exact Nat.le_refl _
theorem filter_sum {C : List Int} {p q : Int → Bool} (h : ∀ x ∈ C, ¬ (p x = true ∧ q x = true)) : (C.filter p).length + (C.filter q).length ≤ C.length := by
  induction C with
  | nil => simp
  | cons a r ih =>
    have ih' := ih fun x hx => h x (List.mem_cons_of_mem _ hx)
    have ha := h a List.mem_cons_self
    by_cases hp : p a = true
    · have hq : ¬ q a = true := fun z => ha ⟨hp, z⟩
      rw [List.filter_cons_of_pos hp, List.filter_cons_of_neg hq]
      simp only [List.length_cons]
      omega
    · rw [List.filter_cons_of_neg hp]
      by_cases hq : q a = true
      · rw [List.filter_cons_of_pos hq]; simp only [List.length_cons]; omega
      · rw [List.filter_cons_of_neg hq]; simp only [List.length_cons]; omega
/-- two lots of more than half meet -/
theorem meet {C : List Int} {p q : Int → Bool} (h1 : more C (C.filter p)) (h2 : more C (C.filter q)) : ∃ x ∈ C, p x = true ∧ q x = true := by
  by_cases h : ∃ x ∈ C, p x = true ∧ q x = true
  · exact h
  · have := filter_sum (C := C) (p := p) (q := q) fun x hx z => h ⟨x, hx, z⟩
    unfold more at h1 h2
    omega
theorem more_le {C : List Int} {p q : Int → Bool} (h1 : more C (C.filter p)) (h : ∀ x ∈ C, p x = true → q x = true) : more C (C.filter q) := by
  have := filter_le h
  unfold more at h1 ⊢
  omega
theorem up_nodup {L : List Int} (h : L.Pairwise (· < ·)) : L.Nodup := h.imp fun h => by omega
/-- a lot that is more than half, as a part of the circle -/
theorem lot_filter {C L : List Int} (hC : C.Nodup) (hL : L.Nodup) (hs : ∀ x ∈ L, x ∈ C) : (C.filter fun h => decide (h ∈ L)).length = L.length := by
  have p : (C.filter fun h => decide (h ∈ L)).Perm L := by
    refine (List.perm_ext_iff_of_nodup (hC.filter _) hL).mpr fun a => ?_
    simp only [List.mem_filter, decide_eq_true_eq]
    exact ⟨fun z => z.2, fun z => ⟨hs a z, z⟩⟩
  exact p.length_eq
theorem Opn.mono {s : St} {t m m' : Int} (h : s.Opn t m) (l : m' ≤ m) : s.Opn t m' := by
  refine more_le h fun x _ e => ?_
  simp only [decide_eq_true_eq] at e ⊢
  omega
theorem Chs.mono {s : St} {t m m' : Int} (h : s.Chs t m) (l : m' ≤ m) : s.Chs t m' := by
  refine more_le h fun x _ e => ?_
  simp only [decide_eq_true_eq] at e ⊢
  omega
theorem chs_opn {s : St} {t m : Int} (h : s.Chs t m) : s.Opn t m := by
  refine more_le h fun x _ e => ?_
  simp only [decide_eq_true_eq] at e ⊢
  omega
section
variable {s : St}
theorem Sound.nd (S : Sound s) : s.C.Nodup := up_nodup S.circ.up
theorem vn_ge (S : Sound s) (h t : Int) : 0 ≤ s.vn h t := by
  unfold St.vn
  cases e : s.vg h t with
  | none => simp
  | some m =>
    obtain ⟨r, f, h1, h2, h3, h4⟩ := S.votes h t m e
    have := S.firsts t r f h1 h2
    simp only [Option.getD_some]
    omega
theorem vn_zero (S : Sound s) {h t : Int} (hr : s.rw t = none) : s.vn h t = 0 := by
  unfold St.vn
  cases e : s.vg h t with
  | none => rfl
  | some m =>
    obtain ⟨r, f, h1, _⟩ := S.votes h t m e
    rw [hr] at h1; cases h1
theorem vn_le (S : Sound s) {h t : Int} {r : List En} (hr : s.rw t = some r) : s.vn h t ≤ r.length := by
  unfold St.vn
  cases e : s.vg h t with
  | none => simp
  | some m =>
    obtain ⟨r', f, h1, h2, h3, h4⟩ := S.votes h t m e
    rw [hr] at h1; cases h1
    exact h4
theorem chs_zero (S : Sound s) (t : Int) : s.Chs t 0 := by
  have e : (s.C.filter fun h => decide ((0 : Int) ≤ s.vn h t)) = s.C := List.filter_eq_self.mpr fun a _ => decide_eq_true (vn_ge S a t)
  unfold St.Chs more
  rw [e]
  have := S.circ.ge
  omega
end

/-! ### the four actions -/
def St.promise (s : St) (h t : Int) : St := { s with pr := up s.pr h t }
def St.lead (s : St) (t : Int) (row : List En) : St := { s with rw := up s.rw t row, fs := up s.fs t row.length }
def St.append (s : St) (t : Int) (e : En) : St := { s with rw := up s.rw t (((s.rw t).getD []) ++ [e]) }
def St.vote (s : St) (h t m : Int) : St := { s with pr := up s.pr h t, vt := up s.vt h (up ((s.vt h).getD fun _ => none) t m) }
inductive Act where
  | promise (h t : Int) | lead (t : Int) (lot : List Int) | append (t : Int) (e : En) | vote (h t m : Int)
/-- the row that the best vote of a lot below a term tells -/
inductive Told (s : St) (lot : List Int) (t : Int) : List En → Prop
  | none : (∀ h ∈ lot, ∀ t', t' < t → s.vg h t' = none) → Told s lot t []
  | some {h led m : Int} {r : List En} : h ∈ lot → led < t → s.vg h led = some m → s.rw led = some r →
      (∀ h' ∈ lot, ∀ t' m', t' < t → s.vg h' t' = some m' → t' < led ∨ (t' = led ∧ m' ≤ m)) → Told s lot t (r.take m.toNat)
theorem Told.uniq {s : St} {lot : List Int} {t : Int} {a b : List En} (x : Told s lot t a) (y : Told s lot t b) : a = b := by
  cases x with
  | none hn =>
    cases y with
    | none _ => rfl
    | some h1 h2 h3 h4 h5 => rw [hn _ h1 _ h2] at h3; cases h3
  | some h1 h2 h3 h4 h5 =>
    cases y with
    | none hn => rw [hn _ h1 _ h2] at h3; cases h3
    | some g1 g2 g3 g4 g5 =>
      have a1 := h5 _ g1 _ _ g2 g3
      have a2 := g5 _ h1 _ _ h2 h3
      rename_i h led m r h' led' m' r'
      have e : led = led' := by omega
      subst e
      have e : m = m' := by omega
      subst e
      rw [h4] at g4; cases g4
      rfl
def Let (s : St) : Act → Prop
  | .promise h t => ∃ p, s.pr h = some p ∧ p < t
  | .lead t lot => s.rw t = none ∧ 0 ≤ t ∧ lot.Pairwise (· < ·) ∧ (∀ h ∈ lot, h ∈ s.C) ∧ more s.C lot ∧ ∀ h ∈ lot, t ≤ s.pg h
  | .append t _ => (s.rw t).isSome = true
  | .vote h t m => ∃ p r f, s.pr h = some p ∧ s.rw t = some r ∧ s.fs t = some f ∧ p ≤ t ∧ f ≤ m ∧ s.vn h t ≤ m ∧ m ≤ (r.length : Int)
/-- a let action done -/
inductive Step (s : St) : Act → St → Prop
  | promise {h t : Int} : Let s (.promise h t) → Step s (.promise h t) (s.promise h t)
  | lead {t : Int} {lot : List Int} {row : List En} : Let s (.lead t lot) → Told s lot t row → Step s (.lead t lot) (s.lead t row)
  | append {t : Int} {e : En} : Let s (.append t e) → Step s (.append t e) (s.append t e)
  | vote {h t m : Int} : Let s (.vote h t m) → Step s (.vote h t m) (s.vote h t m)
theorem Step.uniq {s a b : St} {x : Act} (h : Step s x a) (g : Step s x b) : a = b := by
  cases h with
  | promise _ => cases g; rfl
  | lead _ t1 =>
    cases g with
    | lead _ t2 => rw [t1.uniq t2]
  | append _ => cases g; rfl
  | vote _ => cases g; rfl

section
variable {s : St}
theorem pg_of {h p : Int} (e : s.pr h = some p) : s.pg h = p := by unfold St.pg; rw [e]; rfl
theorem pg_promise {h t : Int} (x : Int) : (s.promise h t).pg x = if x = h then t else s.pg x := by
  unfold St.pg St.promise up
  simp only
  split <;> rfl
theorem pg_vote {h t m : Int} (x : Int) : (s.vote h t m).pg x = if x = h then t else s.pg x := by
  unfold St.pg St.vote up
  simp only
  split <;> rfl
theorem vg_vote {h t m : Int} (x y : Int) : (s.vote h t m).vg x y = if x = h ∧ y = t then some m else s.vg x y := by
  unfold St.vg St.vote up
  simp only
  by_cases hx : x = h
  · subst hx
    simp only [if_true, Option.bind_some, true_and]
    split
    · rfl
    · cases e : s.vt x <;> rfl
  · rw [if_neg hx, if_neg (fun z => hx z.1)]
theorem vn_vote {h t m : Int} (x y : Int) : (s.vote h t m).vn x y = if x = h ∧ y = t then m else s.vn x y := by
  unfold St.vn
  rw [vg_vote]
  split <;> rfl
/-- what is open only shrinks, where promises and votes only grow -/
theorem opn_promise {h t : Int} (hp : s.pg h < t) {t1 m : Int} (o : (s.promise h t).Opn t1 m) : s.Opn t1 m := by
  refine more_le o fun x _ e => ?_
  simp only [decide_eq_true_eq, pg_promise] at e ⊢
  rcases e with e | e
  · exact .inl e
  · split at e
    · rename_i z; subst z; right; omega
    · exact .inr e
theorem opn_vote {h t m : Int} (hp : s.pg h ≤ t) {t1 m1 : Int} (o : (s.vote h t m).Opn t1 m1) : s.Opn t1 m1 := by
  refine more_le o fun x _ e => ?_
  simp only [decide_eq_true_eq, pg_vote, vn_vote] at e ⊢
  rcases e with e | e
  · split at e
    · rename_i z; obtain ⟨z1, z2⟩ := z; subst z1; subst z2; right; exact hp
    · exact .inl e
  · split at e
    · rename_i z; subst z; right; omega
    · exact .inr e
theorem sound_promise (S : Sound s) {h t : Int} (l : Let s (.promise h t)) : Sound (s.promise h t) := by
  obtain ⟨p, hp, hlt⟩ := l
  have hpg : s.pg h < t := by rw [pg_of hp]; exact hlt
  have hC : h ∈ s.C := (S.prk h).mp (by rw [hp]; rfl)
  have pge : ∀ x, s.pg x ≤ (s.promise h t).pg x := fun x => by
    rw [pg_promise]; split
    · rename_i z; subst z; omega
    · omega
  refine ⟨S.circ, fun x => ?_, S.vtk, S.fsk, S.tge, fun x q e => ?_, S.votes, fun x y m e => Int.le_trans (S.proms x y m e) (pge x), S.firsts, fun y r e => ?_, fun y y' r r' f' h1 h2 h3 h4 m m0 m1 o => S.chosen y y' r r' f' h1 h2 h3 h4 m m0 m1 (opn_promise hpg o)⟩
  · show (up s.pr h t x).isSome = true ↔ x ∈ s.C
    unfold up
    split
    · rename_i z; subst z; simp [hC]
    · exact S.prk x
  · have e' : up s.pr h t x = some q := e
    unfold up at e'
    split at e'
    · cases e'
      have := S.prm h p hp
      omega
    · exact S.prm x q e'
  · refine more_le (S.lots y r e) fun x _ z => ?_
    simp only [decide_eq_true_eq] at z ⊢
    exact Int.le_trans z (pge x)
theorem sound_vote (S : Sound s) {h t m : Int} (l : Let s (.vote h t m)) : Sound (s.vote h t m) := by
  obtain ⟨p, r, f, hp, hr, hf, hlt, hfm, hvm, hml⟩ := l
  have hpg : s.pg h ≤ t := by rw [pg_of hp]; exact hlt
  have hC : h ∈ s.C := (S.prk h).mp (by rw [hp]; rfl)
  have pge : ∀ x, s.pg x ≤ (s.vote h t m).pg x := fun x => by
    rw [pg_vote]; split
    · rename_i z; subst z; omega
    · omega
  refine ⟨S.circ, fun x => ?_, fun x => ?_, S.fsk, S.tge, fun x q e => ?_, fun x y k e => ?_, fun x y k e => ?_, S.firsts, fun y r e => ?_, fun y y' r r' f' h1 h2 h3 h4 m m0 m1 o => S.chosen y y' r r' f' h1 h2 h3 h4 m m0 m1 (opn_vote hpg o)⟩
  · show (up s.pr h t x).isSome = true ↔ x ∈ s.C
    unfold up
    split
    · rename_i z; subst z; simp [hC]
    · exact S.prk x
  · show (up s.vt h _ x).isSome = true ↔ x ∈ s.C
    unfold up
    split
    · rename_i z; subst z; simp [hC]
    · exact S.vtk x
  · have e' : up s.pr h t x = some q := e
    unfold up at e'
    split at e'
    · cases e'
      have := S.prm h p hp
      omega
    · exact S.prm x q e'
  · rw [vg_vote] at e
    split at e
    · rename_i z; obtain ⟨z1, z2⟩ := z; subst z1; subst z2
      cases e
      exact ⟨r, f, hr, hf, hfm, hml⟩
    · exact S.votes x y k e
  · rw [vg_vote] at e
    split at e
    · rename_i z; obtain ⟨z1, z2⟩ := z; subst z1; subst z2
      rw [pg_vote, if_pos rfl]
      exact Int.le_refl _
    · exact Int.le_trans (S.proms x y k e) (pge x)
  · refine more_le (S.lots y r e) fun x _ z => ?_
    simp only [decide_eq_true_eq] at z ⊢
    exact Int.le_trans z (pge x)
/-- below another led term nothing that none has voted for can be open -/
theorem no_open (S : Sound s) {t t' m : Int} {r' : List En} (hr : s.rw t' = some r') (hlt : t < t') (hv : ∀ h ∈ s.C, s.vn h t < m) : ¬ s.Opn t m := fun o => by
  obtain ⟨x, hx, h1, h2⟩ := meet o (S.lots t' r' hr)
  simp only [decide_eq_true_eq] at h1 h2
  have := hv x hx
  omega
theorem take_snoc {r : List En} {e : En} {m : Int} (h : m ≤ (r.length : Int)) : (r ++ [e]).take m.toNat = r.take m.toNat := by
  rw [List.take_append_of_le_length (by omega)]
theorem sound_append (S : Sound s) {t : Int} {e : En} (l : Let s (.append t e)) : Sound (s.append t e) := by
  obtain ⟨r0, hr0⟩ := Option.isSome_iff_exists.mp (show (s.rw t).isSome = true from l)
  have key : ∀ y r, (s.append t e).rw y = some r → (y = t ∧ r = r0 ++ [e]) ∨ (y ≠ t ∧ s.rw y = some r) := fun y r h => by
    have h' : up s.rw t (((s.rw t).getD []) ++ [e]) y = some r := h
    unfold up at h'
    split at h'
    · rename_i z
      rw [hr0] at h'
      cases h'
      exact .inl ⟨z, rfl⟩
    · rename_i z
      exact .inr ⟨z, h'⟩
  have back : ∀ y r, (s.append t e).rw y = some r → ∃ q, s.rw y = some q ∧ (q.length : Int) ≤ r.length ∧ ∀ m : Int, m ≤ (q.length : Int) → r.take m.toNat = q.take m.toNat := fun y r h => by
    rcases key y r h with ⟨rfl, rfl⟩ | ⟨_, h'⟩
    · exact ⟨r0, hr0, by simp only [List.length_append, List.length_cons, List.length_nil]; omega, fun m hm => take_snoc hm⟩
    · exact ⟨r, h', Int.le_refl _, fun m _ => rfl⟩
  refine ⟨S.circ, S.prk, S.vtk, fun y => ?_, fun y r h => ?_, S.prm, fun x y m h => ?_, S.proms, fun y r f h h' => ?_, fun y r h => ?_, ?_⟩
  · show (s.fs y).isSome = (up s.rw t (((s.rw t).getD []) ++ [e]) y).isSome
    rw [S.fsk y]
    unfold up
    split
    · rename_i z; subst z; rw [hr0]; rfl
    · rfl
  · obtain ⟨q, hq, _⟩ := back y r h
    exact S.tge y q hq
  · obtain ⟨q, f, h1, h2, h3, h4⟩ := S.votes x y m h
    by_cases z : y = t
    · subst z
      rw [hr0] at h1; cases h1
      refine ⟨r0 ++ [e], f, ?_, h2, h3, by simp; omega⟩
      show up s.rw y (((s.rw y).getD []) ++ [e]) y = _
      rw [up_same, hr0]; rfl
    · refine ⟨q, f, ?_, h2, h3, h4⟩
      show up s.rw t (((s.rw t).getD []) ++ [e]) y = _
      rw [up_ne z]; exact h1
  · obtain ⟨q, hq, hl, _⟩ := back y r h
    have := S.firsts y q f hq h'
    omega
  · obtain ⟨q, hq, _⟩ := back y r h
    exact S.lots y q hq
  · intro y y' r r' f' h1 h2 h3 hlt m m0 ml o
    obtain ⟨q, hq, hl, ht⟩ := back y r h1
    obtain ⟨q', hq', hl', ht'⟩ := back y' r' h2
    have o' : s.Opn y m := o
    by_cases hm : m ≤ (q.length : Int)
    · have c := S.chosen y y' q q' f' hq hq' h3 hlt m m0 hm o'
      have g := (S.firsts y' q' f' hq' h3).2
      refine ⟨c.1, ?_⟩
      rw [ht m hm, ht' m (by omega)]
      exact c.2
    · refine absurd o' (no_open S hq' hlt fun x _ => ?_)
      have := vn_le S (h := x) hq
      omega
theorem told_le {lot : List Int} {t : Int} {row : List En} (S : Sound s) (w : Told s lot t row) {x t1 v : Int} (hx : x ∈ lot) (ht : t1 < t) (hv : s.vg x t1 = some v) {r1 : List En} (hr1 : s.rw t1 = some r1) {m : Int} (m0 : 0 ≤ m) (hm : m ≤ v) (o : s.Opn t1 m) :
    m ≤ (row.length : Int) ∧ r1.take m.toNat = row.take m.toNat := by
  cases w with
  | none hn => rw [hn x hx t1 ht] at hv; cases hv
  | some h1 h2 h3 h4 h5 =>
    rename_i h led k r
    obtain ⟨r', f, g1, g2, g3, g4⟩ := S.votes h led k h3
    rw [h4] at g1; cases g1
    obtain ⟨r2, f2, b1, b2, b3, b4⟩ := S.votes x t1 v hv
    rw [hr1] at b1; cases b1
    have key : m ≤ k ∧ r1.take m.toNat = r.take m.toNat := by
      rcases h5 x hx t1 v ht hv with z | ⟨z, z2⟩
      · have c := S.chosen t1 led r1 r f hr1 h4 g2 z m m0 (by omega) o
        exact ⟨by omega, c.2⟩
      · subst z
        rw [hr1] at h4; cases h4
        exact ⟨by omega, rfl⟩
    have l : (r.take k.toNat).length = k.toNat := by rw [List.length_take]; omega
    refine ⟨by rw [l]; omega, ?_⟩
    rw [List.take_take, Nat.min_eq_left (by omega)]
    exact key.2
theorem sound_lead (S : Sound s) {t : Int} {lot : List Int} {row : List En} (l : Let s (.lead t lot)) (w : Told s lot t row) : Sound (s.lead t row) := by
  obtain ⟨hn, h0, hup, hin, hmo, hpr⟩ := l
  have hf : s.fs t = none := by
    have := S.fsk t
    rw [hn] at this
    cases e : s.fs t with
    | none => rfl
    | some f => rw [e] at this; cases this
  have rk : ∀ y r, (s.lead t row).rw y = some r → (y = t ∧ r = row) ∨ (y ≠ t ∧ s.rw y = some r) := fun y r h => by
    have h' : up s.rw t row y = some r := h
    unfold up at h'
    split at h'
    · rename_i z; cases h'; exact .inl ⟨z, rfl⟩
    · rename_i z; exact .inr ⟨z, h'⟩
  have fk : ∀ y f, (s.lead t row).fs y = some f → (y = t ∧ f = (row.length : Int)) ∨ (y ≠ t ∧ s.fs y = some f) := fun y f h => by
    have h' : up s.fs t (row.length : Int) y = some f := h
    unfold up at h'
    split at h'
    · rename_i z; cases h'; exact .inl ⟨z, rfl⟩
    · rename_i z; exact .inr ⟨z, h'⟩
  have lotC : more s.C (s.C.filter fun h => decide (h ∈ lot)) := by
    unfold more at hmo ⊢
    rw [lot_filter S.nd (up_nodup hup) hin]
    exact hmo
  refine ⟨S.circ, S.prk, S.vtk, fun y => ?_, fun y r h => ?_, S.prm, fun x y m h => ?_, S.proms, fun y r f h h' => ?_, fun y r h => ?_, ?_⟩
  · show (up s.fs t (row.length : Int) y).isSome = (up s.rw t row y).isSome
    unfold up
    split
    · rfl
    · exact S.fsk y
  · rcases rk y r h with ⟨rfl, _⟩ | ⟨_, h⟩
    · exact h0
    · exact S.tge y r h
  · obtain ⟨q, f, h1, h2, h3, h4⟩ := S.votes x y m h
    have ne : y ≠ t := fun z => by rw [z, hn] at h1; cases h1
    exact ⟨q, f, (up_ne ne).trans h1, (up_ne ne).trans h2, h3, h4⟩
  · rcases rk y r h with ⟨rfl, rfl⟩ | ⟨z, h⟩
    · rcases fk y f h' with ⟨_, rfl⟩ | ⟨z, _⟩
      · exact ⟨by omega, Int.le_refl _⟩
      · exact absurd rfl z
    · rcases fk y f h' with ⟨z', _⟩ | ⟨_, h'⟩
      · exact absurd z' z
      · exact S.firsts y r f h h'
  · rcases rk y r h with ⟨rfl, _⟩ | ⟨_, h⟩
    · refine more_le lotC fun x _ e => ?_
      simp only [decide_eq_true_eq] at e ⊢
      exact hpr x e
    · exact S.lots y r h
  · intro y y' r r' f' h1 h2 h3 hlt m m0 ml o
    have o' : s.Opn y m := o
    rcases rk y r h1 with ⟨rfl, rfl⟩ | ⟨z1, g1⟩
    · -- the new row is the lesser one: nothing is open there
      rcases rk y' r' h2 with ⟨rfl, _⟩ | ⟨_, g2⟩
      · exact absurd hlt (Int.lt_irrefl _)
      · by_cases hm : m = 0
        · subst hm
          rcases fk y' f' h3 with ⟨z, _⟩ | ⟨_, g3⟩
          · subst z; exact absurd hlt (Int.lt_irrefl _)
          · exact ⟨(S.firsts y' r' f' g2 g3).1, rfl⟩
        · refine absurd o' (no_open S g2 hlt fun x _ => ?_)
          rw [vn_zero S hn]
          omega
    · rcases rk y' r' h2 with ⟨rfl, rfl⟩ | ⟨z2, g2⟩
      · have ef : f' = (r'.length : Int) := by
          rcases fk y' f' h3 with ⟨_, z⟩ | ⟨z, _⟩
          · exact z
          · exact absurd rfl z
        subst ef
        by_cases hm : m = 0
        · subst hm
          exact ⟨by omega, rfl⟩
        · obtain ⟨x, hx, e1, e2⟩ := meet o' lotC
          simp only [decide_eq_true_eq] at e1 e2
          have hp := hpr x e2
          have hv : m ≤ s.vn x y := by omega
          cases ev : s.vg x y with
          | none =>
            unfold St.vn at hv
            rw [ev] at hv
            simp at hv
            omega
          | some v =>
            have hmv : m ≤ v := by
              unfold St.vn at hv
              rw [ev] at hv
              exact hv
            exact told_le S w e2 hlt ev g1 m0 hmv o'
      · rcases fk y' f' h3 with ⟨z, _⟩ | ⟨_, g3⟩
        · exact absurd z z2
        · exact S.chosen y y' r r' f' g1 g2 g3 hlt m m0 ml o'
end
theorem Step.sound {s s' : St} {a : Act} (S : Sound s) (x : Step s a s') : Sound s' := by
  cases x with
  | promise l => exact sound_promise S l
  | lead l w => exact sound_lead S l w
  | append l => exact sound_append S l
  | vote l => exact sound_vote S l

/-! ### the first picture -/
def first (C : List Int) : St := { C := C, pr := fun h => if h ∈ C then some (-1) else none, rw := fun _ => none, fs := fun _ => none, vt := fun h => if h ∈ C then some (fun _ => none) else none }
theorem first_vg (C : List Int) (h t : Int) : (first C).vg h t = none := by
  unfold St.vg first
  simp only
  split <;> rfl
theorem first_sound {C : List Int} (hC : Circ C) : Sound (first C) := by
  refine ⟨hC, fun h => ?_, fun h => ?_, fun _ => rfl, fun t r e => (nomatch e), fun h p e => ?_, fun h t m e => ?_, fun h t m e => ?_, fun t r f e => (nomatch e), fun t r e => (nomatch e), fun t t' r r' f' e => (nomatch e)⟩
  · show (if h ∈ C then some (-1) else none : Option Int).isSome = true ↔ h ∈ C
    split <;> simp_all
  · show (if h ∈ C then some (fun _ => none) else none : Option (Dc Int)).isSome = true ↔ h ∈ C
    split <;> simp_all
  · have e' : (if h ∈ C then some (-1) else none : Option Int) = some p := e
    split at e'
    · cases e'; omega
    · cases e'
  · rw [first_vg] at e; cases e
  · rw [first_vg] at e; cases e

/-! ### the chosen row -/
/-- the greatest number of entries with a sentence, of at most so many -/
def Grt (p : Int → Prop) (len : Nat) (c : Int) : Prop := 0 ≤ c ∧ c ≤ (len : Int) ∧ p c ∧ ∀ m : Int, 0 ≤ m → m ≤ (len : Int) → p m → m ≤ c
theorem Grt.uniq {p : Int → Prop} {len : Nat} {a b : Int} (x : Grt p len a) (y : Grt p len b) : a = b := by
  have h1 := y.2.2.2 a x.1 x.2.1 x.2.2.1
  have h2 := x.2.2.2 b y.1 y.2.1 y.2.2.1
  omega
structure ChRow (s : St) (row : List En) : Prop where
  all : ∀ t r m, s.rw t = some r → 0 ≤ m → m ≤ (r.length : Int) → s.Chs t m → m ≤ (row.length : Int) ∧ r.take m.toNat = row.take m.toNat
  is : row = [] ∨ ∃ t r m, s.rw t = some r ∧ 0 ≤ m ∧ m ≤ (r.length : Int) ∧ s.Chs t m ∧ row = r.take m.toNat
theorem take_self {r : List En} {m : Int} (h0 : 0 ≤ m) (h : m ≤ (r.length : Int)) : (r.take m.toNat).length = m.toNat := by
  rw [List.length_take]; omega
theorem ChRow.pre {s : St} {a b : List En} (x : ChRow s a) (y : ChRow s b) : a.length ≤ b.length ∧ b.take a.length = a := by
  rcases x.is with rfl | ⟨t, r, m, h1, h2, h3, h4, rfl⟩
  · exact ⟨Nat.zero_le _, rfl⟩
  · obtain ⟨g1, g2⟩ := y.all t r m h1 h2 h3 h4
    rw [take_self h2 h3]
    exact ⟨by omega, g2.symm⟩
theorem ChRow.uniq {s : St} {a b : List En} (x : ChRow s a) (y : ChRow s b) : a = b := by
  obtain ⟨h1, h2⟩ := x.pre y
  obtain ⟨g1, g2⟩ := y.pre x
  have e : a.length = b.length := Nat.le_antisymm h1 g1
  rw [← h2, e, List.take_length]
theorem ChRow.first (C : List Int) (row : List En) (h : ChRow (first C) row) : row = [] := by
  rcases h.is with e | ⟨t, r, m, h1, _⟩
  · exact e
  · cases h1
theorem chrow_nil (C : List Int) : ChRow (first C) [] := ⟨fun t r m h => (nomatch h), .inl rfl⟩
/-- of two chosen beginnings one begins the other -/
theorem chosen_cmp {s : St} (S : Sound s) {t t0 m m0 : Int} {r r0 : List En} (h : s.rw t = some r) (h0 : s.rw t0 = some r0) (m1 : 0 ≤ m) (hm : m ≤ (r.length : Int)) (hm0 : m0 ≤ (r0.length : Int)) (c : s.Chs t m) (c0 : s.Chs t0 m0) (hl : m ≤ m0) :
    r.take m.toNat = r0.take m.toNat := by
  rcases Int.lt_trichotomy t t0 with z | z | z
  · obtain ⟨f, hf⟩ := Option.isSome_iff_exists.mp (show (s.fs t0).isSome = true by rw [S.fsk, h0]; rfl)
    exact (S.chosen t t0 r r0 f h h0 hf z m m1 hm (chs_opn c)).2
  · subst z
    rw [h] at h0; cases h0; rfl
  · obtain ⟨f, hf⟩ := Option.isSome_iff_exists.mp (show (s.fs t).isSome = true by rw [S.fsk, h]; rfl)
    have e := (S.chosen t0 t r0 r f h0 h hf z m0 (by omega) hm0 (chs_opn c0)).2
    have e' := congrArg (List.take m.toNat) e
    rw [List.take_take, List.take_take, Nat.min_eq_left (by omega)] at e'
    exact e'.symm
/-- a row that is a chosen beginning, and as long as each other one -/
theorem chrow_of {s : St} (S : Sound s) {row : List En} (hi : row = [] ∨ ∃ t r m, s.rw t = some r ∧ 0 ≤ m ∧ m ≤ (r.length : Int) ∧ s.Chs t m ∧ row = r.take m.toNat)
    (ha : ∀ t r m, s.rw t = some r → 0 ≤ m → m ≤ (r.length : Int) → s.Chs t m → m ≤ (row.length : Int)) : ChRow s row := by
  refine ⟨fun t r m h h0 hm c => ?_, hi⟩
  have l := ha t r m h h0 hm c
  refine ⟨l, ?_⟩
  rcases hi with rfl | ⟨t0, r0, m0, g1, g2, g3, g4, rfl⟩
  · have e : m = 0 := by simp at l; omega
    subst e; rfl
  · rw [take_self g2 g3] at l
    rw [List.take_take, Nat.min_eq_left (by omega)]
    exact chosen_cmp S h g1 h0 hm g3 c g4 (by omega)
/-- what is chosen stays -/
theorem Step.keep {s s' : St} {a : Act} (S : Sound s) (x : Step s a s') {t m : Int} {r : List En} (h : s.rw t = some r) (h0 : 0 ≤ m) (hm : m ≤ (r.length : Int)) (c : s.Chs t m) :
    ∃ r', s'.rw t = some r' ∧ m ≤ (r'.length : Int) ∧ r'.take m.toNat = r.take m.toNat ∧ s'.Chs t m := by
  cases x with
  | promise l => exact ⟨r, h, hm, rfl, c⟩
  | lead l w =>
    rename_i t2 lot row
    have ne : t ≠ t2 := fun z => by
      have := l.1
      rw [← z, h] at this; cases this
    exact ⟨r, (up_ne ne).trans h, hm, rfl, c⟩
  | append l =>
    rename_i t2 e
    by_cases z : t = t2
    · subst z
      refine ⟨r ++ [e], ?_, by simp; omega, take_snoc hm, c⟩
      show up s.rw t (((s.rw t).getD []) ++ [e]) t = _
      rw [up_same, h]; rfl
    · exact ⟨r, (up_ne z).trans h, hm, rfl, c⟩
  | vote l =>
    rename_i h2 t2 m2
    refine ⟨r, h, hm, rfl, more_le c fun y _ e => ?_⟩
    simp only [decide_eq_true_eq, vn_vote] at e ⊢
    obtain ⟨p, r', f, _, _, _, _, _, g, _⟩ := l
    split
    · rename_i z; obtain ⟨z1, z2⟩ := z; subst z1; subst z2; omega
    · exact e
theorem ChRow.grow {s s' : St} {a : Act} {row row' : List En} (S : Sound s) (x : Step s a s') (h : ChRow s row) (h' : ChRow s' row') : row.length ≤ row'.length ∧ row'.take row.length = row := by
  rcases h.is with rfl | ⟨t, r, m, h1, h2, h3, h4, rfl⟩
  · exact ⟨Nat.zero_le _, rfl⟩
  · obtain ⟨r', g1, g2, g3, g4⟩ := x.keep S h1 h2 h3 h4
    obtain ⟨k1, k2⟩ := h'.all t r' m g1 h2 g2 g4
    rw [take_self h2 h3]
    exact ⟨by omega, by rw [← k2, g3]⟩

/-! ### the middle of sorted numbers -/
theorem sorted_ge : ∀ {L : List Int}, L.Pairwise (· ≤ ·) → ∀ (k : Nat) (hk : k < L.length) (m : Int), m ≤ L[k] → L.length - k ≤ (L.filter fun x => decide (m ≤ x)).length
  | [], _, k, hk, _, _ => absurd hk (Nat.not_lt_zero _)
  | a :: r, h, 0, _, m, hm => by
    have e : ((a :: r).filter fun x => decide (m ≤ x)) = a :: r := List.filter_eq_self.mpr fun y hy => by
      rcases List.mem_cons.mp hy with rfl | hy
      · exact decide_eq_true hm
      · exact decide_eq_true (Int.le_trans hm (List.rel_of_pairwise_cons h hy))
    rw [e]; simp
  | a :: r, h, k + 1, hk, m, hm => by
    have ih := sorted_ge (List.Pairwise.of_cons h) k (by simpa using hk) m (by simpa using hm)
    have : (r.filter fun x => decide (m ≤ x)).length ≤ ((a :: r).filter fun x => decide (m ≤ x)).length := by
      rw [List.filter_cons]; split <;> simp
    simp only [List.length_cons]
    omega
theorem sorted_lt : ∀ {L : List Int}, L.Pairwise (· ≤ ·) → ∀ (k : Nat) (hk : k < L.length) (m : Int), L[k] < m → (L.filter fun x => decide (m ≤ x)).length + k + 1 ≤ L.length
  | [], _, k, hk, _, _ => absurd hk (Nat.not_lt_zero _)
  | a :: r, h, 0, _, m, hm => by
    rw [List.filter_cons_of_neg (by simp only [decide_eq_true_eq]; have : a < m := hm; omega)]
    have := List.length_filter_le (fun x => decide (m ≤ x)) r
    simp only [List.length_cons]
    omega
  | a :: r, h, k + 1, hk, m, hm => by
    have hk' : k < r.length := by simpa using hk
    have hm' : r[k] < m := by simpa using hm
    have ih := sorted_lt (List.Pairwise.of_cons h) k hk' m hm'
    have ha : a ≤ r[k] := List.rel_of_pairwise_cons h (List.getElem_mem hk')
    rw [List.filter_cons_of_neg (by simp only [decide_eq_true_eq]; omega)]
    simp only [List.length_cons]
    omega
/-- the middle is the greatest number that more than half reach -/
theorem middle_iff {C : List Int} {f : Int → Int} {L : List Int} (hp : L.Perm (C.map f)) (hs : L.Pairwise (· ≤ ·)) (hC : 1 ≤ C.length) {v : Int} (hv : L[(C.length - 1) / 2]? = some v) (m : Int) :
    more C (C.filter fun h => decide (m ≤ f h)) ↔ m ≤ v := by
  have hl : L.length = C.length := by rw [hp.length_eq, List.length_map]
  have hk : (C.length - 1) / 2 < L.length := by rw [hl]; omega
  rw [List.getElem?_eq_getElem hk] at hv
  have hv' : L[(C.length - 1) / 2] = v := Option.some.inj hv
  have e : (C.filter fun h => decide (m ≤ f h)).length = (L.filter fun x => decide (m ≤ x)).length := by
    have h1 := (hp.filter fun x => decide (m ≤ x)).length_eq
    rw [h1, List.filter_map, List.length_map]
    rfl
  unfold more
  rw [e]
  constructor
  · intro h
    by_cases z : m ≤ v
    · exact z
    · have := sorted_lt hs _ hk m (by omega)
      omega
  · intro h
    have := sorted_ge hs _ hk m (by omega)
    omega
end Pm

/-! Pm2: exchange of actions of unlike houses. -/
namespace Pm
theorem up_comm {α : Type} {f : Dc α} {k j : Int} {v w : α} (h : k ≠ j) : up (up f k v) j w = up (up f j w) k v := funext fun i => by
  unfold up
  by_cases h1 : i = k
  · subst h1; simp [h]
  · by_cases h2 : i = j
    · subst h2; simp [h1]
    · simp [h1, h2]
inductive PV : Act → Int → Prop
  | promise {h t : Int} : PV (.promise h t) h
  | vote {h t m : Int} : PV (.vote h t m) h
theorem step_C {s s' : St} {a : Act} (x : Step s a s') : s'.C = s.C := by cases x <;> rfl
theorem let_after {s s' : St} {a b : Act} {ha hb : Int} (pa : PV a ha) (pb : PV b hb) (ne : ha ≠ hb) (x : Step s a s') (lb : Let s b) : Let s' b := by
  cases x with
  | promise l =>
    cases pa
    cases pb with
    | promise =>
      obtain ⟨p, h1, h2⟩ := lb
      exact ⟨p, (up_ne ne.symm).trans h1, h2⟩
    | vote =>
      obtain ⟨p, r, f, h1, h2, h3, h4, h5, h6, h7⟩ := lb
      exact ⟨p, r, f, (up_ne ne.symm).trans h1, h2, h3, h4, h5, h6, h7⟩
  | vote l =>
    cases pa
    cases pb with
    | promise =>
      obtain ⟨p, h1, h2⟩ := lb
      exact ⟨p, (up_ne ne.symm).trans h1, h2⟩
    | vote =>
      obtain ⟨p, r, f, h1, h2, h3, h4, h5, h6, h7⟩ := lb
      refine ⟨p, r, f, (up_ne ne.symm).trans h1, h2, h3, h4, h5, ?_, h7⟩
      rw [vn_vote, if_neg (fun z => ne z.1.symm)]
      exact h6
  | lead _ _ => cases pa
  | append _ => cases pa
theorem St.ext2 {s t : St} (h1 : s.C = t.C) (h2 : s.pr = t.pr) (h3 : s.rw = t.rw) (h4 : s.fs = t.fs) (h5 : s.vt = t.vt) : s = t := by
  cases s; cases t; simp_all
theorem exch {s s1 s2 s12 s21 : St} {a b : Act} {ha hb : Int} (pa : PV a ha) (pb : PV b hb) (ne : ha ≠ hb) (x : Step s a s1) (y : Step s b s2) (x2 : Step s1 b s12) (y2 : Step s2 a s21) : s12 = s21 := by
  cases pa with
  | promise =>
    cases pb with
    | promise =>
      cases x; cases y; cases x2; cases y2
      exact St.ext2 rfl (up_comm ne) rfl rfl rfl
    | vote =>
      cases x; cases y; cases x2; cases y2
      exact St.ext2 rfl (up_comm ne) rfl rfl rfl
  | vote =>
    cases pb with
    | promise =>
      cases x; cases y; cases x2; cases y2
      exact St.ext2 rfl (up_comm ne) rfl rfl rfl
    | vote =>
      cases x; cases y; cases x2; cases y2
      refine St.ext2 rfl (up_comm ne) rfl rfl ?_
      show up (up s.vt ha _) hb (up (((up s.vt ha _) hb).getD _) _ _) = up (up s.vt hb _) ha (up (((up s.vt hb _) ha).getD _) _ _)
      rw [up_ne ne.symm, up_ne ne]
      exact up_comm ne
/-- rows of at most so many entries -/
def RL (s : St) (n : Nat) : Prop := ∀ t r, s.rw t = some r → r.length ≤ n
theorem RL.step {s s' : St} {a : Act} {n : Nat} (h : RL s n) (x : Step s a s') : RL s' (n + 1) := by
  intro t r hr
  cases x with
  | promise l => have := h t r hr; omega
  | vote l => have := h t r hr; omega
  | lead l w =>
    rename_i t2 lot row
    have hr' : up s.rw t2 row t = some r := hr
    unfold up at hr'
    split at hr'
    · cases hr'
      cases w with
      | none _ => simp
      | some h1 h2 h3 h4 h5 =>
        have := h _ _ h4
        rw [List.length_take]; omega
    · have := h t r hr'; omega
  | append l =>
    rename_i t2 e
    have hr' : up s.rw t2 (((s.rw t2).getD []) ++ [e]) t = some r := hr
    unfold up at hr'
    split at hr'
    · cases hr'
      rw [List.length_append]
      have : ((s.rw t2).getD []).length ≤ n := by
        cases e2 : s.rw t2 with
        | none => simp
        | some r2 => exact h _ _ e2
      simp; omega
    · have := h t r hr'; omega
end Pm

/-! Rul1: {**d}, {**d, k: v}; match over written texts; freezing of what stands still. -/
namespace Rx
open PySem PySem.Spec PyProof.Rows L2
section
variable {prog : Program} {w : World} {K : Type} [DecidableEq K] {knd : KeyKind prog w K} {A : Around} {E : Value → Shared → Prop} {s : Shared}
theorem put_pairs {d : Addr} {kvs : List (K × Value)} {k : K} {key v : Value} {Q : Unit → Shared → Prop} (hkey : knd.is k key = true) (hm : s.heap.DictOf knd d kvs)
    (hQ : ∀ h', h'.DictOf knd d (stored kvs k v) → Heap.SameBut d s.heap h' → Q () { s with heap := h' })
    (hsz : kvs.length ≤ sizeLine) :
    wpAny (model prog w) A (dictPut d (knd.hash k) key v) Q E s := by
  obtain ⟨o, es, ep, ho, hc, hd, hk, hp, hn⟩ := hm
  have hes : es.size ≤ sizeLine := by have e1 := hp.length; have e2 : es.toList.length = es.size := by simp
                                      omega
  unfold dictPut
  refine wpAny_bind (wpAny_dictFind_of hkey ho hd hk ?_)
  have hidx : (es.findIdx? fun e => knd.is k e.key) = kvs.findIdx? fun kv => decide (kv.1 = k) := by
    rw [← hp.findIdx k]; obtain ⟨l⟩ := es; simp
  cases hi : es.findIdx? fun e => knd.is k e.key with
  | some i =>
    refine wpAny_updateDict ho hd (hQ _ ⟨_, _, ep, Heap.get?_update_self _ ho (Obj.isFreed_of_dict (Obj.data_mapDict hd _)),
      hc.mapDict _, Obj.data_mapDict hd _, hk.modify _ _, ?_, ?_⟩ (Heap.SameBut.update ..))
    · rw [stored, if_pos (any_of_findIdx_some (hidx ▸ hi))]
      have hl : (es.toList.findIdx? fun e => knd.is k e.key) = some i := by rw [← hi]; obtain ⟨l⟩ := es; simp
      have := hp.modify hn hl v
      obtain ⟨l⟩ := es
      simpa using this
    · rw [stored, if_pos (any_of_findIdx_some (hidx ▸ hi)), keys_map_store]; exact hn
  | none =>
    have hnot : k ∉ kvs.map (·.1) := not_mem_of_findIdx_none (hidx ▸ hi)
    have hany : ¬ (kvs.any fun kv => decide (kv.1 = k)) = true := by
      rw [List.any_eq_true]; rintro ⟨kv, hkv, he⟩
      exact hnot (List.mem_map.mpr ⟨kv, hkv, of_decide_eq_true he⟩)
    refine wpAny_updateDictKeys (hz := hes) ho hd (hQ _ ⟨_, _, ep + 1, Heap.get?_update_self _ ho (Obj.isFreed_of_dict (Obj.data_mapDictKeys hd _)),
      hc.mapDictKeys _, Obj.data_mapDictKeys hd _, hk.push hkey _, ?_, ?_⟩ (Heap.SameBut.update ..))
    · rw [stored, if_neg hany]
      have := hp.append hkey (knd.hash k) v
      obtain ⟨l⟩ := es
      simpa using this
    · rw [stored, if_neg hany, List.map_append, List.nodup_append]
      refine ⟨hn, by simp, ?_⟩
      intro a ha b hb
      simp only [List.map_cons, List.map_nil, List.mem_singleton] at hb
      subst hb
      exact fun e => hnot (e ▸ ha)
/-- what lies in the dict at o is put into the one at d -/
theorem merge_map {d o : Addr} {kvs more : List (K × Value)} {Q : Unit → Shared → Prop} (hdo : d ≠ o) (hoS : (o == sysModules) = false) (nref : ∀ k v, knd.is k v = true → ∀ a, v ≠ .ref a)
    (hd : s.heap.DictOf knd d kvs) (ho : s.heap.DictOf knd o more) (hsz : kvs.length + more.length ≤ sizeLine)
    (hQ : ∀ h', h'.DictOf knd d (merged kvs more) → Heap.SameBut d s.heap h' → Q () { s with heap := h' }) :
    wpAny (model prog w) A (mergeMapping d (.ref o) false) Q E s := by
  obtain ⟨od, esd, epd, hod, hcd, hdd, hkd, hpd, hnd⟩ := id hd
  obtain ⟨oo, eso, epo, hoo, hco, hdo', hko, hpo, hno⟩ := id ho
  have hlen : more.length = eso.size := by rw [← hpo.length]; simp
  have loop : wpAny (model prog w) A (do
      let size := (← dictEntries o).size
      let epoch ← dictEpoch o
      for i in List.range size do
        let some e := (← dictEntries o)[i]? | unsupported "dict.changed-during-merge"
        holding [e.key, e.val] do
          if (false : Bool) = true then
            if (← dictFind d e.key e.hash).isSome then rule "dict.merge.duplicate-key"; raiseNew (← newExc (.type "KeyError") [e.key])
          dictPut d e.hash e.key e.val
        if (← dictEpoch o) != epoch then unsupported "dict.changed-during-merge") Q E s := by
    refine wpAny_bind (wpAny_dictEntries hoo hdo' ?_)
    refine wpAny_bind (wpAny_dictEpoch hoo hdo' ?_)
    refine wpAny_bind ?_
    refine wpAny_forIn_list _
      (fun rest _ s' => ∃ h' i, s' = { s with heap := h' } ∧ rest = (List.range eso.size).drop i ∧ i ≤ eso.size ∧ h'.DictOf knd d (merged kvs (more.take i)) ∧ h'.get? o = some oo ∧ Heap.SameBut d s.heap h')
      _ ?_ ?_ _ _ ⟨s.heap, 0, rfl, by simp, Nat.zero_le _, by simpa [merged] using hd, hoo, Heap.SameBut.refl _ _⟩
    · rintro x rest b s' ⟨h', i, rfl, hr, hi, hd', hoo', hs'⟩
      have hlt : i < eso.size := by
        rcases Nat.lt_or_ge i eso.size with h | h
        · exact h
        · rw [List.drop_eq_nil_of_le (by simpa using h)] at hr; cases hr
      obtain ⟨rfl, hrest⟩ : x = i ∧ rest = (List.range eso.size).drop (i + 1) := by
        rw [List.drop_eq_getElem_cons (by simpa using hlt)] at hr
        injection hr with h1 h2
        exact ⟨by simpa using h1, h2⟩
      refine wpAny_bind (wpAny_dictEntries hoo' hdo' ?_)
      rw [Array.getElem?_eq_getElem hlt]
      obtain ⟨kv, hkv⟩ : ∃ kv, more[x]? = some kv := ⟨more[x]'(by rw [hlen]; exact hlt), List.getElem?_eq_getElem _⟩
      obtain ⟨k, v⟩ := kv
      obtain ⟨hkey, hval⟩ := hpo.get? (e := eso[x]) (by simp [hlt]) hkv
      obtain ⟨k', hkey', hhash⟩ := hko eso[x] (Array.getElem_mem hlt)
      obtain rfl : k' = k := knd.inj _ _ _ hkey' hkey
      have hmx : (merged kvs (more.take x)).length ≤ sizeLine := by
        have e1 := merged_length_le kvs (more.take x)
        have e2 : (more.take x).length ≤ more.length := by rw [List.length_take]; omega
        omega
      dsimp only
      simp only [Bool.false_eq_true, if_false]
      rw [hhash, hval]
      refine wpAny_bind (wpAny_holding ?_)
      try refine wpAny_bind (wpAny_pure ?_)
      refine put_pairs hkey hd' (fun h'' hd'' hs'' => ?_) hmx
      have hoo'' : h''.get? o = some oo := (hs''.2 o (Ne.symm hdo)).trans hoo'
      refine wpAny_bind (wpAny_dictEpoch hoo'' hdo' ?_)
      rw [if_neg (by simp)]
      try refine wpAny_bind (wpAny_pure ?_)
      exact wpAny_pure ⟨h'', x + 1, rfl, hrest, hlt, by rw [merged_take_succ kvs more x (k', v) hkv]; exact hd'', hoo'', hs'.trans hs''⟩
    · rintro b s' ⟨h', i, rfl, hr, hi, hd', hoo', hs'⟩
      have hin : i = eso.size := by
        rcases Nat.lt_or_ge i eso.size with h | h
        · rw [List.drop_eq_getElem_cons (by simpa using h)] at hr; cases hr
        · exact Nat.le_antisymm hi h
      refine wpAny_pure (hQ h' ?_ hs')
      rw [hin, ← hlen, List.take_length] at hd'; exact hd'
  unfold mergeMapping
  refine wpAny_bind (wpAny_isInstance (T := "dict") ho.typeIs isSubtype_dict_dict ?_)
  rw [if_pos rfl]
  refine wpAny_bind (wpAny_specialOf ho.typeIs F.slot_dict_iter.lookup (wpAny_bind (wpAny_pure ?_)))
  simp only [beq_self_eq_true]
  rw [if_neg (by rw [hoS]; exact Bool.false_ne_true)]
  refine wpAny_bind (wpAny_dictEntries hod hdd ?_)
  split
  · refine wpAny_bind (wpAny_dictEntries hoo hdo' ?_)
    refine wpAny_bind ?_
    rw [← Array.forIn_toList]
    refine wpAny_forIn_list _ (fun rest _ s' => s' = s ∧ ∀ e ∈ rest, ∃ k, knd.is k e.key = true) _ ?_ ?_ _ _ ⟨rfl, ?_⟩
    · rintro e rest b s' ⟨rfl, he⟩
      obtain ⟨k, hk⟩ := he e List.mem_cons_self
      have nr := nref k e.key hk
      cases ek : e.key with
      | ref a => exact absurd ek (nr a)
      | _ => exact wpAny_pure ⟨rfl, fun e' h' => he e' (List.mem_cons_of_mem _ h')⟩
    · rintro b s' ⟨rfl, _⟩
      exact loop
    · intro e he
      obtain ⟨k, hk, _⟩ := hko e (by simpa using he)
      exact ⟨k, hk⟩
  · exact loop
end
end Rx

namespace Rx
open PySem PySem.Spec PyProof.Rows L2
section
variable {M : Model} {A : Around} {E : Value → Shared → Prop} {s : Shared}
/-- {**v} -/
theorem display1 {v : Sem Value} {Q : Value → Shared → Prop}
    (h : wpAny M A v (fun m s1 => wpAny M A (mergeMapping s.heap.objs.size m false) (fun _ s2 => Q (.ref s.heap.objs.size) s2) (fun _ _ => False) s1) E { s with heap := s.heap.push { cls := .type "dict", data := .dict #[] } }) :
    wpAny M A (dictDisplay [(none, v)]) Q E s := by
  unfold dictDisplay
  simp only [List.forIn_cons, List.forIn_nil, List.isEmpty_nil, if_true]
  refine wpAny_bind (wpAny_bind (wpAny_bind (wpAny_pure ?_)))
  refine wpAny_bind (wpAny_alloc (wpAny_bind (wpAny_holding (wpAny_mono h (fun m s1 h1 => ?_) fun _ _ z => z))))
  refine wpAny_bind (wpAny_onRaise (wpAny_tryCatch (wpAny_onRaise (wpAny_holding (wpAny_mono h1 (fun _ s2 h2 => ?_) fun _ _ z => z.elim)))))
  exact wpAny_pure (wpAny_pure (wpAny_bind (wpAny_pure (wpAny_pure h2))))
/-- {**v, k: u} -/
theorem display2 {v k u : Sem Value} {Q : Value → Shared → Prop}
    (h : wpAny M A v (fun m s1 => wpAny M A (mergeMapping s.heap.objs.size m false) (fun _ s2 => wpAny M A (subDict [(k, u)]) (fun sub s3 => wpAny M A (mergeMapping s.heap.objs.size (.ref sub) false) (fun _ s4 => Q (.ref s.heap.objs.size) s4) (fun _ _ => False) s3) E s2) (fun _ _ => False) s1) E
      { s with heap := s.heap.push { cls := .type "dict", data := .dict #[] } }) :
    wpAny M A (dictDisplay [(none, v), (some k, u)]) Q E s := by
  unfold dictDisplay
  simp only [List.forIn_cons, List.forIn_nil, List.isEmpty_nil, if_true]
  refine wpAny_bind (wpAny_bind (wpAny_bind (wpAny_pure ?_)))
  refine wpAny_bind (wpAny_alloc (wpAny_bind (wpAny_holding (wpAny_mono h (fun m s1 h1 => ?_) fun _ _ z => z))))
  refine wpAny_bind (wpAny_onRaise (wpAny_tryCatch (wpAny_onRaise (wpAny_holding (wpAny_mono h1 (fun _ s2 h2 => ?_) fun _ _ z => z.elim)))))
  refine wpAny_pure ?_
  dsimp only
  simp only [List.nil_append, List.length_cons, List.length_nil, Nat.zero_add, List.isEmpty_cons]
  refine wpAny_bind ?_
  rw [if_neg (by decide)]
  refine wpAny_pure (wpAny_pure (wpAny_bind ?_))
  dsimp only
  rw [if_neg (show ¬ ([(k, u)].isEmpty = true) from fun z => Bool.noConfusion (show false = true from z))]
  refine wpAny_bind (wpAny_holding (wpAny_mono h2 (fun sub s3 h3 => ?_) fun _ _ z => z))
  refine wpAny_bind (wpAny_onRaise (wpAny_holding (wpAny_mono h3 (fun _ s4 h4 => ?_) fun _ _ z => z.elim)))
  exact wpAny_pure (wpAny_pure h4)
end

/-! ### over the layer -/
theorem mix_nref {P : Program} {w : World} (k : Key) (v : Value) (h : (mixKind P w).is k v = true) (a : Addr) : v ≠ .ref a := fun e => by
  rcases keyIs_shape (show keyIs k v = true from h) with ⟨i, t, _, e'⟩ | ⟨x, t, _, e'⟩
  · rw [e] at e'; cases e'
  · rw [e] at e'; cases e'
section
variable {X : Cx} {pins : List (Addr × Obj)} {σ : L2.St} {H : Hp} {s : Shared} {d a : Addr} {kvs more : List (Key × V)} {A : Around} {E : Value → Shared → Prop}
theorem d_merge {Q : Unit → Shared → Prop} (I : Inv X pins σ H s) (hd : H d = some (.dK kvs)) (ha : Rd H a (.dK more)) (hne : d ≠ a) (hsz : kvs.length + more.length ≤ sizeLine)
    (h : ∀ s', Inv X pins σ (upd H d (.dK (mergeK kvs more))) s' → Q () s') : wpAny (model X.prog X.w) A (mergeMapping d (.ref a) false) Q E s := by
  obtain ⟨z1, y1, vs1, r1, d1⟩ := dk_of I.hok hd
  obtain ⟨z2, y2, vs2, r2, d2⟩ := dk_rd I.hok ha
  refine merge_map hne y2 mix_nref d1 d2 (by rw [← r1.length, ← r2.length]; exact hsz) fun h' dd hs => ?_
  have he : ∃ q, h'.get? d = some q := let ⟨q, _, _, hq, _⟩ := dd; ⟨q, hq⟩
  have hl : (mergeK kvs more).length ≤ sizeLine := Nat.le_trans (length_mergeK more kvs) hsz
  have I2 := d_write (t' := s.toks) I (by rw [hd]; exact True.intro) hs he (dk_new hl y1 (r2.merge r1) dd)
  exact h _ I2
end
theorem merge_nil {kvs : List (Key × V)} (hn : (kvs.map (·.1)).Nodup) : mergeK [] kvs = kvs := by
  have key : ∀ (more acc : List (Key × V)), ((acc ++ more).map (·.1)).Nodup → mergeK acc more = acc ++ more := by
    intro more
    induction more with
    | nil => intro acc _; show acc = acc ++ []; rw [List.append_nil]
    | cons p r ih =>
      intro acc h
      have hv : valV acc p.1 = none := by
        cases e : valV acc p.1 with
        | none => rfl
        | some v =>
          have hm : (acc.any fun kv => decide (kv.1 = p.1)) = true := by rw [valV_any, e]; rfl
          rw [List.any_eq_true] at hm
          obtain ⟨x, hx, he⟩ := hm
          rw [List.map_append, List.map_cons, List.nodup_append] at h
          exact absurd (of_decide_eq_true he) (h.2.2 x.1 (List.mem_map.mpr ⟨x, hx, rfl⟩) p.1 List.mem_cons_self)
      show mergeK (putK acc p.1 p.2) r = acc ++ p :: r
      rw [putK_new _ hv, ih (acc ++ [(p.1, p.2)]) (by simpa using h)]
      simp
  simpa using key kvs [] (by simpa using hn)
/-- {**v} -/
def tDst1 (tv : TE) : TE := fun σ H Q => ∀ p, H p = none → tv σ (upd H p (.dK [])) fun x H1 => ∃ a kvs, x = .ref a ∧ H1 p = some (.dK []) ∧ p ≠ a ∧ Rd H1 a (.dK kvs) ∧ kvs.length ≤ sizeLine ∧ Q (.ref p) (upd H1 p (.dK (mergeK [] kvs)))
/-- {**v, k: u} -/
def tDst2 (tv tk tu : TE) : TE := fun σ H Q => ∀ p, H p = none → tv σ (upd H p (.dK [])) fun x H1 => ∃ a kvs, x = .ref a ∧ H1 p = some (.dK []) ∧ p ≠ a ∧ Rd H1 a (.dK kvs) ∧ kvs.length + 1 ≤ sizeLine ∧
  ∀ q, upd H1 p (.dK (mergeK [] kvs)) q = none → tk σ (upd (upd H1 p (.dK (mergeK [] kvs))) q (.dK [])) fun y H2 => tu σ H2 fun z H3 => ∃ k, y = kV k ∧ H3 q = some (.dK []) ∧ H3 p = some (.dK (mergeK [] kvs)) ∧
    Q (.ref p) (upd (upd H3 q (.dK [(k, z)])) p (.dK (putK (mergeK [] kvs) k z)))
section
variable {X : Cx} {pos : Pos} {v k u : Expr} {tv tk tu : TE}
theorem pe_dst1 (hv : PE X v tv) : PE X (.Dict [none] [v] pos) (tDst1 tv) := by
  refine ⟨fun pins s σ H Q I q => ?_⟩
  rw [arm_eval_Dict]
  refine wpAny_bind (wpAny_standAt ?_)
  show wpAny _ _ (dictDisplay [(none, do let x ← eval v X.env; standAt pos; pure x)]) _ _ _
  have hn := I.hok.fresh (Nat.le_refl s.heap.objs.size)
  have I1 := I.laid (a := s.heap.objs.size) (o := .dK []) (h' := s.heap.push { cls := .type "dict", data := .dict #[] }) (t' := s.toks) (fun _ _ q => Heap.get?_push_of_some _ q) (Nat.le_refl _) (dk_empty s.heap I.big)
  refine display1 (wpAny_bind (thn (hv.run pins _ σ _ _ I1 (q _ hn)) fun m s1 ⟨x, H1, I2, rx, a, kvs, ex, h1, hne, h2, hz, q2⟩ => wpAny_bind (wpAny_standAt (wpAny_pure ?_))))
  subst ex
  cases (show m = Value.ref a from rx)
  exact d_merge I2 h1 h2 hne (by rw [List.length_nil, Nat.zero_add]; exact hz) fun s2 I3 => ⟨.ref s.heap.objs.size, _, I3, rfl, q2⟩
theorem pe_dst2 (hv : PE X v tv) (hk : PE X k tk) (hu : PE X u tu) : PE X (.Dict [none, some k] [v, u] pos) (tDst2 tv tk tu) := by
  refine ⟨fun pins s σ H Q I q => ?_⟩
  rw [arm_eval_Dict]
  refine wpAny_bind (wpAny_standAt ?_)
  show wpAny _ _ (dictDisplay [(none, do let x ← eval v X.env; standAt pos; pure x), (some (eval k X.env), do let x ← eval u X.env; standAt pos; pure x)]) _ _ _
  have hn := I.hok.fresh (Nat.le_refl s.heap.objs.size)
  have I1 := I.laid (a := s.heap.objs.size) (o := .dK []) (h' := s.heap.push { cls := .type "dict", data := .dict #[] }) (t' := s.toks) (fun _ _ q => Heap.get?_push_of_some _ q) (Nat.le_refl _) (dk_empty s.heap I.big)
  refine display2 (wpAny_bind (thn (hv.run pins _ σ _ _ I1 (q _ hn)) fun m s1 ⟨x, H1, I2, rx, a, kvs, ex, h1, hne, h2, hz, q2⟩ => wpAny_bind (wpAny_standAt (wpAny_pure ?_))))
  subst ex
  cases (show m = Value.ref a from rx)
  refine d_merge I2 h1 h2 hne (by rw [List.length_nil, Nat.zero_add]; omega) fun s2 I3 => ?_
  have hn2 := I3.hok.fresh (Nat.le_refl s2.heap.objs.size)
  have I4 := I3.laid (a := s2.heap.objs.size) (o := .dK []) (h' := s2.heap.push { cls := .type "dict", data := .dict #[] }) (t' := s2.toks) (fun _ _ q => Heap.get?_push_of_some _ q) (Nat.le_refl _) (dk_empty s2.heap I3.big)
  refine wpAny_subDict (knd := mixKind X.prog X.w) (by show 1 ≤ 15; decide) (evalPairs_cons (thn (hk.run pins _ σ _ _ I4 (q2 _ hn2)) fun kv s3 ⟨y, H2, I5, ry, q3⟩ => wpAny_bind (thn (hu.run pins s3 σ H2 _ I5 q3) fun uv s4 ⟨z, H3, I6, rz, kk, ek, e1, e2, q4⟩ => wpAny_bind (wpAny_standAt (wpAny_pure (evalPairs_nil ?_))))))
  subst ek
  obtain ⟨z1, y1, vs0, r0, dd0⟩ := dk_of I6.hok e1
  cases r0
  refine ⟨[(kk, uv)], ⟨kV_is ry, rfl, True.intro⟩, dd0, fun h' dd hs => ?_⟩
  have hm1 : merged ([] : List (Key × Value)) [(kk, uv)] = [(kk, uv)] := rfl
  rw [hm1] at dd
  have he : ∃ q, h'.get? s2.heap.objs.size = some q := let ⟨q, _, _, hq, _⟩ := dd; ⟨q, hq⟩
  have rel : KV [(kk, z)] [(kk, uv)] := .cons ⟨rfl, rz⟩ .nil
  have I7 := d_write (t' := s4.toks + 1) I6 (by rw [e1]; exact True.intro) hs he (dk_new (by show 1 ≤ sizeLine; decide) y1 rel dd)
  have pq : s.heap.objs.size ≠ s2.heap.objs.size := fun e => by
    rw [← e] at hn2
    rw [upd_same] at hn2
    cases hn2
  have hlm : (mergeK [] kvs).length ≤ kvs.length := by
    have := length_mergeK kvs []
    rw [List.length_nil, Nat.zero_add] at this
    exact this
  refine d_merge (kvs := mergeK [] kvs) (more := [(kk, z)]) I7 (by rw [upd_ne pq]; exact e2) (.inl upd_same) pq (by simp only [List.length_cons, List.length_nil]; omega) fun s5 I8 => ?_
  exact ⟨.ref s.heap.objs.size, _, I8, rfl, q4⟩
end

/-! ### match over written texts -/
def mtc (x : V) : List (Str × TS) → TS
  | [] => fun D σ H => D.nx σ H
  | (c, t) :: r => fun D σ H => ∃ z, x = .str z ∧ if z = c then t D σ H else mtc x r D σ H
structure PCs (X : Cx) (cs : List MatchCase) (ts : List (Str × TS)) : Prop where
  run : ∀ (pins : List (Addr × Obj)) (s : Shared) (σ : L2.St) (H : Hp) (D : Ends) (x : V) (v : Value) (first : Bool), Inv X pins σ H s → RelV x v → mtc x ts D σ H → wpAny (model X.prog X.w) X.A (matchCases cs X.env v first) (SP X pins D) X.xe s
def tMatch (te : TE) (ts : List (Str × TS)) : TS := fun D σ H => te σ H fun x H1 => mtc x ts D σ H1
section
variable {X : Cx} {pos ppos : Pos} {e : Expr} {te : TE} {t : TS} {cs : List MatchCase} {ts : List (Str × TS)} {body : List Stmt} {c : Str} {j : Nat} {p3 : Pos}
theorem pcs_nil : PCs X [] [] := ⟨fun _ _ σ H _ _ _ _ I _ h => wpAny_matchCases_nil ⟨σ, H, I, h⟩⟩
theorem pcs_cons (hb : PSs X body t) (hr : PCs X cs ts) : PCs X (⟨.MatchValue (.Constant (.str c) j p3) ppos, none, body⟩ :: cs) ((c, t) :: ts) := by
  refine ⟨fun pins s σ H D x v first I rx h => ?_⟩
  obtain ⟨z, rfl, h⟩ := h
  refine wpAny_matchCases_cons (wpAny_matchPattern_Value ?_)
  refine thn ((pe_str (X := X) (x := c) (j := j) (pos := p3)).run pins s σ H (fun y H1 => y = .str c ∧ H1 = H) I ⟨rfl, rfl⟩) fun u s1 ⟨y, H1, I1, ry, ey, eh⟩ => ?_
  subst ey eh
  refine thn (op_eq pins s1 σ H1 (.str z) (.str c) v u (fun r H2 => r = .bl (decide (z = c)) ∧ H2 = H1) I1 rx ry ⟨rfl, ?_, rfl⟩) fun b s2 ⟨r, H2, I2, rr, er, eh2⟩ => ?_
  · by_cases hz : z = c
    · subst hz; simp
    · have : ¬ (V.str z = V.str c) := fun q => hz (by injection q)
      rw [decide_eq_false this, decide_eq_false hz]
  subst er eh2
  cases (show b = Value.bool (decide (z = c)) from rr)
  refine wpAny_truthy_bool ?_
  by_cases hz : z = c
  · rw [if_pos hz] at h
    rw [decide_eq_true hz]
    show wpAny _ _ (assignInOrder [] []) _ _ _
    refine assignInOrder_nil ?_
    exact hb.run pins s2 σ H2 D I2 h
  · rw [if_neg hz] at h
    rw [decide_eq_false hz]
    exact hr.run pins s2 σ H2 D (.str z) v false I2 rx h
theorem ps_match (he : PE X e te) (hc : PCs X cs ts) : PS X (.Match e cs pos) (tMatch te ts) := by
  refine ⟨fun pins s σ H D I h => ?_⟩
  refine wpAny_Match (thn (he.run pins s σ H _ I h) fun v s1 ⟨x, H1, I1, rx, q⟩ => ?_)
  exact hc.run pins s1 σ H1 D x v true I1 rx q
end

/-! ### what stands still from now on -/
def FzAll : List Addr → (Hp → Prop) → Hp → Prop
  | [], R => R
  | d :: ds, R => fun H => ∃ u, H d = some u ∧ Mut (some u) ∧ ∀ od, FzAll ds R (upd H d (.frz od u))
def tFz (te : TE) : TE := fun σ H Q => te σ H fun v H1 => ∃ ds, FzAll ds (Q v) H1
theorem fz_run {X : Cx} {pins : List (Addr × Obj)} {σ : L2.St} {s : Shared} {R : Hp → Prop} : ∀ (ds : List Addr) (H : Hp), Inv X pins σ H s → FzAll ds R H → ∃ H', Inv X pins σ H' s ∧ R H'
  | [], H, I, h => ⟨H, I, h⟩
  | d :: ds, H, I, h => by
    obtain ⟨u, hu, mu, h⟩ := h
    obtain ⟨od, I1⟩ := I.lock hu mu
    exact fz_run ds _ I1 (h od)
theorem pe_fz {X : Cx} {e : Expr} {te : TE} (h : PE X e te) : PE X e (tFz te) := by
  refine ⟨fun pins s σ H Q I q => ?_⟩
  refine thn (h.run pins s σ H _ I q) fun v s1 ⟨x, H1, I1, rx, ds, q1⟩ => ?_
  obtain ⟨H2, I2, q2⟩ := fz_run ds H1 I1 q1
  exact ⟨x, H2, I2, rx, q2⟩
end Rx

/-! Rul3: max of pairs; == and != of nested things that are equal, and beside empty ones; list(d.values()); set(t); a new instance by a local name of its class. -/
namespace Rx
open PySem PySem.Spec PyProof.Rows L2
/-! ### max of a list of pairs -/
def plt (p q : Int × Int) : Prop := p.1 < q.1 ∨ (p.1 = q.1 ∧ p.2 < q.2)
theorem lt_iff (p q : Int × Int) : PySem.W.DatumOrd.lt p q = true ↔ plt p q := by
  show (if p.1 = q.1 then decide (p.2 < q.2) else decide (p.1 < q.1)) = true ↔ _
  unfold plt
  split
  · rw [decide_eq_true_eq]; omega
  · rw [decide_eq_true_eq]; omega
theorem maxOf_is : ∀ (ys : List (Int × Int)) (x : Int × Int), PySem.W.maxOf x ys ∈ x :: ys ∧ ∀ z ∈ x :: ys, ¬ plt (PySem.W.maxOf x ys) z
  | [], x => ⟨List.mem_cons_self, fun z hz => by
    have e : z = x := by simpa using hz
    subst e
    show ¬ plt z z
    unfold plt; omega⟩
  | y :: ys, x => by
    have e : PySem.W.maxOf x (y :: ys) = PySem.W.maxOf (if PySem.W.DatumOrd.lt x y = true then y else x) ys := rfl
    rw [e]
    cases g : PySem.W.DatumOrd.lt x y with
    | true =>
      rw [if_pos rfl]
      obtain ⟨h1, h2⟩ := maxOf_is ys y
      refine ⟨List.mem_cons_of_mem _ h1, fun z hz => ?_⟩
      rcases List.mem_cons.mp hz with rfl | hz
      · have hb := h2 y List.mem_cons_self
        have g' := (lt_iff _ _).mp g
        intro k
        unfold plt at k g' hb
        omega
      · exact h2 z hz
    | false =>
      rw [if_neg Bool.false_ne_true]
      obtain ⟨h1, h2⟩ := maxOf_is ys x
      have g' : ¬ plt x y := fun q => by rw [(lt_iff _ _).mpr q] at g; cases g
      refine ⟨?_, fun z hz => ?_⟩
      · rcases List.mem_cons.mp h1 with q | q
        · rw [q]; exact List.mem_cons_self
        · exact List.mem_cons_of_mem _ (List.mem_cons_of_mem _ q)
      · rcases List.mem_cons.mp hz with rfl | hz
        · exact h2 z List.mem_cons_self
        · rcases List.mem_cons.mp hz with rfl | hz
          · have hb := h2 x List.mem_cons_self
            intro k
            unfold plt at k g' hb
            omega
          · exact h2 z (List.mem_cons_of_mem _ hz)
/-- a pair of ints as a tuple -/
def IsP (K : PySem.W.Frag) (H : Hp) (x : V) (p : Int × Int) : Prop := ∃ t, x = .ref t ∧ SqT K H t [.int p.1, .int p.2]
def rMaxP (K : PySem.W.Frag) : List V → Hp → VK → Prop := fun vs H Q => ∃ (a : Addr) (xs : List V) (ps : List (Int × Int)), vs = [V.ref a] ∧ SqL K H a xs ∧ Paired (IsP K H) xs ps ∧ ps ≠ [] ∧
  ∀ t p, p ∈ ps → (∀ z ∈ ps, ¬ plt p z) → SqT K H t [.int p.1, .int p.2] → Q (.ref t) H
section
variable {X : Cx} {pins : List (Addr × Obj)} {σ : L2.St} {H : Hp} {s : Shared}
theorem holds_pairs (I : Inv X pins σ H s) : ∀ {xs : List V} {ps : List (Int × Int)} {us : List Value}, Paired (IsP X.K H) xs ps → Vals xs us → PySem.W.HoldAll s.heap us ps
  | _, _, _, .nil, r => by cases r; exact ⟨_, .nil⟩
  | _, _, _, .cons (a := x) (b := p) h t, r => by
    cases r with
    | cons r rr =>
      obtain ⟨c, rfl, hq⟩ := h
      cases r
      obtain ⟨its, rv, ht, _⟩ := I.tuple hq
      cases rv with
      | cons r1 rv =>
        cases rv with
        | cons r2 rv =>
          cases rv
          obtain ⟨t1, rfl⟩ := r1
          obtain ⟨t2, rfl⟩ := r2
          obtain ⟨as, ra⟩ := PySem.W.holds_pair (x := p.1) (y := p.2) ht (PySem.W.holds_int _ _) (PySem.W.holds_int _ _)
          obtain ⟨bs, rb⟩ := holds_pairs I t rr
          exact ⟨_, .cons ra rb⟩
theorem paired_at {α β : Type} {F : α → β → Prop} : ∀ {l₁ : List α} {l₂ : List β}, Paired F l₁ l₂ → ∀ {i : Nat} {a : α}, l₁[i]? = some a → ∃ b, l₂[i]? = some b ∧ F a b
  | _, _, .nil, i, a, e => by simp at e
  | _, _, .cons r t, 0, a, e => by simp at e; subst e; exact ⟨_, rfl, r⟩
  | _, _, .cons r t, i + 1, a, e => by
    obtain ⟨b, h1, h2⟩ := paired_at t (i := i) (a := a) (by simpa using e)
    exact ⟨b, by simpa using h1, h2⟩
end
section
variable {X : Cx}
theorem cr_maxP (hc : X.calm = true) (hu : X.A.units + 64 < cLine) : CallR X (.builtin "max") (rMaxP X.K) := by
  intro pins s σ H vs us Q I r h
  obtain ⟨a, xs, ps, rfl, hs, hp, hne, q⟩ := h
  obtain ⟨its, rv, hl, _⟩ := I.list hs
  rw [Vals.ref1 r]
  cases ps with
  | nil => exact absurd rfl hne
  | cons p0 ps =>
    have HA := holds_pairs I hp rv
    refine PySem.W.max_list_datum (x := p0) (xs := ps) (I.ok.hd hc) hl.isList HA ?_ fun i v h' tk hi hv hk => ?_
    · show X.A.units + 1 + 1 < cLine; omega
    · have I2 : Inv X pins σ H { s with heap := h', toks := tk } := I.kept (t' := tk) hk
      -- the item that is given out
      have hi' : its[i]? = some v := by simpa using hi
      have hlt : i < xs.length := by
        rw [rv.length]
        exact (List.getElem?_eq_some_iff.mp hi').1
      obtain ⟨x, hx⟩ : ∃ x, xs[i]? = some x := ⟨_, List.getElem?_eq_getElem hlt⟩
      obtain ⟨v', hv', rx⟩ := rv.get hx
      rw [hi'] at hv'; cases hv'
      obtain ⟨p, hpi, c, ex, hq⟩ := paired_at hp hx
      subst ex
      cases (show v = Value.ref c from rx)
      have ep : p = PySem.W.maxOf p0 ps := by
        obtain ⟨its2, rv2, ht, _⟩ := I2.tuple hq
        cases rv2 with
        | cons r1 rv2 =>
          cases rv2 with
          | cons r2 rv2 =>
            cases rv2
            obtain ⟨t1, rfl⟩ := r1
            obtain ⟨t2, rfl⟩ := r2
            generalize PySem.W.maxOf p0 ps = m at hv ⊢
            obtain ⟨m1, m2⟩ := m
            obtain ⟨as, ra⟩ := hv
            obtain ⟨o, ho, hcl, n, hd⟩ := ht
            have ho : h'.get? c = some o := ho
            have e0 : PySem.W.Datum.toD ((m1, m2) : Int × Int) = .tuple [.int m1, .int m2] := rfl
            rw [e0] at ra
            cases ra with
            | tuple h1 h2 h3 h4 =>
              rw [ho] at h1; cases h1
              rw [hd] at h3
              injection h3 with h3 _
              subst h3
              cases h4 with
              | cons g1 g2 =>
                cases g1
                cases g2 with
                | cons g3 g4 =>
                  cases g3
                  rfl
      obtain ⟨m1, m2⟩ := maxOf_is ps p0
      exact ⟨.ref c, H, I2, rfl, q c p (ep ▸ m1) (fun z hz => by rw [ep]; exact m2 z hz) hq⟩
end

/-! ### == of nested lists, tuples and dicts that are equal -/
def EqR3 (K : PySem.W.Frag) (H : Hp) (F : V → V → Prop) (x y : V) : Prop :=
  (∃ a b xs ys, x = .ref a ∧ y = .ref b ∧ SqL K H a xs ∧ SqL K H b ys ∧ Paired F xs ys) ∨
  (∃ a b xs ys, x = .ref a ∧ y = .ref b ∧ SqT K H a xs ∧ SqT K H b ys ∧ Paired F xs ys) ∨
    ∃ a b ks ls, x = .ref a ∧ y = .ref b ∧ Rd H a (.dK ks) ∧ Rd H b (.dK ls) ∧ ks.length = ls.length ∧ ∀ p ∈ ks, ∃ u, valV ls p.1 = some u ∧ F p.2 u
def EqV3 (K : PySem.W.Frag) (H : Hp) : Nat → V → V → Prop
  | 0 => fun _ _ => False
  | n + 1 => fun x y => (x = y ∧ flatB x = true) ∨ (∃ a, x = .ref a ∧ y = .ref a) ∨ EqR3 K H (EqV3 K H n) x y
section
variable {X : Cx} {pins : List (Addr × Obj)} {σ : L2.St} {H : Hp} {s : Shared}
theorem all_true (n : Nat) : ((List.range n).all fun _ => true) = true := List.all_eq_true.mpr fun _ _ => rfl
theorem eqR3_run (I : Inv X pins σ H s) {A : Around} {F : V → V → Prop} (hu : A.units < cLine) (ih : ∀ x y v u, F x y → RelV x v → RelV y u → SeqAt.EqP X.prog X.w A.in1 s v u true) {x y : V} {v u : Value} (h : EqR3 X.K H F x y) (rx : RelV x v) (ry : RelV y u)
    (E Q : Value → Shared → Prop) (q : Q (.bool true) s) : wpAny (model X.prog X.w) A (richCompare .Eq v u) Q E s := by
  rcases h with ⟨a, b, xs, ys, rfl, rfl, ha, hb, hp⟩ | ⟨a, b, xs, ys, rfl, rfl, ha, hb, hp⟩ | ⟨a, b, ks, ls, rfl, rfl, ha, hb, hl, hp⟩
  · cases (show v = Value.ref a from rx)
    cases (show u = Value.ref b from ry)
    obtain ⟨us, r1, p1, _⟩ := I.list ha
    obtain ⟨ws, r2, p2, _⟩ := I.list hb
    have hsz : us.toArray.size = ws.toArray.size := by
      rw [List.size_toArray, List.size_toArray, ← r1.length, ← r2.length]
      exact Paired.length hp
    refine SeqAt.rcP_lists (e := fun _ => true) p1.isList p2.isList hsz hu (fun j h1 h2 => ?_) E Q ?_
    · have k := items_run ih hp r1 r2 j (by simpa using h1) (by simpa using h2)
      simpa using k
    · rw [all_true]
      exact q
  · cases (show v = Value.ref a from rx)
    cases (show u = Value.ref b from ry)
    obtain ⟨us, r1, p1, _⟩ := I.tuple ha
    obtain ⟨ws, r2, p2, _⟩ := I.tuple hb
    have hsz : us.toArray.size = ws.toArray.size := by
      rw [List.size_toArray, List.size_toArray, ← r1.length, ← r2.length]
      exact Paired.length hp
    refine SeqAt.rcIn_tuples (e := fun _ => true) p1 p2 hu (fun j h1 h2 => ?_) ?_
    · have k := items_run ih hp r1 r2 j (by simpa using h1) (by simpa using h2)
      have k' : SeqAt.EqP X.prog X.w A.in1 s us.toArray[j] ws.toArray[j] true := by simpa using k
      exact k'
    · rw [all_true, hsz]
      simpa using q
  · cases (show v = Value.ref a from rx)
    cases (show u = Value.ref b from ry)
    obtain ⟨_, ya, va, ra, da⟩ := dk_rd I.hok ha
    obtain ⟨_, yb, vb, rb, db⟩ := dk_rd I.hok hb
    refine PySem.W.rcP_dicts (knd := mixKind X.prog X.w) (r := true) ya yb da db hu (fun _ => hits_run ih rb ra hp) E Q ?_
    have e : va.length = vb.length := by rw [← ra.length, ← rb.length]; exact hl
    rw [show (va.length == vb.length && true) = true from by rw [e]; simp]
    exact q
theorem eqV3_run (I : Inv X pins σ H s) : ∀ (n : Nat) (A : Around), A.units + n < cLine → ∀ (x y : V) (v u : Value), EqV3 X.K H n x y → RelV x v → RelV y u → SeqAt.EqP X.prog X.w A s v u true
  | 0, _, _, _, _, _, _, h, _, _ => (show False from h).elim
  | n + 1, A, hu, x, y, v, u, h, rx, ry => by
    rcases h with ⟨rfl, f⟩ | ⟨a, rfl, rfl⟩ | h
    · exact (eqAt_same rx ry f).eqP
    · cases (show v = Value.ref a from rx)
      cases (show u = Value.ref a from ry)
      exact (SeqAt.EqAt.same _).eqP
    · have step := eqR3_run I (A := A) (by omega) (eqV3_run I n A.in1 (by show A.units + 1 + n < cLine; omega)) h rx ry
      obtain ⟨a, b, rfl, rfl⟩ : ∃ a b, x = .ref a ∧ y = .ref b := by
        rcases h with ⟨a, b, _, _, e1, e2, _⟩ | ⟨a, b, _, _, e1, e2, _⟩ | ⟨a, b, _, _, e1, e2, _⟩ <;> exact ⟨a, b, e1, e2⟩
      cases (show v = Value.ref a from rx)
      cases (show u = Value.ref b from ry)
      by_cases e : a = b
      · subst e
        exact (SeqAt.EqAt.same _).eqP
      · exact SeqAt.eqP_refs e step
end
section
open PySem.SeqAt
open AutoSeq1 (wpAny_loadPart')
open MeetsSeq MeetsSeq2 MeetsSeq3 SeqRoads2
variable {prog : Program} {w : World}
/-- t != u, tuples of one length and equal items -/
theorem tup_neIn (l b : Addr) (items items2 : Array Value) (n n2 : Nat) (dd dd2 : Option Addr) (sl sl2 : Array (Option Value)) (hsz : items.size = items2.size) :
    MeetsIn prog w (Builtin.«tuple.__ne__» ⟨[.ref l, .ref b], []⟩)
      (fun A R s => s.heap.get? l = some { cls := .type "tuple", dict := dd, data := .seq items n, slots := sl } ∧ s.heap.get? b = some { cls := .type "tuple", dict := dd2, data := .seq items2 n2, slots := sl2 } ∧
        (∀ j (h1 : j < items.size) (h2 : j < items2.size), EqP prog w A.in1 s items[j] items2[j] true) ∧
        R (.ok (.ret (.bool false))) s) :=
  .of_wp fun A R s h => by
    obtain ⟨hp, g, d, tk, os⟩ := s; obtain ⟨hl, hb, he, h⟩ := h
    have f2 := AutoSeq1.sub_tuple_tuple
    have hZ : (items.toList.zip items2.toList).length = min items.size items2.size := by simp
    wp_walk using wpAny_loadPart' hl, wpAny_loadPart' hb, wpAny_forIn_list _ (fun rest b s' => b.1 = none ∧ s' = ⟨hp, g, d, tk, os⟩ ∧ ∃ i, rest = (items.toList.zip items2.toList).drop i) _
    case turn =>
      rintro ⟨y, x⟩ rest b s' ⟨hb', rfl, i, hz⟩
      have hlt : i < (items.toList.zip items2.toList).length := by
        rcases Nat.lt_or_ge i (items.toList.zip items2.toList).length with h' | h'
        · exact h'
        · rw [List.drop_of_length_le h'] at hz; cases hz
      have hm : i < min items.size items2.size := hZ ▸ hlt
      have h1 : i < items.size := Nat.lt_of_lt_of_le hm (Nat.min_le_left _ _)
      have h2 : i < items2.size := Nat.lt_of_lt_of_le hm (Nat.min_le_right _ _)
      rw [List.drop_eq_getElem_cons hlt] at hz
      injection hz with hyx hrest
      have hy : y = items[i] := by have := congrArg Prod.fst hyx; simpa using this
      have hx : x = items2[i] := by have := congrArg Prod.snd hyx; simpa using this
      subst hy hx
      refine wpAny_bind (he i h1 h2 _ _ ?_)
      wp_walk
      exact ⟨rfl, rfl, i + 1, hrest⟩
    case fin =>
      rintro ⟨b1, b2⟩ s' ⟨hb', rfl, i, hz⟩
      simp only at hb'
      subst hb'
      wp_walk
      exact ⟨_, rfl, by simpa [Builtin.Tuple.tupleCompareSizes, hsz] using h⟩
    case h =>
      exact ⟨rfl, rfl, 0, rfl⟩
theorem rcNe_tuples {A : Around} {s : Shared} {E : Value → Shared → Prop} {l b : Addr} {items items2 : Array Value} {Q : Value → Shared → Prop} (hl : s.heap.IsTuple l items) (hb : s.heap.IsTuple b items2) (hsz : items.size = items2.size) (hu : A.units < cLine)
    (he : ∀ j (h1 : j < items.size) (h2 : j < items2.size), EqP prog w A.in1 s items[j] items2[j] true) (h : Q (.bool false) s) :
    wpAny (model prog w) A (richCompare .NotEq (.ref l) (.ref b)) Q E s := by
  obtain ⟨⟨cls, dd, data, sl⟩, ho, hc, n, hd⟩ := id hl
  obtain ⟨⟨cls2, dd2, data2, sl2⟩, ho2, hc2, n2, hd2⟩ := id hb
  simp only at hc hd hc2 hd2
  subst hc hd hc2 hd2
  exact wpAny_richCompare_same_room (T := "tuple") (op := .NotEq) ⟨_, ho, rfl⟩ ⟨_, ho2, rfl⟩ F.slot_tuple_ne (call_meetsIn F.slot_tuple_ne ⟨_, ho, rfl⟩ F.entry_tuple_ne (F.args_tuple_ne_2 _ _) (tup_neIn l b items items2 n n2 dd dd2 sl sl2 hsz)
    ⟨ho, ho2, he, show Value.bool false ≠ Value.notImplemented ∧ Q (.bool false) s from ⟨(fun x => nomatch x), h⟩⟩) hu
end
section
variable {X : Cx}
/-- x == y, equal -/
def rEq3 (K : PySem.W.Frag) : R2 := fun x y H Q => EqR3 K H (EqV3 K H 12) x y ∧ Q (.bl true) H
theorem op_eq3 (hu : X.A.units + 64 < cLine) : OpR X (compareOp .Eq) (rEq3 X.K) := by
  intro pins s σ H x y v u Q I rx ry h
  obtain ⟨h, q⟩ := h
  exact eqR3_run I (A := X.A) (by omega) (eqV3_run I 12 X.A.in1 (by show X.A.units + 1 + 12 < cLine; omega)) h rx ry _ _ ⟨.bl true, H, I, rfl, q⟩
/-- t != u, equal tuples -/
def rNe3 (K : PySem.W.Frag) : R2 := fun x y H Q => ∃ a b xs ys, x = .ref a ∧ y = .ref b ∧ SqT K H a xs ∧ SqT K H b ys ∧ Paired (EqV3 K H 12) xs ys ∧ Q (.bl false) H
theorem op_ne3 (hu : X.A.units + 64 < cLine) : OpR X (compareOp .NotEq) (rNe3 X.K) := by
  intro pins s σ H x y v u Q I rx ry h
  obtain ⟨a, b, xs, ys, rfl, rfl, ha, hb, hp, q⟩ := h
  cases (show v = Value.ref a from rx)
  cases (show u = Value.ref b from ry)
  obtain ⟨us, r1, p1, _⟩ := I.tuple ha
  obtain ⟨ws, r2, p2, _⟩ := I.tuple hb
  have hsz : us.toArray.size = ws.toArray.size := by
    rw [List.size_toArray, List.size_toArray, ← r1.length, ← r2.length]
    exact Paired.length hp
  refine rcNe_tuples p1 p2 hsz (by omega) (fun j h1 h2 => ?_) ⟨.bl false, H, I, rfl, q⟩
  have k := items_run (eqV3_run I 12 X.A.in1 (by show X.A.units + 1 + 12 < cLine; omega)) hp r1 r2 j (by simpa using h1) (by simpa using h2)
  have k' : SeqAt.EqP X.prog X.w X.A.in1 s us.toArray[j] ws.toArray[j] true := by simpa using k
  exact k'
/-- x == [], x == () -/
def rEqE (K : PySem.W.Frag) (g : Bool → Bool) : R2 := fun x y H Q => ∃ a b xs, x = .ref a ∧ y = .ref b ∧ ((SqL K H a xs ∧ SqL K H b []) ∨ (SqT K H a xs ∧ SqT K H b [])) ∧ Q (.bl (g xs.isEmpty)) H
theorem nil_arr {us : List Value} (r : Vals ([] : List V) us) : us = [] := by cases r; rfl
theorem op_eqE (hu : X.A.units + 64 < cLine) : OpR X (compareOp .Eq) (rEqE X.K id) := by
  intro pins s σ H x y v u Q I rx ry h
  obtain ⟨a, b, xs, rfl, rfl, h, q⟩ := h
  cases (show v = Value.ref a from rx)
  cases (show u = Value.ref b from ry)
  rcases h with ⟨ha, hb⟩ | ⟨ha, hb⟩
  · obtain ⟨us, r1, p1, _⟩ := I.list ha
    obtain ⟨ws, r2, p2, _⟩ := I.list hb
    have e2 := nil_arr r2
    subst e2
    cases xs with
    | nil =>
      have e1 := nil_arr r1
      subst e1
      exact SeqAt.rcP_lists (e := fun _ => true) p1.isList p2.isList rfl (by omega) (fun j h1 h2 => absurd h1 (Nat.not_lt_zero _)) _ _ ⟨.bl true, H, I, rfl, q⟩
    | cons x r =>
      cases r1
      exact SeqAt.RcAt.lists_lengths p1.isList p2.isList (by simp) (by omega) _ _ _ _ ⟨.bl false, H, I, rfl, q⟩
  · obtain ⟨us, r1, p1, _⟩ := I.tuple ha
    obtain ⟨ws, r2, p2, _⟩ := I.tuple hb
    have e2 := nil_arr r2
    subst e2
    refine SeqAt.rcIn_tuples (e := fun _ => true) p1 p2 (by omega) (fun j h1 h2 => absurd h2 (Nat.not_lt_zero _)) ?_
    cases xs with
    | nil =>
      have e1 := nil_arr r1
      subst e1
      exact ⟨.bl true, H, I, rfl, q⟩
    | cons x r =>
      cases r1
      exact ⟨.bl false, H, I, rfl, q⟩
theorem op_neE (hu : X.A.units + 64 < cLine) : OpR X (compareOp .NotEq) (rEqE X.K not) := by
  intro pins s σ H x y v u Q I rx ry h
  obtain ⟨a, b, xs, rfl, rfl, h, q⟩ := h
  cases (show v = Value.ref a from rx)
  cases (show u = Value.ref b from ry)
  rcases h with ⟨ha, hb⟩ | ⟨ha, hb⟩
  · obtain ⟨us, r1, p1, _⟩ := I.list ha
    obtain ⟨ws, r2, p2, _⟩ := I.list hb
    have e2 := nil_arr r2
    subst e2
    cases xs with
    | nil =>
      have e1 := nil_arr r1
      subst e1
      exact SeqAt.RcNeAt.lists (e := fun _ => true) p1.isList p2.isList rfl (by omega) (fun j h1 h2 => absurd h1 (Nat.not_lt_zero _)) _ _ _ _ ⟨.bl false, H, I, rfl, q⟩
    | cons x r =>
      cases r1
      exact SeqAt.RcNeAt.lists_lengths p1.isList p2.isList (by simp) (by omega) _ _ _ _ ⟨.bl true, H, I, rfl, q⟩
  · obtain ⟨us, r1, p1, _⟩ := I.tuple ha
    obtain ⟨ws, r2, p2, _⟩ := I.tuple hb
    have e2 := nil_arr r2
    subst e2
    refine SeqAt.RcNeAt.tuples (e := fun _ => true) p1 p2 (by omega) (fun j h1 h2 => absurd h2 (Nat.not_lt_zero _)) _ _ _ _ ?_
    cases xs with
    | nil =>
      have e1 := nil_arr r1
      subst e1
      exact ⟨.bl false, H, I, rfl, q⟩
    | cons x r =>
      cases r1
      exact ⟨.bl true, H, I, rfl, q⟩

/-! ### set(t), t a tuple of ints -/
def rSetTup (K : PySem.W.Frag) (w : World) : List V → Hp → VK → Prop := fun vs H Q => ∃ (p : Addr) (ns : List Int), vs = [.ref p] ∧ SqT K H p (ns.map V.int) ∧ ns.length ≤ 50 ∧ ∀ q c, H q = none → c ≤ 50 → Q (.ref q) (upd H q (SetO w q (fun j => decide (j ∈ ns)) c))
theorem cr_setTup (hc : X.calm = true) : CallR X (.type "set") (rSetTup X.K X.w) := by
  intro pins s σ H vs us Q I r h
  obtain ⟨p, ns, rfl, hq, hl, q⟩ := h
  rw [Vals.ref1 r]
  obtain ⟨its, rv, pt, hz⟩ := I.tuple hq
  refine call_set_tupI ns (I.ok.hd hc) pt (ints_of_vals rv) (by unfold scanBound; omega) fun h' tk c R1 hcn k => ?_
  have hn := I.hok.fresh (Nat.le_refl s.heap.objs.size)
  exact ⟨.ref _, upd H s.heap.objs.size (SetO X.w s.heap.objs.size (fun j => decide (j ∈ ns)) c), I.laid (t' := tk) k (Nat.le_refl _) (setO_new R1), rfl, q _ _ hn (by omega)⟩

/-! ### list(d.values()) -/
def tVals (te : TE) : TE := fun σ H Q => te σ H fun x H1 => ∃ d kvs, x = .ref d ∧ Rd H1 d (.dK kvs) ∧ ∀ l, H1 l = none → Q (.ref l) (upd H1 l (.lst (kvs.map (·.2))))
theorem pe_listVals {e : Expr} {te : TE} {p apos cpos pos : Pos} (hc : X.calm = true) (he : PE X e te) (hg : Gl X "list") (hm : X.mg "list" = none) (hbase : attributeBase e "values" X.env (eval e X.env) = eval e X.env := by rfl) (hline : (apos.endLine == cpos.line) = true := by rfl)
    (hs : starEach [.Call (.Attribute e "values" apos) [] [] cpos] X.env = (false, eval (.Call (.Attribute e "values" apos) [] [] cpos) X.env) :: starEach [] X.env := by rfl) :
    PE X (.Call (.Name "list" p) [.Call (.Attribute e "values" apos) [] [] cpos] [] pos) (tVals te) := by
  refine ⟨fun pins s σ H Q I hq => ?_⟩
  refine wpAny_Call_Name_kw (ld_blt I hg hm (u := .type "list") (by first | rfl | decide +kernel) ?_)
  refine PyProof.Rows.callWith_type1 ?_ hs rfl
  rw [hs]
  show wpAny _ _ (spliced ((false, eval (.Call (.Attribute e "values" apos) [] [] cpos) X.env) :: backTo pos (starEach [] X.env))) _ _ s
  refine Calls.spliced_cons ?_
  refine wpAny_Call_method (T := "dict") (id := "dict.values") hbase rfl hline F.plainAttrs_dict F.slot_dict_values F.type_dict_values (thn (he.run pins s σ H _ I hq) fun u s1 ⟨x, H1, I1, rx, d, kvs, ex, hd, q⟩ => ?_)
  subst ex
  obtain rfl : u = Value.ref d := rx
  obtain ⟨hz, hs0, vs, kv, hdo⟩ := dk_rd I1.hok hd
  obtain ⟨ep, hat⟩ := hdo.dictAt
  have lk : kvs.length = vs.length := Paired.length kv
  refine ⟨hdo.typeIs, hdo.mapOf.noDict, ?_⟩
  show wpAny _ _ (callWith cpos (.builtin "dict.values") [.ref d] [] []) _ X.xe s1
  refine method_meetsIn F.slot_dict_values F.entry_dict_values rfl (PySem.evalArgs_none ⟨rfl, hdo.typeIs, F.args_dict_values_1 _, _, meets_dict_values (mixKind X.prog X.w) d hs0, ⟨vs, hdo⟩, ?_⟩)
  refine Calls.spliced_nil ?_
  refine PySem.W.kdl_call (PySem.W.kdl_values (prog := X.prog) (w := X.w) (knd := mixKind X.prog X.w) (d := d) (kvs := vs) (ep := ep)) (I1.ok.hd hc) ⟨⟨_, Heap.get?_push_size _ rfl, rfl, rfl⟩, hat.push _⟩ (by omega) fun h' tk acc c hk hS hacc => ?_
  obtain ⟨hsz, hat2⟩ := hacc
  have rel : Vals (kvs.map (·.2)) acc.toList := by
    have hl2 : (kvs.map (·.2)).length = acc.toList.length := by
      have z : acc.toList.length = acc.size := by simp
      rw [List.length_map, z, hsz, lk]
    have key : ∀ (xs : List V) (us : List Value), xs.length = us.length → (∀ (i : Nat) (x : V) (u : Value), xs[i]? = some x → us[i]? = some u → RelV x u) → Vals xs us := by
      intro xs
      induction xs with
      | nil => intro us hl _; cases us with
        | nil => exact .nil
        | cons _ _ => simp at hl
      | cons x xs ih => intro us hl h; cases us with
        | nil => simp at hl
        | cons u us => exact .cons (h 0 x u rfl rfl) (ih us (by simpa using hl) fun i x' u' e1 e2 => h (i + 1) x' u' (by simpa using e1) (by simpa using e2))
    refine key _ _ hl2 fun i x u e1 e2 => ?_
    rw [List.getElem?_map] at e1
    cases ek : kvs[i]? with
    | none => rw [ek] at e1; cases e1
    | some kv0 =>
      rw [ek] at e1
      cases e1
      obtain ⟨k0, v0⟩ := kv0
      obtain ⟨u', hu', ru⟩ := kv_get kv ek
      obtain ⟨k1, hk1⟩ := hat2 i u (by rw [← Array.getElem?_toList]; exact e2)
      rw [hu'] at hk1
      cases hk1
      exact ru
  have hsz0 : s1.heap.objs.size ≤ (s1.heap.push { cls := .type "dict_values", data := .fields #[.ref d] }).objs.size := by rw [Heap.size_push]; exact Nat.le_succ _
  have hn := I1.hok.fresh hsz0
  have I2 := I1.laid (a := (s1.heap.push { cls := .type "dict_values", data := .fields #[.ref d] }).objs.size) (o := .lst (kvs.map (·.2))) (t' := tk) (h' := h') (fun b u q => hk b u (Heap.get?_push_of_some _ q)) hsz0
    ⟨by rw [List.length_map]; exact hz, acc.toList, c, rel, by simpa using hS⟩
  exact ⟨.ref _, _, I2, rfl, q _ hn⟩

/-! ### a new instance by a local name that holds its class -/
def tMakeL (i : Nat) (C : Addr) (sp : Sp) (dvs : List V) (E : XK) (t : TA) : TE := fun σ H Q => σ[i]? = some (some (.ref C)) ∧ t σ H fun vs H1 => ∀ x dx, H1 x = none → H1 dx = none → dx ≠ x → sp (.ref x :: (vs ++ dvs)) (upd (upd H1 dx (.own x)) x (.ins C dx [])) (fun v H2 => v = .non ∧ Q (.ref x) H2) E
theorem pe_makeL {CX : CXT} {k i : Nat} {f C : Addr} {fd : FuncData} {ps : List Str} {sp : Sp} {dvs : List V} {ds : List Value} {E : XK} {x : Str} {p pos : Pos} {e : Expr} {es : List Expr} {t : TA}
    (M : Mk X.K C f) (F : FnOk X.prog X.w X.K X.mg X.base CX k f fd ps sp) (hr : Room (k + 1) X.A) (hN : X.N[i]? = some x) (hv : Vis X.env.scope x) (hb : Binds X.K fd ps ds) (hd : Vals dvs ds) (hx : Passes CX X E)
    (ha : PA X (e :: es) t) (hdb : (x == ("__debug__" : Str)) = false := by decide) (hcd : (x == ("__classdict__" : Str)) = false := by decide) (he : starEach (e :: es) X.env = (false, eval e X.env) :: starEach es X.env := by rfl) (hpl : (backTo pos (starEach es X.env)).any (·.1) = false := by rfl) :
    PE X (.Call (.Name x p) (e :: es) [] pos) (tMakeL i C sp dvs E t) := by
  refine ⟨fun pins s σ H Q I h => ?_⟩
  obtain ⟨hs, ht⟩ := h
  refine wpAny_Call_Name_kw (thn ((pe_var (pos := p) hN hv hdb hcd).run pins s σ H (fun v H1 => v = .ref C ∧ H1 = H) I ⟨.ref C, hs, rfl, rfl⟩) fun u s1 ⟨v, H1, I1, r1, q1⟩ => ?_)
  obtain ⟨rfl, rfl⟩ := q1
  cases r1
  refine PySem.W.callWith_K (h₀ := X.base) I.ok.mod.kin M.kp (thn (ha.run pos pins s1 σ _ _ I1 ht) fun us s2 ⟨vs, H2, I2, r, q⟩ => ⟨I2.kIn, ?_⟩) he hpl
  exact run_make M F hr hb hd hx I2 r q
end
end Rx

/-! Env: the text by places, what the top leaves, the data as it lies in the heap, the steps of a reading. -/
namespace Hm
open PySem PySem.Spec PyProof.Rows L2 Rx RZ
def top (i : Nat) : Stmt := PySem.Challenge.pw_halvesmeet_k98_whole_walks_of_the_plain.main.body.getD i (.Pass ⟨0, 0, 0, 0⟩)

/-! ### what the top leaves -/
structure Adr where
  (dw lw asz nv ck cp : Addr)
structure Txt (K : PySem.W.Frag) (mg : Str → Option Value) (a : Adr) : Prop where
  z_len : mg "len" = none
  z_sorted : mg "sorted" = none
  z_max : mg "max" = none
  z_min : mg "min" = none
  z_isinstance : mg "isinstance" = none
  z_all : mg "all" = none
  z_int : mg "int" = none
  z_bool : mg "bool" = none
  z_str : mg "str" = none
  z_list : mg "list" = none
  z_tuple : mg "tuple" = none
  z_dict : mg "dict" = none
  z_set : mg "set" = none
  z_range : mg "range" = none
  z_zip : mg "zip" = none
  z_abs : mg "abs" = none
  c_MAX_HOUSES : ∃ u, mg "MAX_HOUSES" = some u ∧ RelV (.int 9) u
  c_MAX_CIRCLE : ∃ u, mg "MAX_CIRCLE" = some u ∧ RelV (.int 7) u
  c_MAX_CLIENTS : ∃ u, mg "MAX_CLIENTS" = some u ∧ RelV (.int 5) u
  c_MAX_KEY : ∃ u, mg "MAX_KEY" = some u ∧ RelV (.int 8) u
  c_LEAST : ∃ u, mg "LEAST" = some u ∧ RelV (.int (10 ^ 12)) u
  c_GREATEST : ∃ u, mg "GREATEST" = some u ∧ RelV (.int (10 ^ 60)) u
  c_SMALL_LETTERS : ∃ u, mg "SMALL_LETTERS" = some u ∧ RelV (.str "abcdefghijklmnopqrstuvwxyz") u
  c_MAX_NUMBER : ∃ u, mg "MAX_NUMBER" = some u ∧ RelV (.int (10 ^ 60 - 1)) u
  c_ENTRY_SIZE : ∃ u, mg "ENTRY_SIZE" = some u ∧ RelV (.int 3) u
  c_PROMISE : ∃ u, mg "PROMISE" = some u ∧ RelV (.str "promise") u
  c_DEED_WORDS : ∃ u, mg "DEED_WORDS" = some u ∧ RelV (.ref a.dw) u
  t_DEED_WORDS : ∀ H, SqT K H a.dw [.str "put", .str "drop", .str "get", .str "add", .str "swap", .str "list", .str "all", .str "circle"]
  c_LOT_WORDS : ∃ u, mg "LOT_WORDS" = some u ∧ RelV (.ref a.lw) u
  t_LOT_WORDS : ∀ H, SqT K H a.lw [.str "put", .str "drop", .str "get", .str "add", .str "swap"]
  c_NO_VOTE : ∃ u, mg "NO_VOTE" = some u ∧ RelV (.ref a.nv) u
  t_NO_VOTE : ∀ H, SqT K H a.nv [.int (-1), .int 0]
/-- a def of the module by its name, no defaults -/
def DefX (K : PySem.W.Frag) (mg : Str → Option Value) (x y : Str) (st : Stmt) (ps : List Str) : Prop := ∃ f fd, C8.Fun K y y st f fd ∧ mg x = some (.ref f) ∧ PySem.W.keepIn K (.ref f) = true ∧ Binds K fd ps []
section
variable {P : Program} {w : World} {K : PySem.W.Frag} {mg : Str → Option Value} {base : Heap}
/-- THE RULE for a def -/
theorem calX {x y : Str} {st : Stmt} {N ps : List Str} {k : Nat} {sp : Sp} (D : DefX K mg x y st ps) (S : FnScope N ps (C8.fnScope st)) (len : ∀ vs H Q E, sp vs H Q E → vs.length = ps.length)
    (hbody : ∀ (f : Addr) (cdv : Value) (A : Around) (outer : List Env) (s : Shared) (H : Hp) (vs : List V) (Q : VK) (E : XK), Room k (A.deeper (envOfC y (C8.fnScope st) s.heap.objs.size f cdv)) → sp vs H Q E →
      ∃ t, PSs (cxOf CX0 P w K mg base N y (C8.fnScope st) f cdv A outer s H E).nox (C8.fnBody st) t ∧ t { nx := fun _ H' => Q .non H', rt := Q } (start N vs) H) : C8.Cal P w K mg base (k + 1) x sp [] := by
  obtain ⟨f, fd, F, m, kp, b⟩ := D
  exact ⟨f, fd, ps, [], C8.fn0 F S len (hbody f), m, kp, b, .nil⟩
end

/-! ### heaps that grow -/
theorem sm_new {H : Hp} {p : Addr} {o : HO} (h : H p = none) : Same H (upd H p o) := fun a u e => by
  rw [upd_ne (ne_of_none e h)]; exact e
/-- an object that B does not know may change -/
theorem sm_mut {B H : Hp} {p : Addr} {o : HO} (e : Same B H) (h : B p = none) : Same B (upd H p o) := fun a u ha => by
  rw [upd_ne (ne_of_none ha h)]; exact e a u ha
theorem sm_put {B H : Hp} {p : Addr} {o : HO} (e : Same B H) (h : H p = some o) : Same (upd B p o) H := fun a u ha => by
  by_cases q : a = p
  · subst q; rw [upd_same] at ha; rw [h]; exact ha
  · rw [upd_ne q] at ha; exact e a u ha
theorem sm_rd {H H' : Hp} {a : Addr} {u : HO} (e : Same H H') (h : Rd H a u) : Rd H' a u := by
  rcases h with h | ⟨o, h⟩
  · exact .inl (e a _ h)
  · exact .inr ⟨o, e a _ h⟩
theorem sm_T {K : PySem.W.Frag} {H H' : Hp} {a : Addr} {xs : List V} (e : Same H H') (h : SqT K H a xs) : SqT K H' a xs := by
  rcases h with h | h
  · exact .inl (sm_rd e h)
  · exact .inr h
theorem sm_L {K : PySem.W.Frag} {H H' : Hp} {a : Addr} {xs : List V} (e : Same H H') (h : SqL K H a xs) : SqL K H' a xs := by
  rcases h with h | h
  · exact .inl (sm_rd e h)
  · exact .inr h

/-! ### the data -/
def CirAt (K : PySem.W.Frag) (H : Hp) (v : V) (C : List Int) : Prop := ∃ a, v = .ref a ∧ SqT K H a (C.map V.int)
def DeedAt (K : PySem.W.Frag) (H : Hp) (v : V) (k : Nat) : Prop :=
  ∃ a, v = .ref a ∧ ((k = 0 ∧ SqT K H a [.str "put", .str "a", .int 1]) ∨ (k = 1 ∧ SqT K H a [.str "drop", .str "a"]) ∨ (k = 2 ∧ ∃ c, SqT K H a [.str "circle", .ref c] ∧ SqT K H c [.int 0, .int 1]))
def EntAt (K : PySem.W.Frag) (H : Hp) (v : V) (e : Pm.En) : Prop := ∃ a d, v = .ref a ∧ SqT K H a [.int e.1, .int e.2.1, d] ∧ DeedAt K H d e.2.2
def RowAt (K : PySem.W.Frag) (H : Hp) (v : V) (r : List Pm.En) : Prop := ∃ a xs, v = .ref a ∧ SqT K H a xs ∧ Paired (EntAt K H) xs r
def OR {α : Type} (R : V → α → Prop) : Option V → Option α → Prop
  | some v, some x => R v x
  | none, none => True
  | _, _ => False
/-- what a dict holds -/
structure Cont {α : Type} (R : V → α → Prop) (kvs : List (Key × V)) (f : Pm.Dc α) (n : Nat) : Prop where
  nd : (kvs.map (·.1)).Nodup
  ki : ∀ p ∈ kvs, ∃ i, p.1 = Sum.inl i
  len : kvs.length ≤ n
  val : ∀ i : Int, OR R (valV kvs (Sum.inl i)) (f i)
def DcAt {α : Type} (R : Hp → V → α → Prop) (H : Hp) (v : V) (f : Pm.Dc α) (n : Nat) : Prop := ∃ a o kvs, v = .ref a ∧ H a = some (.frz o (.dK kvs)) ∧ Cont (R H) kvs f n
abbrev RI : Hp → V → Int → Prop := fun _ v i => v = .int i
abbrev RD (n : Nat) : Hp → V → Pm.Dc Int → Prop := fun H v f => DcAt RI H v f n
/-- the parts of a picture -/
structure Parts (K : PySem.W.Frag) (H : Hp) (vc vp vr vf vv : V) (s : Pm.St) (n : Nat) : Prop where
  cir : CirAt K H vc s.C
  pr : DcAt RI H vp s.pr 7
  rw : DcAt (RowAt K) H vr s.rw n
  fs : DcAt RI H vf s.fs n
  vt : DcAt (RD n) H vv s.vt 7
/-- the law's own picture -/
def LPic (K : PySem.W.Frag) (H : Hp) (v : V) (s : Pm.St) (n : Nat) : Prop := ∃ a vc vp vr vf vv, v = .ref a ∧ SqT K H a [vc, vp, vr, vf, vv] ∧ Parts K H vc vp vr vf vv s n
/-- the package's -/
def PPic (K : PySem.W.Frag) (C : Addr) (H : Hp) (v : V) (s : Pm.St) (n : Nat) : Prop := ∃ a dx vc vp vr vf vv, v = .ref a ∧ SlX.Slt H a C dx [some vc, some vf, some vp, some vr, some vv] ∧ Parts K H vc vp vr vf vv s n

section
variable {K : PySem.W.Frag} {H H' : Hp} {v vc vp vr vf vv : V} {s : Pm.St} {n m : Nat}
theorem CirAt.mono {C : List Int} (e : Same H H') (h : CirAt K H v C) : CirAt K H' v C := by
  obtain ⟨a, rfl, h⟩ := h
  exact ⟨a, rfl, sm_T e h⟩
theorem DeedAt.mono {k : Nat} (e : Same H H') (h : DeedAt K H v k) : DeedAt K H' v k := by
  obtain ⟨a, rfl, h⟩ := h
  refine ⟨a, rfl, ?_⟩
  rcases h with ⟨h, g⟩ | ⟨h, g⟩ | ⟨h, c, g, g2⟩
  · exact .inl ⟨h, sm_T e g⟩
  · exact .inr (.inl ⟨h, sm_T e g⟩)
  · exact .inr (.inr ⟨h, c, sm_T e g, sm_T e g2⟩)
theorem EntAt.mono {x : Pm.En} (e : Same H H') (h : EntAt K H v x) : EntAt K H' v x := by
  obtain ⟨a, d, rfl, h, g⟩ := h
  exact ⟨a, d, rfl, sm_T e h, g.mono e⟩
theorem RowAt.mono {r : List Pm.En} (e : Same H H') (h : RowAt K H v r) : RowAt K H' v r := by
  obtain ⟨a, xs, rfl, h, g⟩ := h
  exact ⟨a, xs, rfl, sm_T e h, Paired.mapP g fun _ _ z => z.mono e⟩
theorem OR.imp {α : Type} {R R' : V → α → Prop} (h : ∀ v x, R v x → R' v x) : ∀ {a : Option V} {b : Option α}, OR R a b → OR R' a b
  | some _, some _, z => h _ _ z
  | none, none, _ => True.intro
  | some _, none, z => z.elim
  | none, some _, z => z.elim
theorem Cont.imp {α : Type} {R R' : V → α → Prop} {kvs : List (Key × V)} {f : Pm.Dc α} (h : ∀ v x, R v x → R' v x) (c : Cont R kvs f n) : Cont R' kvs f n := ⟨c.nd, c.ki, c.len, fun i => (c.val i).imp h⟩
theorem DcAt.mono {α : Type} {R : Hp → V → α → Prop} {f : Pm.Dc α} (hR : ∀ {H H' : Hp} {v : V} {x : α}, Same H H' → R H v x → R H' v x) (e : Same H H') (h : DcAt R H v f n) : DcAt R H' v f n := by
  obtain ⟨a, o, kvs, rfl, h, c⟩ := h
  exact ⟨a, o, kvs, rfl, e _ _ h, c.imp fun _ _ z => hR e z⟩
theorem DcAt.monoI {f : Pm.Dc Int} (e : Same H H') (h : DcAt RI H v f n) : DcAt RI H' v f n := DcAt.mono (fun _ z => z) e h
theorem DcAt.monoR {f : Pm.Dc (List Pm.En)} (e : Same H H') (h : DcAt (RowAt K) H v f n) : DcAt (RowAt K) H' v f n := DcAt.mono (fun e z => z.mono e) e h
theorem DcAt.monoD {f : Pm.Dc (Pm.Dc Int)} (e : Same H H') (h : DcAt (RD m) H v f n) : DcAt (RD m) H' v f n := DcAt.mono (fun e z => DcAt.monoI e z) e h
theorem Parts.mono (e : Same H H') (h : Parts K H vc vp vr vf vv s n) : Parts K H' vc vp vr vf vv s n := ⟨h.cir.mono e, h.pr.monoI e, h.rw.monoR e, h.fs.monoI e, h.vt.monoD e⟩
theorem sm_slt {a C dx : Addr} {vs : List (Option V)} (e : Same H H') (h : SlX.Slt H a C dx vs) : SlX.Slt H' a C dx vs := by
  rcases h with ⟨h, g⟩ | ⟨h, g⟩
  · exact .inl ⟨e _ _ h, g⟩
  · exact .inr ⟨e _ _ h, e _ _ g⟩
theorem LPic.mono (e : Same H H') (h : LPic K H v s n) : LPic K H' v s n := by
  obtain ⟨a, vc, vp, vr, vf, vv, rfl, h, p⟩ := h
  exact ⟨a, vc, vp, vr, vf, vv, rfl, sm_T e h, p.mono e⟩
theorem PPic.mono {C : Addr} (e : Same H H') (h : PPic K C H v s n) : PPic K C H' v s n := by
  obtain ⟨a, dx, vc, vp, vr, vf, vv, rfl, h, p⟩ := h
  exact ⟨a, dx, vc, vp, vr, vf, vv, rfl, sm_slt e h, p.mono e⟩
/-! looking up -/
theorem DcAt.find {α : Type} {R : Hp → V → α → Prop} {f : Pm.Dc α} (h : DcAt R H v f n) (i : Int) : ∃ a o, v = .ref a ∧ IsD H a ∧ DGet H a (.int i) o ∧ OR (R H) o (f i) := by
  obtain ⟨a, o, kvs, rfl, h, c⟩ := h
  exact ⟨a, _, rfl, .inl ⟨kvs, .inr ⟨o, h⟩⟩, .inl ⟨kvs, Sum.inl i, .inr ⟨o, h⟩, rfl, rfl⟩, c.val i⟩
theorem OR.isSome {α : Type} {R : V → α → Prop} : ∀ {a : Option V} {b : Option α}, OR R a b → a.isSome = b.isSome
  | some _, some _, _ => rfl
  | none, none, _ => rfl
  | some _, none, z => z.elim
  | none, some _, z => z.elim
theorem OR.some_of {α : Type} {R : V → α → Prop} {a : Option V} {x : α} (h : OR R a (some x)) : ∃ v, a = some v ∧ R v x := by
  cases a with
  | none => exact h.elim
  | some v => exact ⟨v, rfl, h⟩
theorem OR.none_of {α : Type} {R : V → α → Prop} {a : Option V} (h : OR R a none) : a = none := by
  cases a with
  | none => rfl
  | some v => exact h.elim
end

/-! ### the steps of a reading -/
section
variable {K : PySem.W.Frag} {σ : L2.St} {H H' : Hp} {D : Ends} {t u : TS} {te ta tb tc : TE} {tt tu : TT} {g : TG} {Q : VK} {v x y z : V} {i j : Nat}
theorem k_seq (h : t { D with nx := u D } σ H) : tSeq t u D σ H := h
theorem k_asg (h : te σ H fun x H1 => g x σ H1 D.nx) : tAsg te g D σ H := h
theorem k_gn {R : L2.St → Hp → Prop} (h : R (σ.set i (some v)) H) : gName i v σ H R := h
theorem k_par {ta : TA} (h : ta σ H fun vs H1 => ∃ v w, vs = [v, w] ∧ D.nx ((σ.set i (some v)).set j (some w)) H1) : tPar i j ta D σ H := h
theorem k_two {R : V → V → Prop} (h : R x y) : ∃ v w, [x, y] = [v, w] ∧ R v w := ⟨x, y, rfl, h⟩
theorem k_ret (h : te σ H D.rt) : tRet te D σ H := h
theorem k_drop (h : te σ H fun _ H1 => D.nx σ H1) : tDrop te D σ H := h
theorem k_next (h : D.nx σ H) : tNext D σ H := h
theorem k_cont (h : D.ct σ H) : tCont D σ H := h
theorem k_var (e : σ[i]? = some (some v)) (q : Q v H) : tVar i σ H Q := ⟨v, e, q⟩
theorem k_c (q : Q v H) : tC v σ H Q := q
theorem k_op {r : R2} (h : ta σ H fun x H1 => tb σ H1 fun y H2 => r x y H2 Q) : tOp r ta tb σ H Q := h
theorem k_un {r : V → Hp → VK → Prop} (h : ta σ H fun x H1 => r x H1 Q) : tUn r ta σ H Q := h
theorem k_test {R : Bool → Hp → Prop} (h : te σ H fun x H' => ∃ k, x = .bl k ∧ R k H') : tTest te σ H R := h
theorem k_B {R : Bool → Hp → Prop} (h : te σ H fun x H' => ∃ k, x = .bl k ∧ R k H') : tB te σ H R := h
theorem k_bl {R : Bool → Prop} {b : Bool} (h : R b) : ∃ k, V.bl b = .bl k ∧ R k := ⟨b, rfl, h⟩
theorem k_if (h : tt σ H fun b H1 => if b = true then t D σ H1 else u D σ H1) : tIfS tt t u D σ H := h
theorem k_ifx (h : tt σ H fun b H1 => if b = true then ta σ H1 Q else tb σ H1 Q) : tIf tt ta tb σ H Q := h
theorem k_and {R : Bool → Hp → Prop} (h : tt σ H fun c H1 => if c = true then tu σ H1 R else R false H1) : tAnd tt tu σ H R := h
theorem k_or {R : Bool → Hp → Prop} (h : tt σ H fun c H1 => if c = true then R true H1 else tu σ H1 R) : tOr tt tu σ H R := h
theorem k_not {R : Bool → Hp → Prop} (h : tt σ H fun c H1 => R (!c) H1) : tNot tt σ H R := h
theorem k_andV (h : ta σ H fun x H1 => ∃ c, x = .bl c ∧ if c = true then tb σ H1 Q else Q (.bl false) H1) : tAndV ta tb σ H Q := h
theorem k_orV (h : ta σ H fun x H1 => ∃ c, x = .bl c ∧ if c = true then Q (.bl true) H1 else tb σ H1 Q) : tOrV ta tb σ H Q := h
theorem k_notV (h : ta σ H fun x H1 => ∃ c, x = .bl c ∧ Q (.bl (!c)) H1) : tNotV ta σ H Q := h
theorem k_ite {A B : Prop} {b : Bool} (h1 : b = true → A) (h2 : b = false → B) : if b = true then A else B := by
  cases b
  · rw [if_neg Bool.false_ne_true]; exact h2 rfl
  · rw [if_pos rfl]; exact h1 rfl
theorem k_iteD {A B : Prop} {p : Prop} [Decidable p] (h1 : p → A) (h2 : ¬ p → B) : if decide p = true then A else B := k_ite (fun h => h1 (of_decide_eq_true h)) (fun h => h2 (of_decide_eq_false h))
theorem k_iteN {A B : Prop} {b : Bool} (h1 : b = false → A) (h2 : b = true → B) : if (!b) = true then A else B := by
  cases b
  · exact h1 rfl
  · exact h2 rfl
theorem k_yes {A B : Prop} {b : Bool} (h : b = true) (h1 : A) : if b = true then A else B := by subst h; exact h1
theorem k_no {A B : Prop} {b : Bool} (h : b = false) (h1 : B) : if b = true then A else B := by subst h; exact h1
theorem k_call {sp : Sp} {dvs : List V} {E : XK} {ta : TA} (h : ta σ H fun vs H1 => sp (vs ++ dvs) H1 Q E) : tCall sp dvs E ta σ H Q := h
theorem k_CB {r : List V → Hp → VK → Prop} {ta : TA} (h : ta σ H fun vs H1 => r vs H1 Q) : tCB r ta σ H Q := h
theorem k_cons {ta : TE} {tr : TA} {R : List V → Hp → Prop} (h : ta σ H fun x H1 => tr σ H1 fun xs H2 => R (x :: xs) H2) : tCons ta tr σ H R := h
theorem k_nil {R : List V → Hp → Prop} (h : R [] H) : tNil σ H R := h
/-- a new tuple, a new list -/
theorem k_tup {ta : TA} (h : ta σ H fun xs H1 => xs.length ≤ sizeLine ∧ ∀ p, H1 p = none → Q (.ref p) (upd H1 p (.tup xs))) : tTup ta σ H Q := h
theorem k_lst {ta : TA} (h : ta σ H fun xs H1 => xs.length ≤ sizeLine ∧ ∀ p, H1 p = none → Q (.ref p) (upd H1 p (.lst xs))) : tLst ta σ H Q := h
theorem k_new {o : HO} {R : V → Hp → Prop} (h : ∀ p H', H p = none → Same H H' → H' p = some o → R (.ref p) H') : ∀ p, H p = none → R (.ref p) (upd H p o) := fun p hp => h p _ hp (sm_new hp) upd_same
theorem k_fz (h : te σ H fun v H1 => ∃ ds, FzAll ds (Q v) H1) : tFz te σ H Q := h
/-- ints -/
theorem k_rI0 {f : Int → Int → V} {a b : Int} (h : Q (f a b) H) : rI0 f (.int a) (.int b) H Q := ⟨a, b, rfl, rfl, h⟩
theorem k_rI {C : Int → Int → Prop} {f : Int → Int → V} {a b : Int} (c : C a b) (h : Q (f a b) H) : rI C f (.int a) (.int b) H Q := ⟨a, b, rfl, rfl, c, h⟩
theorem k_rU {f : Int → V} {a : Int} (h : Q (f a) H) : rU f (.int a) H Q := ⟨a, rfl, h⟩
theorem k_eqI {a b : Int} (h : Q (.bl (decide (a = b))) H) : rEq (.int a) (.int b) H Q := ⟨rfl, by
  have e : decide (V.int a = V.int b) = decide (a = b) := by
    by_cases q : a = b
    · subst q; simp
    · rw [decide_eq_false q, decide_eq_false (fun z => q (by injection z))]
  rw [e]; exact h⟩
theorem k_neI {a b : Int} (h : Q (.bl (!decide (a = b))) H) : rNe (.int a) (.int b) H Q := ⟨rfl, by
  have e : decide (V.int a = V.int b) = decide (a = b) := by
    by_cases q : a = b
    · subst q; simp
    · rw [decide_eq_false q, decide_eq_false (fun z => q (by injection z))]
  rw [e]; exact h⟩
theorem k_eqS1 {a b : Str} (e : a = b) (h : Q (.bl true) H) : rEq (.str a) (.str b) H Q := ⟨rfl, by subst e; simpa using h⟩
theorem k_eqS0 {a b : Str} (e : ¬ a = b) (h : Q (.bl false) H) : rEq (.str a) (.str b) H Q := ⟨rfl, by rw [decide_eq_false (fun z => e (by injection z))]; exact h⟩
theorem k_neS1 {a b : Str} (e : a = b) (h : Q (.bl false) H) : rNe (.str a) (.str b) H Q := ⟨rfl, by subst e; simpa using h⟩
theorem k_neS0 {a b : Str} (e : ¬ a = b) (h : Q (.bl true) H) : rNe (.str a) (.str b) H Q := ⟨rfl, by rw [decide_eq_false (fun z => e (by injection z))]; exact h⟩
/-- places -/
theorem k_ixT {a : Addr} {xs : List V} {n : Int} (h : SqT K H a xs) (hi : atI xs n = some v) (q : Q v H) : rIxT K (.ref a) (.int n) H Q := ⟨a, xs, n, v, rfl, rfl, h, hi, q⟩
theorem k_ixL {a : Addr} {xs : List V} {n : Int} (h : SqL K H a xs) (hi : atI xs n = some v) (q : Q v H) : rIxL K (.ref a) (.int n) H Q := ⟨a, xs, n, v, rfl, rfl, h, hi, q⟩
theorem k_lenT {a : Addr} {xs : List V} (h : SqT K H a xs) (q : Q (.int xs.length) H) : ∃ p ys, [V.ref a] = [.ref p] ∧ (SqL K H p ys ∨ SqT K H p ys) ∧ Q (.int ys.length) H := ⟨a, xs, rfl, .inr h, q⟩
theorem k_lenL {a : Addr} {xs : List V} (h : SqL K H a xs) (q : Q (.int xs.length) H) : ∃ p ys, [V.ref a] = [.ref p] ∧ (SqL K H p ys ∨ SqT K H p ys) ∧ Q (.int ys.length) H := ⟨a, xs, rfl, .inl h, q⟩
/-- dicts -/
theorem k_dget (h : ta σ H fun x H1 => tb σ H1 fun y H2 => ∃ a v, x = .ref a ∧ DGet H2 a y (some v) ∧ Q v H2) : tDGet ta tb σ H Q := h
theorem k_din (h : ta σ H fun y H1 => tb σ H1 fun x H2 => ∃ a o, x = .ref a ∧ DGet H2 a y o ∧ Q (.bl o.isSome) H2) : tDIn ta tb σ H Q := h
theorem k_dnin (h : ta σ H fun y H1 => tb σ H1 fun x H2 => ∃ a o, x = .ref a ∧ DGet H2 a y o ∧ Q (.bl (!o.isSome)) H2) : tDNotIn ta tb σ H Q := h
theorem k_get2 (h : ta σ H fun x H1 => ∃ a, x = .ref a ∧ IsD H1 a ∧ tb σ H1 fun y H2 => tc σ H2 fun z H3 => ∃ o, DGet H3 a y o ∧ Q (o.getD z) H3) : tDGet2 ta tb tc σ H Q := h
theorem k_dg {α : Type} {R : Hp → V → α → Prop} {f : Pm.Dc α} {n : Nat} {i : Int} {m : α} (h : DcAt R H v f n) (e : f i = some m) (q : ∀ u, R H u m → Q u H) : ∃ a u, v = .ref a ∧ DGet H a (.int i) (some u) ∧ Q u H := by
  obtain ⟨a, o, rfl, _, g, r⟩ := h.find i
  rw [e] at r
  obtain ⟨u, rfl, r⟩ := r.some_of
  exact ⟨a, u, rfl, g, q u r⟩
theorem k_di {α : Type} {R : Hp → V → α → Prop} {f : Pm.Dc α} {n : Nat} {i : Int} {S : Bool → Prop} (h : DcAt R H v f n) (q : S (f i).isSome) : ∃ a o, v = .ref a ∧ DGet H a (.int i) o ∧ S o.isSome := by
  obtain ⟨a, o, rfl, _, g, r⟩ := h.find i
  exact ⟨a, o, rfl, g, by rw [r.isSome]; exact q⟩
end
end Hm

namespace Hm
open PySem PySem.Spec PyProof.Rows L2 Rx RZ
/-! ### comprehensions -/
def LcGo (J : It) (g : TG) (tt : TT) (te : TE) (vs : List Nat) (σ : L2.St) (H1 : Hp) (Q : VK) : Prop := ∀ D, H1 D = none → ∃ W : Nat → Nat → Hp → Prop, (∃ m, W 0 m (upd H1 D (.lst []))) ∧ ∀ i m H, W i m H →
  (J.stop i H ∧ Q (.ref D) H) ∨ (J.go i H ∧ ∃ Nx : Hp → Prop, (∀ H', Nx H' → ∃ m', m' < m ∧ W (i + 1) m' H') ∧ ∀ x H', J.yld i H x H' → g x (wipe σ vs) H' fun σ2 H2 => wipe σ2 vs = wipe σ vs ∧ tt σ2 H2 fun b H3 =>
    if b = true then te σ2 H3 fun y H4 => ∃ acc, H4 D = some (.lst acc) ∧ acc.length < sizeLine ∧ Nx (upd H4 D (.lst (acc ++ [y]))) else Nx H3)
section
variable {K : PySem.W.Frag} {α : Type} {J : It} {n : Nat} {G : Hp → Prop} {Y : Nat → Hp → V → Hp → Prop} {g : TG} {tt : TT} {te tk tv tl : TE} {vs : List Nat} {σ : L2.St} {H H1 : Hp} {Q : VK} {wi : TI}
theorem k_lc (h : wi σ H fun J H1 => LcGo J g tt te vs σ H1 Q) : tLc wi g tt te vs σ H Q := h
theorem take_filter {l : List α} {p : α → Bool} {i : Nat} {x : α} (h : l[i]? = some x) : (l.take (i + 1)).filter p = (l.take i).filter p ++ (if p x = true then [x] else []) := by
  rw [List.take_add_one, h, List.filter_append]
  simp only [Option.toList_some, List.filter_cons, List.filter_nil]
/-- the value hangs on the item alone -/
theorem lc_val (w : Walk J n G Y) (l : List α) (p : α → Bool) (f : α → V) (hn : l.length = n) (hz : n ≤ 1000000) (hG : ∀ H', Same H1 H' → G H')
    (turn : ∀ (i : Nat) (x : α) v Ha Hb, l[i]? = some x → Same H1 Ha → Y i Ha v Hb → ∀ (Ky : V → Hp → Prop) (Kn : Hp → Prop), (∀ H', Same Ha H' → p x = true → Ky (f x) H') → (∀ H', Same Ha H' → p x = false → Kn H') →
      g v (wipe σ vs) Hb fun σ2 H2 => wipe σ2 vs = wipe σ vs ∧ tt σ2 H2 fun b H3 => if b = true then te σ2 H3 Ky else Kn H3)
    (q : ∀ D H', H1 D = none → Same H1 H' → H' D = some (.lst ((l.filter p).map f)) → Q (.ref D) H') : LcGo J g tt te vs σ H1 Q := by
  subst hn
  intro D hD
  refine lc_it w (fun i H => Same H1 H ∧ H D = some (.lst (((l.take i).filter p).map f))) ⟨sm_new hD, upd_same⟩ (fun i H _ h => hG H h.1) (fun i v H H' hi ⟨e, hd⟩ y => ?_) fun H ⟨e, hd⟩ => ?_
  · have hx : l[i]? = some l[i] := List.getElem?_eq_getElem hi
    refine turn i l[i] v H H' hx e y _ _ (fun H4 e4 hp => ?_) fun H3 e3 hp => ?_
    · refine ⟨_, e4 _ _ hd, ?_, sm_mut (e.trans e4) hD, ?_⟩
      · have h1 := List.length_filter_le p (l.take i)
        have h2 : (l.take i).length ≤ l.length := by rw [List.length_take]; omega
        rw [List.length_map, sizeLine_eq]; omega
      · rw [upd_same, take_filter hx, if_pos hp, List.map_append]; rfl
    · refine ⟨e.trans e3, ?_⟩
      rw [take_filter hx, if_neg (by rw [hp]; exact Bool.false_ne_true), List.append_nil]
      exact e3 _ _ hd
  · rw [List.take_length] at hd
    exact q D H hD e hd
theorem paired_snoc {β γ : Type} {F : β → γ → Prop} : ∀ {a : List β} {b : List γ} {x : β} {y : γ}, Paired F a b → F x y → Paired F (a ++ [x]) (b ++ [y])
  | _, _, _, _, .nil, h => .cons h .nil
  | _, _, _, _, .cons h t, h' => .cons h (paired_snoc t h')
/-- the value is an object: B is what stands still meanwhile (all but the new list at D) -/
theorem lc_obj (w : Walk J n G Y) (l : List α) (p : α → Bool) (R : Hp → V → α → Prop) (mono : ∀ {H H' : Hp} {v : V} {x : α}, Same H H' → R H v x → R H' v x) (hn : l.length = n) (hz : n ≤ 1000000) (hG : ∀ H', Same H1 H' → G H')
    (turn : ∀ (i : Nat) (x : α) v B Ha Hb D, l[i]? = some x → Same H1 B → B D = none → (∃ u, Ha D = some u) → Same B Ha → Y i Ha v Hb → ∀ (Ky : V → Hp → Prop) (Kn : Hp → Prop), (∀ y B' H', Same B B' → B' D = none → Same B' H' → Same Ha H' → p x = true → R B' y x → Ky y H') → (∀ H', Same Ha H' → p x = false → Kn H') →
      g v (wipe σ vs) Hb fun σ2 H2 => wipe σ2 vs = wipe σ vs ∧ tt σ2 H2 fun b H3 => if b = true then te σ2 H3 Ky else Kn H3)
    (q : ∀ D H' ys, H1 D = none → Same H1 H' → H' D = some (.lst ys) → Paired (R H') ys (l.filter p) → Q (.ref D) H') : LcGo J g tt te vs σ H1 Q := by
  subst hn
  intro D hD
  refine lc_it w (fun i H => ∃ B ys, Same H1 B ∧ B D = none ∧ Same B H ∧ H D = some (.lst ys) ∧ Paired (R B) ys ((l.take i).filter p)) ⟨H1, [], Same.refl _, hD, sm_new hD, upd_same, .nil⟩ (fun i H _ ⟨B, ys, e, _, e', _⟩ => hG H (e.trans e')) (fun i v H H' hi ⟨B, ys, e, bd, e', hd, hp⟩ y => ?_) fun H ⟨B, ys, e, bd, e', hd, hp⟩ => ?_
  · have hx : l[i]? = some l[i] := List.getElem?_eq_getElem hi
    refine turn i l[i] v B H H' D hx e bd ⟨_, hd⟩ e' y _ _ (fun z B' H4 eb bd' eb' e4 hpx hr => ?_) fun H3 e3 hpx => ?_
    · have hl : ys.length ≤ l.length := by
        have h0 := Paired.length hp
        have h1 := List.length_filter_le p (l.take i)
        have h2 : (l.take i).length ≤ l.length := by rw [List.length_take]; omega
        omega
      refine ⟨ys, e4 _ _ hd, by rw [sizeLine_eq]; omega, B', ys ++ [z], e.trans eb, bd', sm_mut eb' bd', upd_same, ?_⟩
      rw [take_filter hx, if_pos hpx]
      exact paired_snoc (Paired.mapP hp fun _ _ r => mono eb r) hr
    · refine ⟨B, ys, e, bd, e'.trans e3, e3 _ _ hd, ?_⟩
      rw [take_filter hx, if_neg (by rw [hpx]; exact Bool.false_ne_true), List.append_nil]
      exact hp
  · rw [List.take_length] at hp
    exact q D H ys hD (e.trans e') hd (Paired.mapP hp fun _ _ r => mono e' r)
/-! dict comprehensions with ints as keys -/
def DcGo (J : It) (g : TG) (tt : TT) (tk tv : TE) (vs : List Nat) (σ : L2.St) (H1 : Hp) (Q : VK) : Prop := ∀ D, H1 D = none → ∃ W : Nat → Nat → Hp → Prop, (∃ m, W 0 m (upd H1 D (.dK []))) ∧ ∀ i m H, W i m H →
  (J.stop i H ∧ Q (.ref D) H) ∨ (J.go i H ∧ ∃ Nx : Hp → Prop, (∀ H', Nx H' → ∃ m', m' < m ∧ W (i + 1) m' H') ∧ ∀ x H', J.yld i H x H' → g x (wipe σ vs) H' fun σ2 H2 => wipe σ2 vs = wipe σ vs ∧ tt σ2 H2 fun b H3 =>
    if b = true then tk σ2 H3 fun y H4 => tv σ2 H4 fun z H5 => ∃ kvs k, y = kV k ∧ H5 D = some (.dK kvs) ∧ kvs.length < sizeLine ∧ Nx (upd H5 D (.dK (putK kvs k z))) else Nx H3)
theorem k_dc (h : wi σ H fun J H1 => DcGo J g tt tk tv vs σ H1 Q) : tDc wi g tt tk tv vs σ H Q := h
theorem valV_none_of {kvs : List (Key × V)} {k : Key} (h : k ∉ kvs.map (·.1)) : valV kvs k = none := by
  cases e : valV kvs k with
  | none => rfl
  | some v =>
    have hm : (kvs.any fun kv => decide (kv.1 = k)) = true := by rw [valV_any, e]; rfl
    rw [List.any_eq_true] at hm
    obtain ⟨x, hx, he⟩ := hm
    exact absurd (List.mem_map.mpr ⟨x, hx, of_decide_eq_true he⟩) h
/-- {x: value for x in l}: the keys are the items, which are unlike ints; R of the value and the item -/
theorem dc_obj (w : Walk J n G Y) (l : List Int) (R : Hp → V → Int → Prop) (mono : ∀ {H H' : Hp} {v : V} {x : Int}, Same H H' → R H v x → R H' v x) (hn : l.length = n) (hz : n ≤ 1000000) (hd : l.Nodup) (hG : ∀ H', Same H1 H' → G H')
    (turn : ∀ (i : Nat) (x : Int) v B Ha Hb D, l[i]? = some x → Same H1 B → B D = none → (∃ u, Ha D = some u) → Same B Ha → Y i Ha v Hb → ∀ (Ky : V → V → Hp → Prop) (Kn : Hp → Prop), (∀ y B' H', Same B B' → B' D = none → Same B' H' → Same Ha H' → R B' y x → Ky (.int x) y H') →
      g v (wipe σ vs) Hb fun σ2 H2 => wipe σ2 vs = wipe σ vs ∧ tt σ2 H2 fun b H3 => if b = true then tk σ2 H3 fun y H4 => tv σ2 H4 fun z H5 => Ky y z H5 else Kn H3)
    (q : ∀ D H' kvs, H1 D = none → Same H1 H' → H' D = some (.dK kvs) → kvs.map (·.1) = l.map Sum.inl → Paired (fun (p : Key × V) x => R H' p.2 x) kvs l → Q (.ref D) H') : DcGo J g tt tk tv vs σ H1 Q := by
  subst hn
  intro D hD
  have core : ∃ W : Nat → Nat → Hp → Prop, (∃ m, W 0 m (upd H1 D (.dK []))) ∧ ∀ i m H, W i m H →
      (J.stop i H ∧ Q (.ref D) H) ∨ (J.go i H ∧ ∃ Nx : Hp → Prop, (∀ H', Nx H' → ∃ m', m' < m ∧ W (i + 1) m' H') ∧ ∀ x H', J.yld i H x H' → g x (wipe σ vs) H' fun σ2 H2 => wipe σ2 vs = wipe σ vs ∧ tt σ2 H2 fun b H3 =>
        if b = true then tk σ2 H3 fun y H4 => tv σ2 H4 fun z H5 => ∃ kvs k, y = kV k ∧ H5 D = some (.dK kvs) ∧ kvs.length < sizeLine ∧ Nx (upd H5 D (.dK (putK kvs k z))) else Nx H3) := by
    let Pv : Nat → Hp → Prop := fun i H => ∃ B kvs, Same H1 B ∧ B D = none ∧ Same B H ∧ H D = some (.dK kvs) ∧ kvs.map (·.1) = (l.take i).map Sum.inl ∧ Paired (fun (p : Key × V) x => R B p.2 x) kvs (l.take i)
    refine ⟨fun i m H => m = l.length - i ∧ i ≤ l.length ∧ Pv i H, ⟨l.length, by simp, Nat.zero_le _, H1, [], Same.refl _, hD, sm_new hD, upd_same, by simp, by simp; exact .nil⟩, ?_⟩
    rintro i m H ⟨rfl, hi, B, kvs, e, bd, e', hdk, hk, hp⟩
    by_cases hlt : i < l.length
    · refine .inr ⟨w.goes i H hlt (hG H (e.trans e')), Pv (i + 1), fun H' p' => ⟨l.length - (i + 1), by omega, rfl, hlt, p'⟩, fun v H' y => ?_⟩
      have hx : l[i]? = some l[i] := List.getElem?_eq_getElem hlt
      refine turn i l[i] v B H H' D hx e bd ⟨_, hdk⟩ e' (w.yields i H v H' hlt (hG H (e.trans e')) y) (fun y z H5 => ∃ kvs k, y = kV k ∧ H5 D = some (.dK kvs) ∧ kvs.length < sizeLine ∧ Pv (i + 1) (upd H5 D (.dK (putK kvs k z)))) (Pv (i + 1)) fun z B' H5 eb bd' eb' e5 hr => ?_
      have hlen : kvs.length ≤ l.length := by
        have h0 := Paired.length hp
        rw [List.length_take] at h0
        omega
      have hnew : valV kvs (Sum.inl l[i] : Key) = none := by
        refine valV_none_of ?_
        rw [hk]
        intro hm
        obtain ⟨j, hj, ej⟩ := List.mem_map.mp hm
        have ej : j = l[i] := by injection ej
        subst ej
        obtain ⟨j, hj2, ej⟩ := List.mem_take_iff_getElem.mp hj
        have hji : j < i := by omega
        have hne : l[j] ≠ l[i] := (List.pairwise_iff_getElem.mp hd) j i (by omega) hlt hji
        exact hne ej
      refine ⟨kvs, Sum.inl l[i], rfl, e5 _ _ hdk, by rw [sizeLine_eq]; omega, B', kvs ++ [(Sum.inl l[i], z)], e.trans eb, bd', sm_mut eb' bd', by rw [upd_same, putK_new _ hnew], ?_, ?_⟩
      · rw [List.map_append, hk, List.take_add_one, hx, List.map_append]; rfl
      · rw [List.take_add_one, hx]
        exact paired_snoc (Paired.mapP hp fun _ _ r => mono eb r) hr
    · have ei : i = l.length := by omega
      subst ei
      rw [List.take_length] at hk hp
      exact .inl ⟨w.stops H (hG H (e.trans e')), q D H kvs hD (e.trans e') hdk hk (Paired.mapP hp fun _ _ r => mono e' r)⟩
  exact core
end
/-! ### what is walked -/
section
variable {K : PySem.W.Frag} {σ : L2.St} {H : Hp} {tl : TE} {ta : TA} {R : It → Hp → Prop} {a b : Addr} {xs ys : List V} {g : TG} {tb : TS} {D : Ends} {wi : TI}
/-- the turns of a for -/
def ForGo (J : It) (g : TG) (tb : TS) (D : Ends) (σ : L2.St) (H1 : Hp) : Prop := ∃ W : Nat → Nat → L2.St → Hp → Prop, (∃ m, W 0 m σ H1) ∧ ∀ i m σ H, W i m σ H →
  (J.stop i H ∧ D.nx σ H) ∨ (J.go i H ∧ ∃ N : L2.St → Hp → Prop, (∀ σ' H', N σ' H' → ∃ m', m' < m ∧ W (i + 1) m' σ' H') ∧ ∀ x H', J.yld i H x H' → g x σ H' fun σ2 H2 => tb { D with nx := N, ct := N, bk := D.nx } σ2 H2)
theorem k_for (h : wi σ H fun J H1 => ForGo J g tb D σ H1) : tFor wi g tb D σ H := h
theorem for_go {J : It} {n : Nat} {G : Hp → Prop} {Y : Nat → Hp → V → Hp → Prop} (w : Walk J n G Y) (Pv : Nat → L2.St → Hp → Prop) (h0 : Pv 0 σ H) (hG : ∀ i σ H, i ≤ n → Pv i σ H → G H)
    (hs : ∀ i x σ H H', i < n → Pv i σ H → Y i H x H' → g x σ H' fun σ2 H2 => tb { D with nx := Pv (i + 1), ct := Pv (i + 1), bk := D.nx } σ2 H2) (hd : ∀ σ H, Pv n σ H → D.nx σ H) : ForGo J g tb D σ H := for_it w Pv h0 hG hs hd
theorem k_iTup (h : tl σ H fun x H1 => ∃ a, x = .ref a ∧ (∃ xs, SqT K H1 a xs) ∧ R (Itt K a) H1) : iTup K tl σ H R := h
theorem k_iList (h : tl σ H fun x H1 => ∃ a, x = .ref a ∧ (∃ xs, SqL K H1 a xs) ∧ R (Itl K a) H1) : iList K tl σ H R := h
theorem k_itT (h : SqT K H a xs) (q : R (Itt K a) H) : ∃ c, V.ref a = .ref c ∧ (∃ xs, SqT K H c xs) ∧ R (Itt K c) H := ⟨a, rfl, ⟨xs, h⟩, q⟩
theorem k_itL (h : SqL K H a xs) (q : R (Itl K a) H) : ∃ c, V.ref a = .ref c ∧ (∃ xs, SqL K H c xs) ∧ R (Itl K c) H := ⟨a, rfl, ⟨xs, h⟩, q⟩
theorem k_iItems (h : tl σ H fun x H1 => ∃ d o kvs, x = .ref d ∧ H1 d = some (.frz o (.dK kvs)) ∧ R (Iti d o kvs) H1) : iItems tl σ H R := h
theorem k_itI {o : Obj} {kvs : List (Key × V)} (h : H a = some (.frz o (.dK kvs))) (q : R (Iti a o kvs) H) : ∃ d o kvs, V.ref a = .ref d ∧ H d = some (.frz o (.dK kvs)) ∧ R (Iti d o kvs) H := ⟨a, o, kvs, rfl, h, q⟩
theorem k_iKeys (h : tl σ H fun x H1 => ∃ d o, x = .ref d ∧ ((∃ kvs, H1 d = some (.frz o (.dK kvs)) ∧ R (Itk d o kvs) H1) ∨ ∃ kvs, H1 d = some (.frz o (.dT kvs)) ∧ R (Itkt d o kvs) H1)) : iKeys tl σ H R := h
theorem k_itK {o : Obj} {kvs : List (Key × V)} (h : H a = some (.frz o (.dK kvs))) (q : R (Itk a o kvs) H) : ∃ d o, V.ref a = .ref d ∧ ((∃ kvs, H d = some (.frz o (.dK kvs)) ∧ R (Itk d o kvs) H) ∨ ∃ kvs, H d = some (.frz o (.dT kvs)) ∧ R (Itkt d o kvs) H) := ⟨a, o, rfl, .inl ⟨kvs, h, q⟩⟩
end
/-! ### the driver: one row a step -/
local macro_rules | `(tactic| walk_at "sm") => `(tactic| first
  | assumption
  | exact Same.refl _
  | (refine Same.trans ?_ (by assumption); walk_at "sm"))
local macro_rules | `(tactic| walk_at "fa") => `(tactic| first
  | assumption
  | exact SqT.of (by assumption)
  | exact SqL.of (by assumption)
  | (refine sm_T ?e ?h; (case h => first | assumption | exact SqT.of (by assumption)); (case e => walk_at "sm"))
  | (refine sm_L ?e ?h; (case h => first | assumption | exact SqL.of (by assumption)); (case e => walk_at "sm")))
end Hm

namespace Hm
open PySem PySem.Spec PyProof.Rows L2 Rx RZ
/-! Ks2: more steps of a reading. -/
section
variable {K : PySem.W.Frag} {σ : L2.St} {H H' : Hp} {D : Ends} {t u : TS} {te ta tb tc : TE} {tt tu : TT} {g : TG} {Q : VK} {v x y z : V} {i j : Nat} {A B : Prop}
theorem pe_dead {X : Cx} {e : Expr} : PE X e (fun _ _ _ => False) := ⟨fun _ _ _ _ _ _ h => h.elim⟩
theorem ty_T {t : Addr} {xs : List V} (h : SqT K H t xs) : TyX K H (.ref t) (.type "tuple") := by
  rcases h with (h | ⟨o, h⟩) | ⟨o, _, _, e, c, _⟩
  · exact .base (.tup h)
  · exact .fTuple h
  · exact .kTuple e c
theorem k_isi {A B : String} {b : Bool} (ty : TyX K H x (.type A)) (e : kitB A B = some b) (q : Q (.bl b) H) : rIsi K [x, .ty B] H Q := ⟨x, .ty B, _, _, b, rfl, ClsV.ty B, ty, kit_ty e, q⟩
theorem k_isiII {n : Int} (q : Q (.bl true) H) : rIsi K [.int n, .ty "int"] H Q := k_isi (.base (.int n)) (by decide +kernel) q
theorem k_isiIB {n : Int} (q : Q (.bl false) H) : rIsi K [.int n, .ty "bool"] H Q := k_isi (.base (.int n)) (by decide +kernel) q
theorem k_isiSS {n : Str} (q : Q (.bl true) H) : rIsi K [.str n, .ty "str"] H Q := k_isi (.base (.str n)) (by decide +kernel) q
theorem k_isiT {t : Addr} {xs : List V} (h : SqT K H t xs) (q : Q (.bl true) H) : rIsi K [.ref t, .ty "tuple"] H Q := k_isi (ty_T h) (by decide +kernel) q
theorem k_chain {r r' : R2} (h : ta σ H fun x H1 => tb σ H1 fun y H2 => r x y H2 fun z H3 => ∃ k, z = .bl k ∧ (if k = true then tc σ H3 fun w' H4 => r' y w' H4 Q else Q (.bl false) H3)) : tChain r r' ta tb tc σ H Q := h
theorem k_nT (h : B) : if (!true) = true then A else B := h
theorem k_nF (h : A) : if (!false) = true then A else B := h
theorem k_dT {p : Prop} [Decidable p] (hp : p) (h : A) : if decide p = true then A else B := k_yes (decide_eq_true hp) h
theorem k_dF {p : Prop} [Decidable p] (hp : ¬ p) (h : B) : if decide p = true then A else B := k_no (decide_eq_false hp) h
theorem k_ndF {p : Prop} [Decidable p] (hp : p) (h : B) : if (!decide p) = true then A else B := by rw [decide_eq_true hp]; exact h
theorem k_ndT {p : Prop} [Decidable p] (hp : ¬ p) (h : A) : if (!decide p) = true then A else B := by rw [decide_eq_false hp]; exact h
theorem q_dT {p : Prop} [Decidable p] (hp : p) (h : Q (.bl true) H) : Q (.bl (decide p)) H := by rw [decide_eq_true hp]; exact h
theorem q_dF {p : Prop} [Decidable p] (hp : ¬ p) (h : Q (.bl false) H) : Q (.bl (decide p)) H := by rw [decide_eq_false hp]; exact h
theorem q_int {a b : Int} (e : a = b) (h : Q (.int b) H) : Q (.int a) H := e ▸ h
theorem k_sl {r : V → Option Int → Option Int → Hp → VK → Prop} {tl th : TO} (h : te σ H fun x H1 => tl σ H1 fun l H2 => th σ H2 fun u H3 => r x l u H3 Q) : tSl r te tl th σ H Q := h
theorem k_noP {R : Option Int → Hp → Prop} (h : R none H) : tNoPart σ H R := h
theorem k_part {R : Option Int → Hp → Prop} (h : te σ H fun x H1 => ∃ i, x = .int i ∧ R (some i) H1) : tPart te σ H R := h
theorem k_exI {R : Int → Prop} {n : Int} (h : R n) : ∃ i, V.int n = .int i ∧ R i := ⟨n, rfl, h⟩
theorem cutV_whole {xs : List V} {lo hi : Option Int} (h : HT.sIx xs.length 0 lo = 0 ∧ HT.sIx xs.length xs.length hi = xs.length) : cutV xs lo hi = xs := by
  unfold cutV
  rw [h.1, h.2]
  simp
theorem k_slT {a : Addr} {xs : List V} {lo hi : Option Int} (h : SqT K H a xs) (q : ∀ p H', Same H H' → SqT K H' p (cutV xs lo hi) → Q (.ref p) H') : rSlA K (.ref a) lo hi H Q := by
  refine ⟨a, xs, rfl, h, fun e => ?_, fun _ p hp => ?_⟩
  · exact q a H (Same.refl _) (by rw [cutV_whole e]; exact h)
  · exact q p _ (sm_new hp) (.inl (.inl upd_same))
theorem cut_to {xs : List V} {m : Int} (h : 0 ≤ m) : cutV xs none (some m) = xs.take m.toNat := by
  unfold cutV HT.sIx
  simp only [if_neg (show ¬ m < 0 by omega), List.drop_zero, Nat.sub_zero]
  rw [List.take_eq_take_iff]; omega
theorem cut_from {xs : List V} {k : Nat} : cutV xs (some (k : Int)) none = xs.drop k := by
  unfold cutV HT.sIx
  simp only [if_neg (show ¬ (k : Int) < 0 by omega), Int.toNat_natCast]
  by_cases hk : k ≤ xs.length
  · rw [Nat.min_eq_left hk, List.take_of_length_le (by simp)]
  · rw [Nat.min_eq_right (by omega)]
    rw [List.drop_eq_nil_of_le (by omega), List.drop_eq_nil_of_le (by omega)]
    simp
theorem inV_int (n : Int) (C : List Int) : inV (.int n) (C.map V.int) = decide (n ∈ C) := by
  unfold inV
  induction C with
  | nil => rfl
  | cons a r ih =>
    rw [List.map_cons, List.any_cons, ih]
    show (a == n || decide (n ∈ r)) = decide (n ∈ a :: r)
    by_cases e : a = n
    · subst e; simp
    · have e2 : ¬ n = a := fun z => e z.symm
      rw [beq_eq_false_iff_ne.mpr e]
      simp [e2]
theorem flat_ints (C : List Int) : (C.map V.int).all flatV = true := by
  induction C with
  | nil => rfl
  | cons a r ih => rw [List.map_cons, List.all_cons, ih]; rfl
theorem k_inT {b : Bool} {a : Addr} {xs : List V} (h : SqT K H a xs) (f : flatV x = true) (g : xs.all flatV = true) (e : inV x xs = b) (q : Q (.bl b) H) : rIn K false x (.ref a) H Q := ⟨a, xs, rfl, .inr h, f, g, by rw [if_neg Bool.false_ne_true, e]; exact q⟩
theorem k_ninT {b : Bool} {a : Addr} {xs : List V} (h : SqT K H a xs) (f : flatV x = true) (g : xs.all flatV = true) (e : inV x xs = b) (q : Q (.bl (!b)) H) : rIn K true x (.ref a) H Q := ⟨a, xs, rfl, .inr h, f, g, by rw [if_pos rfl, e]; exact q⟩
theorem k_inC {a : Addr} {C : List Int} {n : Int} (h : SqT K H a (C.map V.int)) (q : Q (.bl (decide (n ∈ C))) H) : rIn K false (.int n) (.ref a) H Q := k_inT h rfl (flat_ints C) (inV_int n C) q
theorem k_ninC {a : Addr} {C : List Int} {n : Int} (h : SqT K H a (C.map V.int)) (q : Q (.bl (!decide (n ∈ C))) H) : rIn K true (.int n) (.ref a) H Q := k_ninT h rfl (flat_ints C) (inV_int n C) q
/-- all([..]) -/
theorem k_all {l : Addr} {bs : List Bool} (h : SqL K H l (bs.map V.bl)) (q : Q (.bl (bs.all id)) H) : rAll K [.ref l] H Q := ⟨l, bs, rfl, h, q⟩
theorem k_neE1 {a b : Addr} {xs : List V} (h1 : SqT K H a xs) (h2 : SqT K H b []) (q : Q (.bl (!xs.isEmpty)) H) : rEqE K not (.ref a) (.ref b) H Q := ⟨a, b, xs, rfl, rfl, .inr ⟨h1, h2⟩, q⟩
theorem k_neEL {a b : Addr} {xs : List V} (h1 : SqL K H a xs) (h2 : SqL K H b []) (q : Q (.bl (!xs.isEmpty)) H) : rEqE K not (.ref a) (.ref b) H Q := ⟨a, b, xs, rfl, rfl, .inl ⟨h1, h2⟩, q⟩
theorem k_eqEL {a b : Addr} {xs : List V} (h1 : SqL K H a xs) (h2 : SqL K H b []) (q : Q (.bl xs.isEmpty) H) : rEqE K id (.ref a) (.ref b) H Q := ⟨a, b, xs, rfl, rfl, .inl ⟨h1, h2⟩, q⟩
theorem k_iStr {R : It → Hp → Prop} (h : te σ H fun v H1 => ∃ x, v = .str x ∧ R (Its x) H1) : iStr te σ H R := h
theorem k_exS {R : Str → Prop} {n : Str} (h : R n) : ∃ i, V.str n = .str i ∧ R i := ⟨n, rfl, h⟩
/-- match -/
theorem k_match {ts : List (Str × TS)} (h : te σ H fun x H1 => mtc x ts D σ H1) : tMatch te ts D σ H := h
/-- new things, their facts named -/
theorem k_newT {xs : List V} {R : V → Hp → Prop} (h : ∀ p H', H p = none → Same H H' → SqT K H' p xs → H' p = some (.tup xs) → R (.ref p) H') : ∀ p, H p = none → R (.ref p) (upd H p (.tup xs)) := fun p hp => h p _ hp (sm_new hp) (.inl (.inl upd_same)) upd_same
theorem k_newL {xs : List V} {R : V → Hp → Prop} (h : ∀ p H', H p = none → Same H H' → SqL K H' p xs → H' p = some (.lst xs) → R (.ref p) H') : ∀ p, H p = none → R (.ref p) (upd H p (.lst xs)) := fun p hp => h p _ hp (sm_new hp) (.inl (.inl upd_same)) upd_same
theorem k_mtc0 (h : D.nx σ H) : mtc x [] D σ H := h
theorem k_mtcY {z c : Str} {r : List (Str × TS)} (e : z = c) (h : t D σ H) : mtc (.str z) ((c, t) :: r) D σ H := ⟨z, rfl, by rw [if_pos e]; exact h⟩
theorem k_mtcN {z c : Str} {r : List (Str × TS)} (e : ¬ z = c) (h : mtc (.str z) r D σ H) : mtc (.str z) ((c, t) :: r) D σ H := ⟨z, rfl, by rw [if_neg e]; exact h⟩
theorem sz_le {n : Nat} (h : n ≤ 1000) : n ≤ sizeLine := by rw [sizeLine_eq]; omega
theorem atI_get {xs : List V} {k : Nat} {v : V} (h : xs[k]? = some v) : atI xs (k : Int) = some v := by
  have hk : k < xs.length := by
    rcases Nat.lt_or_ge k xs.length with z | z
    · exact z
    · rw [List.getElem?_eq_none z] at h; cases h
  unfold atI ixN
  rw [if_pos (by omega), if_pos (by omega)]
  simpa using h
theorem k_ixN {a : Addr} {xs : List V} {n : Int} (h : SqT K H a xs) (h0 : 0 ≤ n) (hi : xs[n.toNat]? = some v) (q : Q v H) : rIxT K (.ref a) (.int n) H Q := by
  obtain ⟨k, rfl⟩ := Int.eq_ofNat_of_zero_le h0
  exact k_ixT h (atI_get hi) q
theorem k_ixM {a : Addr} {xs : List V} {n : Int} (h : SqL K H a xs) (h0 : 0 ≤ n) (hi : xs[n.toNat]? = some v) (q : Q v H) : rIxL K (.ref a) (.int n) H Q := by
  obtain ⟨k, rfl⟩ := Int.eq_ofNat_of_zero_le h0
  exact k_ixL h (atI_get hi) q
/-- what is walked, R kept whole -/
def WTup (K : PySem.W.Frag) (x : V) (H : Hp) (R : It → Hp → Prop) : Prop := ∃ a, x = .ref a ∧ (∃ xs, SqT K H a xs) ∧ R (Itt K a) H
def WList (K : PySem.W.Frag) (x : V) (H : Hp) (R : It → Hp → Prop) : Prop := ∃ a, x = .ref a ∧ (∃ xs, SqL K H a xs) ∧ R (Itl K a) H
def WItems (x : V) (H : Hp) (R : It → Hp → Prop) : Prop := ∃ d o kvs, x = .ref d ∧ H d = some (.frz o (.dK kvs)) ∧ R (Iti d o kvs) H
def WKeys (x : V) (H : Hp) (R : It → Hp → Prop) : Prop := ∃ d o, x = .ref d ∧ ((∃ kvs, H d = some (.frz o (.dK kvs)) ∧ R (Itk d o kvs) H) ∨ ∃ kvs, H d = some (.frz o (.dT kvs)) ∧ R (Itkt d o kvs) H)
def WStr (x : V) (H : Hp) (R : It → Hp → Prop) : Prop := ∃ z, x = .str z ∧ R (Its z) H
def WZip (K : PySem.W.Frag) (vs : List V) (H : Hp) (R : It → Hp → Prop) : Prop := ∃ a b xs ys, vs = [.ref a, .ref b] ∧ ((SqL K H a xs ∧ SqL K H b ys ∧ R (Itz K a b) H) ∨ (SqT K H a xs ∧ SqT K H b ys ∧ R (ItzT K a b) H))
theorem kw_iTup {tl : TE} {R : It → Hp → Prop} (h : tl σ H fun x H1 => WTup K x H1 R) : iTup K tl σ H R := h
theorem kw_iList {tl : TE} {R : It → Hp → Prop} (h : tl σ H fun x H1 => WList K x H1 R) : iList K tl σ H R := h
theorem kw_iItems {tl : TE} {R : It → Hp → Prop} (h : tl σ H fun x H1 => WItems x H1 R) : iItems tl σ H R := h
theorem kw_iKeys {tl : TE} {R : It → Hp → Prop} (h : tl σ H fun x H1 => WKeys x H1 R) : iKeys tl σ H R := h
theorem kw_iStr {tl : TE} {R : It → Hp → Prop} (h : tl σ H fun x H1 => WStr x H1 R) : iStr tl σ H R := h
theorem kw_iZip {ta : TA} {R : It → Hp → Prop} (h : ta σ H fun vs H1 => WZip K vs H1 R) : iZipA K ta σ H R := h
theorem k_wT {a : Addr} {xs : List V} {R : It → Hp → Prop} (h : SqT K H a xs) (q : R (Itt K a) H) : WTup K (.ref a) H R := ⟨a, rfl, ⟨xs, h⟩, q⟩
theorem k_wL {a : Addr} {xs : List V} {R : It → Hp → Prop} (h : SqL K H a xs) (q : R (Itl K a) H) : WList K (.ref a) H R := ⟨a, rfl, ⟨xs, h⟩, q⟩
theorem k_wI {d : Addr} {o : Obj} {kvs : List (Key × V)} {R : It → Hp → Prop} (h : H d = some (.frz o (.dK kvs))) (q : R (Iti d o kvs) H) : WItems (.ref d) H R := ⟨d, o, kvs, rfl, h, q⟩
theorem k_wK {d : Addr} {o : Obj} {kvs : List (Key × V)} {R : It → Hp → Prop} (h : H d = some (.frz o (.dK kvs))) (q : R (Itk d o kvs) H) : WKeys (.ref d) H R := ⟨d, o, rfl, .inl ⟨kvs, h, q⟩⟩
theorem k_wS {z : Str} {R : It → Hp → Prop} (q : R (Its z) H) : WStr (.str z) H R := ⟨z, rfl, q⟩
theorem k_wZ {a b : Addr} {xs ys : List V} {R : It → Hp → Prop} (h1 : SqT K H a xs) (h2 : SqT K H b ys) (q : R (ItzT K a b) H) : WZip K [.ref a, .ref b] H R := ⟨a, b, xs, ys, rfl, .inr ⟨h1, h2, q⟩⟩
theorem walk_zipT {a b : Addr} {xs ys : List V} {n : Nat} (hn : n = min xs.length ys.length) : Walk (ItzT K a b) n (fun H => SqT K H a xs ∧ SqT K H b ys) (YPair (fun i => xs[i]?) (fun i => ys[i]?)) := by
  subst hn
  refine ⟨fun i _ hi q => ?_, fun _ q => ⟨xs, ys, q.1, q.2, by omega⟩, fun i H v H' _ q y => ?_⟩
  · have h1 : i < xs.length := by omega
    have h2 : i < ys.length := by omega
    exact ⟨xs, ys, xs[i], ys[i], q.1, q.2, by simp [h1], by simp [h2]⟩
  · obtain ⟨T, x, z, h1, h2, h3, h4, h5⟩ := y
    exact ⟨T, x, z, h1, h2, h3, h4 xs q.1, h5 ys q.2⟩
/-- looking up, Q kept whole -/
def DgR (x y : V) (H : Hp) (Q : VK) : Prop := ∃ a v, x = .ref a ∧ DGet H a y (some v) ∧ Q v H
def DiR (y x : V) (H : Hp) (Q : VK) : Prop := ∃ a o, x = .ref a ∧ DGet H a y o ∧ Q (.bl o.isSome) H
def DnR (y x : V) (H : Hp) (Q : VK) : Prop := ∃ a o, x = .ref a ∧ DGet H a y o ∧ Q (.bl (!o.isSome)) H
theorem kw_dget (h : ta σ H fun x H1 => tb σ H1 fun y H2 => DgR x y H2 Q) : tDGet ta tb σ H Q := h
theorem kw_din (h : ta σ H fun y H1 => tb σ H1 fun x H2 => DiR y x H2 Q) : tDIn ta tb σ H Q := h
theorem kw_dnin (h : ta σ H fun y H1 => tb σ H1 fun x H2 => DnR y x H2 Q) : tDNotIn ta tb σ H Q := h
section
variable {α : Type} {R : Hp → V → α → Prop} {f : Pm.Dc α} {n : Nat} {i : Int} {m : α}
theorem q_dg (h : DcAt R H v f n) (e : f i = some m) (q : ∀ u, R H u m → Q u H) : DgR v (.int i) H Q := k_dg h e q
theorem q_di (h : DcAt R H v f n) (q : Q (.bl (f i).isSome) H) : DiR (.int i) v H Q := k_di (S := fun b => Q (.bl b) H) h q
theorem q_dn (h : DcAt R H v f n) (q : Q (.bl (!(f i).isSome)) H) : DnR (.int i) v H Q := k_di (S := fun b => Q (.bl (!b)) H) h q
theorem q_dk {a : Addr} {kvs : List (Key × V)} (h : Rd H a (.dK kvs)) (e : valV kvs (Sum.inl i) = some v) (q : Q v H) : DgR (.ref a) (.int i) H Q := ⟨a, v, rfl, .inl ⟨kvs, Sum.inl i, h, rfl, e.symm⟩, q⟩
end
/-- d.get(k, z) -/
def G2R (x : V) (H : Hp) (σ : L2.St) (tb tc : TE) (Q : VK) : Prop := ∃ a, x = .ref a ∧ IsD H a ∧ tb σ H fun y H2 => tc σ H2 fun z H3 => ∃ o, DGet H3 a y o ∧ Q (o.getD z) H3
theorem kw_get2 (h : ta σ H fun x H1 => G2R x H1 σ tb tc Q) : tDGet2 ta tb tc σ H Q := h
/-- a new thing -/
def NewR (o : HO) (H : Hp) (Q : VK) : Prop := ∀ p, H p = none → Q (.ref p) (upd H p o)
theorem NewR.mk {o : HO} (h : ∀ p H', H p = none → Same H H' → H' p = some o → Q (.ref p) H') : NewR o H Q := fun p hp => h p _ hp (sm_new hp) upd_same
/-- .. with the base that does not know what changes -/
theorem NewR.mkB {o : HO} (h : ∀ p, H p = none → Q (.ref p) (upd H p o)) : NewR o H Q := h
theorem kn_tup {ta : TA} (h : ta σ H fun xs H1 => xs.length ≤ sizeLine ∧ NewR (.tup xs) H1 Q) : tTup ta σ H Q := h
theorem kn_lst {ta : TA} (h : ta σ H fun xs H1 => xs.length ≤ sizeLine ∧ NewR (.lst xs) H1 Q) : tLst ta σ H Q := h
theorem kn_dnew (h : NewR (.dK []) H Q) : tDNewK σ H Q := h
def rLen (K : PySem.W.Frag) : List V → Hp → VK → Prop := fun xs H Q => ∃ p ys, xs = [.ref p] ∧ (SqL K H p ys ∨ SqT K H p ys) ∧ Q (.int ys.length) H
theorem cx_len {X : Cx} : CallR X (.builtin "len") (rLen X.K) := call_len_seq
theorem k_lnT {a : Addr} {xs : List V} (h : SqT K H a xs) (q : Q (.int xs.length) H) : rLen K [.ref a] H Q := ⟨a, xs, rfl, .inr h, q⟩
theorem k_lnL {a : Addr} {xs : List V} (h : SqL K H a xs) (q : Q (.int xs.length) H) : rLen K [.ref a] H Q := ⟨a, xs, rfl, .inl h, q⟩
def rLenS : List V → Hp → VK → Prop := fun xs H Q => ∃ z, xs = [.str z] ∧ z.length ≤ sizeLine ∧ Q (.int z.length) H
theorem cx_lenS {X : Cx} : CallR X (.builtin "len") rLenS := call_len_str
theorem k_lnS {z : Str} (h : z.length ≤ sizeLine) (q : Q (.int z.length) H) : rLenS [.str z] H Q := ⟨z, rfl, h, q⟩
def rAbs : List V → Hp → VK → Prop := fun xs H Q => ∃ i, xs = [.int i] ∧ Q (.int (if i < 0 then -i else i)) H
theorem cx_abs {X : Cx} : CallR X (.builtin "abs") rAbs := call_abs
theorem k_abs {i : Int} (q : Q (.int (if i < 0 then -i else i)) H) : rAbs [.int i] H Q := ⟨i, rfl, q⟩
def rMx : List V → Hp → VK → Prop := fun xs H Q => ∃ i j, xs = [.int i, .int j] ∧ Q (.int (if j > i then j else i)) H
theorem cx_max {X : Cx} (hc : X.calm = true) : CallR X (.builtin "max") rMx := call_max2 hc
theorem k_mx {i j : Int} (q : Q (.int (if j > i then j else i)) H) : rMx [.int i, .int j] H Q := ⟨i, j, rfl, q⟩
def rMn : List V → Hp → VK → Prop := fun xs H Q => ∃ i j, xs = [.int i, .int j] ∧ Q (.int (if j < i then j else i)) H
theorem cx_min {X : Cx} (hc : X.calm = true) : CallR X (.builtin "min") rMn := call_min2 hc
theorem k_mn {i j : Int} (q : Q (.int (if j < i then j else i)) H) : rMn [.int i, .int j] H Q := ⟨i, j, rfl, q⟩
def rInt1 : List V → Hp → VK → Prop := fun xs H Q => (∃ i, xs = [.int i] ∧ Q (.int i) H) ∨ ∃ k, xs = [.bl k] ∧ Q (.int (if k then 1 else 0)) H
theorem cx_int {X : Cx} : CallR X (.type "int") rInt1 := call_int1
theorem k_intI {i : Int} (q : Q (.int i) H) : rInt1 [.int i] H Q := .inl ⟨i, rfl, q⟩
theorem k_intB {b : Bool} (q : Q (.int (if b then 1 else 0)) H) : rInt1 [.bl b] H Q := .inr ⟨b, rfl, q⟩
def rListOf (K : PySem.W.Frag) : List V → Hp → VK → Prop := fun xs H Q => ∃ p ys, xs = [.ref p] ∧ (SqL K H p ys ∨ SqT K H p ys) ∧ NewR (.lst ys) H Q
theorem cx_list {X : Cx} : CallR X (.type "list") (rListOf X.K) := call_list_of
theorem k_listT {a : Addr} {xs : List V} (h : SqT K H a xs) (q : NewR (.lst xs) H Q) : rListOf K [.ref a] H Q := ⟨a, xs, rfl, .inr h, q⟩
theorem k_listL {a : Addr} {xs : List V} (h : SqL K H a xs) (q : NewR (.lst xs) H Q) : rListOf K [.ref a] H Q := ⟨a, xs, rfl, .inl h, q⟩
def rTupOf (K : PySem.W.Frag) : List V → Hp → VK → Prop := fun xs H Q => ∃ p ys, xs = [.ref p] ∧ ((SqL K H p ys ∧ NewR (.tup ys) H Q) ∨ (SqT K H p ys ∧ Q (.ref p) H))
theorem cx_tuple {X : Cx} : CallR X (.type "tuple") (rTupOf X.K) := call_tuple_of
theorem k_tupL {a : Addr} {xs : List V} (h : SqL K H a xs) (q : NewR (.tup xs) H Q) : rTupOf K [.ref a] H Q := ⟨a, xs, rfl, .inl ⟨h, q⟩⟩
def rDictP (K : PySem.W.Frag) : List V → Hp → VK → Prop := fun xs H Q => ∃ (a : Addr) (ps : List Addr) (kvs : List (Key × V)), xs = [.ref a] ∧ SqL K H a (ps.map V.ref) ∧ Paired (fun p kv => SqT K H p [kV kv.1, kv.2]) ps kvs ∧ NewR (.dK (mergeK [] kvs)) H Q
theorem cx_dictP {X : Cx} (hc : X.calm = true) : CallR X (.type "dict") (rDictP X.K) := call_dictP hc
def rDictD : List V → Hp → VK → Prop := fun xs H Q => ∃ (a : Addr) (kvs : List (Key × V)), xs = [.ref a] ∧ Rd H a (.dK kvs) ∧ NewR (.dK kvs) H Q
theorem cx_dictD {X : Cx} : CallR X (.type "dict") rDictD := call_dictD
theorem k_dictD {a : Addr} {kvs : List (Key × V)} (h : Rd H a (.dK kvs)) (q : NewR (.dK kvs) H Q) : rDictD [.ref a] H Q := ⟨a, kvs, rfl, h, q⟩
def rSortDI : List V → Hp → VK → Prop := fun xs H Q => ∃ (a : Addr) (kvs : List (Key × V)) (ks : List Int), xs = [.ref a] ∧ Rd H a (.dK kvs) ∧ kvs.map (·.1) = ks.map Sum.inl ∧ ks.length < 64 ∧
    ∀ (ys : List Int) (p : Addr), ys.Perm ks → ys.Pairwise (· ≤ ·) → H p = none → Q (.ref p) (upd H p (.lst (ys.map V.int)))
theorem cx_sortDI {X : Cx} (hc : X.calm = true) : CallR X (.builtin "sorted") rSortDI := call_sortedDI hc
theorem k_sortDI {a : Addr} {kvs : List (Key × V)} {ks : List Int} (h : Rd H a (.dK kvs)) (hk : kvs.map (·.1) = ks.map Sum.inl) (hl : ks.length < 64) (q : ∀ (ys : List Int) (p : Addr) (H' : Hp), ys.Perm ks → ys.Pairwise (· ≤ ·) → H p = none → Same H H' → H' p = some (.lst (ys.map V.int)) → Q (.ref p) H') : rSortDI [.ref a] H Q :=
  ⟨a, kvs, ks, rfl, h, hk, hl, fun ys p h1 h2 h3 => q ys p _ h1 h2 h3 (sm_new h3) upd_same⟩
theorem k_sorted {a : Addr} {ns : List Int} (h : SqL K H a (ns.map V.int)) (hl : ns.length < 64) (q : ∀ (ys : List Int) (p : Addr) (H' : Hp), ys.Perm ns → ys.Pairwise (· ≤ ·) → H p = none → Same H H' → H' p = some (.lst (ys.map V.int)) → Q (.ref p) H') : rSorted K [.ref a] H Q :=
  ⟨a, ns, rfl, h, hl, fun ys p h1 h2 h3 => q ys p _ h1 h2 h3 (sm_new h3) upd_same⟩
def rInSg : R2 := fun x y H Q => ∃ (c : Nat) (z : Str), x = .str ⟨#[c]⟩ ∧ y = .str z ∧ Q (.bl (decide (c ∈ z.cps.toList))) H
theorem ox_inSg {X : Cx} : OpR X (compareOp .In) rInSg := op_in_sign
def rIsN1 : R2 := fun x y H Q => y = .non ∧ Q (.bl (decide (x = .non))) H
theorem ox_isN {X : Cx} : OpR X (compareOp .Is) rIsN1 := op_isN
theorem k_isN0 {a : Addr} (q : Q (.bl false) H) : rIsN1 (.ref a) .non H Q := ⟨rfl, by rw [decide_eq_false (fun z => nomatch z)]; exact q⟩
theorem k_isN1 (q : Q (.bl true) H) : rIsN1 .non .non H Q := ⟨rfl, by rw [decide_eq_true rfl]; exact q⟩
def rNotN1 : R2 := fun x y H Q => y = .non ∧ Q (.bl (!decide (x = .non))) H
theorem ox_notN {X : Cx} : OpR X (compareOp .IsNot) rNotN1 := op_notN
theorem k_notN0 (q : Q (.bl false) H) : rNotN1 .non .non H Q := ⟨rfl, by rw [decide_eq_true rfl]; exact q⟩
theorem k_notN1 {a : Addr} (q : Q (.bl true) H) : rNotN1 (.ref a) .non H Q := ⟨rfl, by rw [decide_eq_false (fun z => nomatch z)]; exact q⟩
/-- targets -/
theorem k_gtup {t : TGs} {n : Nat} {a : Addr} {xs : List V} {R : L2.St → Hp → Prop} (h : SqT K H a xs) (l : xs.length = n) (q : t xs σ H R) : gTup K n t (.ref a) σ H R := ⟨a, xs, rfl, h, l, q⟩
theorem k_gcons {t : TG} {u : TGs} {r : List V} {R : L2.St → Hp → Prop} (h : t v σ H fun σ' H' => u r σ' H' R) : gCons t u (v :: r) σ H R := ⟨v, r, rfl, h⟩
theorem k_gnil {R : L2.St → Hp → Prop} (h : R σ H) : gNil [] σ H R := ⟨rfl, h⟩
/-- in a comprehension's turn: the slots are put back -/
theorem k_and2 {R : Prop} {vs : List Nat} {σ2 : L2.St} (h : wipe σ2 vs = wipe σ vs) (q : R) : wipe σ2 vs = wipe σ vs ∧ R := ⟨h, q⟩
theorem k_yesT {R : Bool → Hp → Prop} (h : R true H) : tYes σ H R := h
/-- a list that is here changed -/
theorem k_bm {T : String} {r : V → List V → Hp → VK → Prop} {ta : TA} (h : te σ H fun x H1 => tyV K T x H1 ∧ ta σ H1 fun xs H2 => r x xs H2 Q) : tBM K T r te ta σ H Q := h
theorem k_app {l : Addr} {xs : List V} (h : H l = some (.lst xs)) (hl : xs.length < sizeLine) (q : Q .non (upd H l (.lst (xs ++ [y])))) : rAppend (.ref l) [y] H Q := ⟨l, xs, y, rfl, rfl, h, hl, q⟩
theorem k_ext {l b : Addr} {xs zs : List V} (h : H l = some (.lst xs)) (h2 : H b = some (.lst zs)) (hl : xs.length + zs.length ≤ sizeLine) (q : Q .non (upd H l (.lst (xs ++ zs)))) : rExtend (.ref l) [.ref b] H Q := ⟨l, b, xs, zs, rfl, rfl, h, h2, hl, q⟩
def StR (K : PySem.W.Frag) (x : V) (σ : L2.St) (H : Hp) (ta : TA) (R : List V → Hp → Prop) : Prop := ∃ p xs, x = V.ref p ∧ (SqT K H p xs ∨ SqL K H p xs) ∧ ta σ H fun ys H2 => R (xs ++ ys) H2
theorem k_star {ta : TA} {R : List V → Hp → Prop} (h : te σ H fun x H1 => StR K x σ H1 ta R) : StX.tStar K te ta σ H R := h
theorem k_stT {a : Addr} {xs : List V} {ta : TA} {R : List V → Hp → Prop} (h : SqT K H a xs) (q : ta σ H fun ys H2 => R (xs ++ ys) H2) : StR K (.ref a) σ H ta R := ⟨a, xs, rfl, .inl h, q⟩
theorem k_stL {a : Addr} {xs : List V} {ta : TA} {R : List V → Hp → Prop} (h : SqL K H a xs) (q : ta σ H fun ys H2 => R (xs ++ ys) H2) : StR K (.ref a) σ H ta R := ⟨a, xs, rfl, .inr h, q⟩
theorem k_cat {l b : Addr} {xs zs : List V} (h : H l = some (.lst xs)) (h2 : H b = some (.lst zs)) (hl : xs.length + zs.length ≤ sizeLine) (q : NewR (.lst (xs ++ zs)) H Q) : rCat (.ref l) (.ref b) H Q := ⟨l, b, xs, zs, rfl, rfl, h, h2, hl, q⟩
theorem k_catA {l b : Addr} {xs zs : List V} (h : SqT K H l xs) (h2 : SqT K H b zs) (hl : xs.length + zs.length ≤ sizeLine) (q : ∀ p H', Same H H' → SqT K H' p (xs ++ zs) → Q (.ref p) H') : rCatA K (.ref l) (.ref b) H Q := by
  refine ⟨l, b, xs, zs, rfl, rfl, h, h2, hl, fun e => q b H (Same.refl _) (by rw [e]; exact h2), fun _ e => q l H (Same.refl _) (by rw [e, List.append_nil]; exact h), fun _ _ p hp => q p _ (sm_new hp) (.inl (.inl upd_same))⟩
/-- dicts -/
theorem k_dgetE {a : Addr} {o : Option V} (g : DGet H a y o) (e : o = some v) (q : Q v H) : ∃ c u, V.ref a = .ref c ∧ DGet H c y (some u) ∧ Q u H := ⟨a, v, rfl, e ▸ g, q⟩
theorem dget_rd {a : Addr} {kvs : List (Key × V)} {i : Int} (h : Rd H a (.dK kvs)) : DGet H a (.int i) (valV kvs (Sum.inl i)) := .inl ⟨kvs, Sum.inl i, h, rfl, rfl⟩
theorem k_g2 {α : Type} {R : Hp → V → α → Prop} {f : Pm.Dc α} {n : Nat} {S : V → Prop} (h : DcAt R H v f n) {i : Int} (q : ∀ o, OR (R H) o (f i) → S (o.getD z)) : ∃ a, v = .ref a ∧ IsD H a ∧ ∃ o, DGet H a (.int i) o ∧ S (o.getD z) := by
  obtain ⟨a, o, rfl, d, g, r⟩ := h.find i
  exact ⟨a, rfl, d, o, g, q o r⟩
/-- every value is True -/
theorem lc_true {J : It} {n : Nat} {G : Hp → Prop} {Y : Nat → Hp → V → Hp → Prop} {tt : TT} {vs : List Nat} {H1 : Hp} (w : Walk J n G Y) (hz : n ≤ 1000000) (hG : ∀ H', Same H1 H' → G H')
    (turn : ∀ (i : Nat) v Ha Hb, i < n → Same H1 Ha → Y i Ha v Hb → ∀ (Ky : V → Hp → Prop) (Kn : Hp → Prop), (∀ H', Same Ha H' → Ky (.bl true) H') →
      g v (wipe σ vs) Hb fun σ2 H2 => wipe σ2 vs = wipe σ vs ∧ tt σ2 H2 fun b H3 => if b = true then te σ2 H3 Ky else Kn H3)
    (q : ∀ D H', H1 D = none → Same H1 H' → H' D = some (.lst ((List.replicate n true).map V.bl)) → Q (.ref D) H') : LcGo J g tt te vs σ H1 Q := by
  refine lc_val w (List.range n) (fun _ => true) (fun _ => .bl true) List.length_range hz hG (fun i x v Ha Hb hx e y Ky Kn ky kn => ?_) fun D H' hD e hl => ?_
  · have hi : i < n := by
      rcases Nat.lt_or_ge i n with z | z
      · exact z
      · rw [List.getElem?_eq_none (by rw [List.length_range]; exact z)] at hx; cases hx
    exact turn i v Ha Hb hi e y Ky Kn fun H' e' => ky H' e' rfl
  · refine q D H' hD e ?_
    rw [hl, List.filter_eq_self.mpr fun _ _ => rfl]
    have : ∀ k, (List.range k).map (fun _ => V.bl true) = (List.replicate k true).map V.bl := fun k => by
      rw [List.map_replicate]
      apply List.ext_getElem <;> simp
    rw [this]
theorem k_allT {l : Addr} {n : Nat} (h : H l = some (.lst ((List.replicate n true).map V.bl))) (q : Q (.bl true) H) : rAll K [.ref l] H Q := by
  refine k_all (.inl (.inl h)) ?_
  have : (List.replicate n true).all id = true := by simp
  rw [this]; exact q
end
/-! the rules with K as it is called here -/
section
variable {X : Cx} {K : PySem.W.Frag} {e l : Expr} {es : List Expr} {te tl : TE} {ta : TA} {pos apos : Pos} {f : Str}
theorem kx_ix (hK : X.K = K := by rfl) : IxR X (rIxT K) := by subst hK; exact ix_tup
theorem kx_ixL (hK : X.K = K := by rfl) : IxR X (rIxL K) := by subst hK; exact ix_list
theorem kx_len (hK : X.K = K := by rfl) : CallR X (.builtin "len") (rLen K) := by subst hK; exact cx_len
theorem kx_in (hK : X.K = K := by rfl) : OpR X (compareOp .In) (rIn K false) := by subst hK; exact op_in_seq
theorem kx_nin (hK : X.K = K := by rfl) : OpR X (compareOp .NotIn) (rIn K true) := by subst hK; exact op_notIn_seq
theorem kx_gtup {t : TGs} {n k : Nat} (hc : X.calm = true) (h : PGs X es t) (hK : X.K = K := by rfl) (hn : (assignEach es X.env).length = n := by rfl) (hst : (assignEach es X.env).findIdx? (·.1) = none := by rfl) : PG X (.Tuple es k pos) (gTup K n t) := by subst hK; exact pg_tup hc h hn hst
theorem kx_slot (he : PE X e te) (hK : X.K = K := by rfl) (hb : attributeBase e f X.env (eval e X.env) = eval e X.env := by rfl) : PE X (.Attribute e f pos) (SlX.tSl K te f) := by subst hK; exact SlX.pe_sl he hb
theorem kx_slT (hK : X.K = K := by rfl) : L2.SlR X (rSlA K) := by subst hK; exact sl_tupA
theorem kx_slL (hK : X.K = K := by rfl) : L2.SlR X (rSlL K) := by subst hK; exact sl_list
theorem kx_tup {tg : Expr} (hl : PE X l tl) (hK : X.K = K := by rfl) : PI X tg l (iTup K tl) := by subst hK; exact pi_tup hl
theorem kx_list {tg : Expr} (hl : PE X l tl) (hK : X.K = K := by rfl) : PI X tg l (iList K tl) := by subst hK; exact pi_list hl
theorem kx_all (hc : X.calm = true) (hK : X.K = K := by rfl) : CallR X (.builtin "all") (rAll K) := by subst hK; exact cr_all hc
theorem kx_isi (hK : X.K = K := by rfl) : CallR X (.builtin "isinstance") (rIsi K) := by subst hK; exact call_isi
theorem kx_listOf (hK : X.K = K := by rfl) : CallR X (.type "list") (rListOf K) := by subst hK; exact cx_list
theorem kx_tupOf (hK : X.K = K := by rfl) : CallR X (.type "tuple") (rTupOf K) := by subst hK; exact cx_tuple
theorem kx_dictP (hc : X.calm = true) (hK : X.K = K := by rfl) : CallR X (.type "dict") (rDictP K) := by subst hK; exact cx_dictP hc
theorem kx_sorted (hK : X.K = K := by rfl) : CallR X (.builtin "sorted") (rSorted K) := by subst hK; exact cr_sorted
theorem kx_max (hc : X.calm = true) (hK : X.K = K := by rfl) : CallR X (.builtin "max") (rMax K) := by subst hK; exact cr_max hc
theorem kx_maxP (hc : X.calm = true) (hu : X.A.units + 64 < cLine) (hK : X.K = K := by rfl) : CallR X (.builtin "max") (rMaxP K) := by subst hK; exact cr_maxP hc hu
theorem kx_eq3 (hu : X.A.units + 64 < cLine) (hK : X.K = K := by rfl) : OpR X (compareOp .Eq) (rEq3 K) := by subst hK; exact op_eq3 hu
theorem kx_ne3 (hu : X.A.units + 64 < cLine) (hK : X.K = K := by rfl) : OpR X (compareOp .NotEq) (rNe3 K) := by subst hK; exact op_ne3 hu
theorem kx_eqE (hu : X.A.units + 64 < cLine) (hK : X.K = K := by rfl) : OpR X (compareOp .Eq) (rEqE K id) := by subst hK; exact op_eqE hu
theorem kx_neE (hu : X.A.units + 64 < cLine) (hK : X.K = K := by rfl) : OpR X (compareOp .NotEq) (rEqE K not) := by subst hK; exact op_neE hu
theorem kx_catA (hK : X.K = K := by rfl) : OpR X (binaryOp .Add) (rCatA K) := by subst hK; exact op_catA
theorem kx_setTup (hc : X.calm = true) (hK : X.K = K := by rfl) : CallR X (.type "set") (rSetTup K X.w) := by subst hK; exact cr_setTup hc
theorem kx_zip {e2 : Expr} {p tpos : Pos} {elts : List Expr} {kk : Nat} (hg : Gl X "zip") (hm : X.mg "zip" = none) (ha : PA X [e, e2] ta) (hK : X.K = K := by rfl)
    (hs : starEach [e, e2] X.env = (false, eval e X.env) :: starEach [e2] X.env := by rfl) (hpl : (backTo pos (starEach [e2] X.env)).any (·.1) = false := by rfl) :
    PI X (.Tuple elts kk tpos) (.Call (.Name "zip" p) [e, e2] [] pos) (RZ.iZipA K ta) := by subst hK; exact RZ.pi_zipA hg hm ha hs hpl
theorem kx_star {p : Pos} (he : PE X e te) (hr : PA X es ta) (hK : X.K = K := by rfl) (hs : starEach (.Starred e p :: es) X.env = (true, eval e X.env) :: starEach es X.env := by rfl) : PA X (.Starred e p :: es) (StX.tStar K te ta) := by subst hK; exact StX.pa_star he hr hs
theorem kx_bm {o : Expr} {to : TE} {t : TA} {name : Str} {cpos : Pos} {T id : String} {r : V → List V → Hp → VK → Prop} (pa : PlainAttrs T) (slot : Slot T name id) (hty : typeOf (.builtin id) = pure (.type "method_descriptor")) (hm : MtM X id r) (ho : PE X o to) (ha : PA X (e :: es) t) (hK : X.K = K := by rfl)
    (hbase : attributeBase o name X.env (eval o X.env) = eval o X.env := by rfl)
    (hfew : ((backTo cpos (starEach (e :: es) X.env)).all (fun x => !x.1) && (backToKw cpos (keywordEach [] X.env)).all (fun x => x.1.isSome)
      && decide ((e :: es).length + ([] : List Keyword).length + (if ([] : List Keyword).isEmpty then 0 else 1) < 30)) = true := by rfl)
    (hline : (apos.endLine == cpos.line) = true := by rfl) (hs : starEach (e :: es) X.env = (false, eval e X.env) :: starEach es X.env := by rfl) (hplain : (backTo cpos (starEach es X.env)).any (·.1) = false := by rfl) :
    PE X (.Call (.Attribute o name apos) (e :: es) [] cpos) (tBM K T r to t) := by subst hK; exact pe_bm pa slot hty hm ho ha hbase hfew hline hs hplain
end
end Hm

namespace Hm
open PySem PySem.Spec PyProof.Rows L2 Rx RZ
/-! Ks3: the picture's slots; what a dict holds, item by item. -/
structure Cls (K : PySem.W.Frag) (a : Adr) : Prop where
  sP : SlX.SCls K a.cp
  p_circle : ∃ p, SlX.Slot1 K a.cp "own_circle" p 0
  p_firsts : ∃ p, SlX.Slot1 K a.cp "own_firsts" p 1
  p_promised : ∃ p, SlX.Slot1 K a.cp "own_promised" p 2
  p_rows : ∃ p, SlX.Slot1 K a.cp "own_rows" p 3
  p_votes : ∃ p, SlX.Slot1 K a.cp "own_votes" p 4
  sK : SlX.SCls K a.ck
  k_parts : ∃ p, SlX.Slot1 K a.ck "own_parts" p 0
def PSl (a : Adr) (H : Hp) (x vc vf vp vr vv : V) : Prop := ∃ ad dx, x = .ref ad ∧ SlX.Slt H ad a.cp dx [some vc, some vf, some vp, some vr, some vv]
def SlRd (K : PySem.W.Frag) (x : V) (f : Str) (H : Hp) (Q : VK) : Prop := ∃ a C dx p vs i v, x = .ref a ∧ SlX.Slt H a C dx vs ∧ SlX.SCls K C ∧ SlX.Slot1 K C f p i ∧ vs[i]? = some (some v) ∧ Q v H
section
variable {K : PySem.W.Frag} {a : Adr} {σ : L2.St} {H H' : Hp} {te : TE} {Q : VK} {x vc vf vp vr vv : V} {s : Pm.St} {n : Nat}
theorem PSl.mono (e : Same H H') (h : PSl a H x vc vf vp vr vv) : PSl a H' x vc vf vp vr vv := by
  obtain ⟨ad, dx, rfl, h⟩ := h
  exact ⟨ad, dx, rfl, sm_slt e h⟩
theorem PSl.of (h : PPic K a.cp H x s n) : ∃ vc vf vp vr vv, PSl a H x vc vf vp vr vv ∧ Parts K H vc vp vr vf vv s n := by
  obtain ⟨ad, dx, vc, vp, vr, vf, vv, rfl, h, p⟩ := h
  exact ⟨vc, vf, vp, vr, vv, ⟨ad, dx, rfl, h⟩, p⟩
theorem PSl.pic (h : PSl a H x vc vf vp vr vv) (p : Parts K H vc vp vr vf vv s n) : PPic K a.cp H x s n := by
  obtain ⟨ad, dx, rfl, h⟩ := h
  exact ⟨ad, dx, vc, vp, vr, vf, vv, rfl, h, p⟩
theorem kw_slot {f : Str} (h : te σ H fun x H1 => SlRd K x f H1 Q) : SlX.tSl K te f σ H Q := h
theorem q_circle (C : Cls K a) (h : PSl a H x vc vf vp vr vv) (q : Q vc H) : SlRd K x "own_circle" H Q := by
  obtain ⟨ad, dx, rfl, h⟩ := h
  obtain ⟨p, hp⟩ := C.p_circle
  exact ⟨ad, _, dx, p, _, 0, vc, rfl, h, C.sP, hp, rfl, q⟩
theorem q_firsts (C : Cls K a) (h : PSl a H x vc vf vp vr vv) (q : Q vf H) : SlRd K x "own_firsts" H Q := by
  obtain ⟨ad, dx, rfl, h⟩ := h
  obtain ⟨p, hp⟩ := C.p_firsts
  exact ⟨ad, _, dx, p, _, 1, vf, rfl, h, C.sP, hp, rfl, q⟩
theorem q_promised (C : Cls K a) (h : PSl a H x vc vf vp vr vv) (q : Q vp H) : SlRd K x "own_promised" H Q := by
  obtain ⟨ad, dx, rfl, h⟩ := h
  obtain ⟨p, hp⟩ := C.p_promised
  exact ⟨ad, _, dx, p, _, 2, vp, rfl, h, C.sP, hp, rfl, q⟩
theorem q_rows (C : Cls K a) (h : PSl a H x vc vf vp vr vv) (q : Q vr H) : SlRd K x "own_rows" H Q := by
  obtain ⟨ad, dx, rfl, h⟩ := h
  obtain ⟨p, hp⟩ := C.p_rows
  exact ⟨ad, _, dx, p, _, 3, vr, rfl, h, C.sP, hp, rfl, q⟩
theorem q_votes (C : Cls K a) (h : PSl a H x vc vf vp vr vv) (q : Q vv H) : SlRd K x "own_votes" H Q := by
  obtain ⟨ad, dx, rfl, h⟩ := h
  obtain ⟨p, hp⟩ := C.p_votes
  exact ⟨ad, _, dx, p, _, 4, vv, rfl, h, C.sP, hp, rfl, q⟩
end
theorem k_mul {g : Int → Int → V} {i j : Int} {H : Hp} {Q : VK} (h : (-18446744073709551616 < i ∧ i < 18446744073709551616) ∨ (-18446744073709551616 < j ∧ j < 18446744073709551616)) (q : Q (g i j) H) : rI CMul g (.int i) (.int j) H Q := by
  refine k_rI ?_ q
  unfold CMul
  have e : (2 : Int) ^ 64 = 18446744073709551616 := by decide
  rw [e]; exact h
theorem k_mod {g : Int → Int → V} {i j : Int} {H : Hp} {Q : VK} (h : j ≠ 0) (q : Q (g i j) H) : rI (fun _ j => j ≠ 0) g (.int i) (.int j) H Q := k_rI (C := fun _ j => j ≠ 0) h q
theorem k_div {g : Int → Int → V} {i j : Int} {H : Hp} {Q : VK} (h : j ≠ 0) (h2 : j.natAbs < 1073741824) (q : Q (g i j) H) : rI CDivN g (.int i) (.int j) H Q := k_rI (C := CDivN) ⟨h, h2⟩ q
theorem q_g2 {α : Type} {R : Hp → V → α → Prop} {f : Pm.Dc α} {n i : Nat} {k : Int} {H : Hp} {v z : V} {σ : L2.St} {Q : VK} (h : DcAt R H v f n) (hb : σ[i]? = some (some (.int k))) (q : ∀ o, OR (R H) o (f k) → Q (o.getD z) H) : G2R v H σ (tVar i) (tC z) Q := by
  obtain ⟨a, o, rfl, d, g, r⟩ := h.find k
  exact ⟨a, rfl, d, .int k, hb, o, g, q o r⟩
theorem q_g2T {α : Type} {R : Hp → V → α → Prop} {f : Pm.Dc α} {n i : Nat} {k : Int} {H : Hp} {v : V} {σ : L2.St} {Q : VK} (mono : ∀ {H H' : Hp} {v : V} {x : α}, Same H H' → R H v x → R H' v x) (h : DcAt R H v f n) (hb : σ[i]? = some (some (.int k))) (q : ∀ o p H', H p = none → Same H H' → H' p = some (.tup []) → OR (R H') o (f k) → Q (o.getD (.ref p)) H') : G2R v H σ (tVar i) (tTup tNil) Q := by
  obtain ⟨a, o, rfl, d, g, r⟩ := h.find k
  refine ⟨a, rfl, d, .int k, hb, ?_⟩
  refine ⟨by rw [sizeLine_eq]; decide, fun p hp => ?_⟩
  obtain ⟨a2, o2, e2, d2, g2, r2⟩ := (DcAt.mono (R := R) (fun e z => mono e z) (sm_new hp) h).find k
  cases e2
  exact ⟨o2, g2, q o2 p _ hp (sm_new hp) upd_same r2⟩
/-! dicts, item by item -/
section
variable {α : Type} {R : V → α → Prop} {kvs kvs' : List (Key × V)} {f : Pm.Dc α} {n m : Nat}
theorem Cont.item (c : Cont R kvs f n) {i : Nat} {k : Key} {v : V} (h : kvs[i]? = some (k, v)) : ∃ t x, k = Sum.inl t ∧ f t = some x ∧ R v x := by
  have hm := List.mem_of_getElem? h
  obtain ⟨t, rfl⟩ := c.ki _ hm
  have hv := val_nodup c.nd _ hm
  have r := c.val t
  have hv' : valV kvs (Sum.inl t : Key) = some v := hv
  rw [hv'] at r
  cases e : f t with
  | none => rw [e] at r; exact r.elim
  | some x => rw [e] at r; exact ⟨t, x, rfl, e, r⟩
theorem Cont.at (c : Cont R kvs f n) {t : Int} {x : α} (h : f t = some x) : ∃ (i : Nat) (v : V), kvs[i]? = some (Sum.inl t, v) ∧ R v x := by
  have r := c.val t
  rw [h] at r
  obtain ⟨v, hv, r⟩ := r.some_of
  have hm := valV_in hv
  obtain ⟨p, hp, e⟩ := List.mem_map.mp hm
  have h2 := val_nodup c.nd p hp
  rw [e, hv] at h2
  obtain ⟨i, hi, e2⟩ := List.getElem_of_mem hp
  have e3 : p = (Sum.inl t, v) := by
    obtain ⟨a, b⟩ := p
    simp only at e h2
    rw [e, Option.some.inj h2]
  exact ⟨i, v, by rw [List.getElem?_eq_getElem hi, e2, e3], r⟩
theorem Cont.keys (c : Cont R kvs f n) : ∃ ks : List Int, kvs.map (·.1) = ks.map Sum.inl ∧ ks.Nodup ∧ (∀ t, t ∈ ks ↔ (f t).isSome = true) ∧ ks.length ≤ n := by
  have key : ∀ l : List (Key × V), (∀ p ∈ l, ∃ i, p.1 = Sum.inl i) → ∃ ks : List Int, l.map (·.1) = ks.map Sum.inl := by
    intro l
    induction l with
    | nil => intro _; exact ⟨[], rfl⟩
    | cons a r ih =>
      intro h
      obtain ⟨i, hi⟩ := h a List.mem_cons_self
      obtain ⟨ks, hk⟩ := ih fun p hp => h p (List.mem_cons_of_mem _ hp)
      exact ⟨i :: ks, by rw [List.map_cons, List.map_cons, hk, hi]⟩
  obtain ⟨ks, hk⟩ := key kvs c.ki
  have hl : kvs.length = ks.length := by
    have := congrArg List.length hk
    simpa using this
  refine ⟨ks, hk, ?_, fun t => ?_, by have := c.len; omega⟩
  · have := c.nd
    rw [hk] at this
    exact List.Pairwise.of_map _ (fun a b h e => h (by rw [e])) this
  · have r := (c.val t).isSome
    rw [← r]
    constructor
    · intro h
      have : (Sum.inl t : Key) ∈ kvs.map (·.1) := by rw [hk]; exact List.mem_map.mpr ⟨t, h, rfl⟩
      obtain ⟨p, hp, e⟩ := List.mem_map.mp this
      have h2 := val_nodup c.nd p hp
      rw [e] at h2
      rw [h2]; rfl
    · intro h
      obtain ⟨v, hv⟩ := Option.isSome_iff_exists.mp h
      have := valV_in hv
      rw [hk] at this
      obtain ⟨j, hj, e⟩ := List.mem_map.mp this
      cases e
      exact hj
theorem Cont.perm (c : Cont R kvs f n) (p : kvs'.Perm kvs) : Cont R kvs' f n := by
  have nd : (kvs'.map (·.1)).Nodup := (p.map _).nodup_iff.mpr c.nd
  refine ⟨nd, fun q hq => c.ki q (p.mem_iff.mp hq), by rw [p.length_eq]; exact c.len, fun i => ?_⟩
  have e : valV kvs' (Sum.inl i : Key) = valV kvs (Sum.inl i) := by
    cases h : valV kvs (Sum.inl i : Key) with
    | none =>
      refine valV_none_of fun hm => ?_
      have hm' := (p.map (·.1)).mem_iff.mp hm
      obtain ⟨q, hq, e⟩ := List.mem_map.mp hm'
      have h2 := val_nodup c.nd q hq
      rw [e, h] at h2
      cases h2
    | some v =>
      have hm := (p.map (·.1)).mem_iff.mpr (valV_in h)
      obtain ⟨q, hq, e⟩ := List.mem_map.mp hm
      have h2 := val_nodup nd q hq
      rw [e] at h2
      have h3 := val_nodup c.nd q (p.mem_iff.mp hq)
      rw [e, h] at h3
      rw [h2, h3]
  rw [e]
  exact c.val i
theorem Cont.put (c : Cont R kvs f n) {t : Int} {v : V} {x : α} (r : R v x) (hn : n + 1 ≤ m) : Cont R (putK kvs (Sum.inl t) v) (Pm.up f t x) m := by
  have hv : ∀ i : Int, OR R (valV (putK kvs (Sum.inl t) v) (Sum.inl i)) (Pm.up f t x i) := fun i => by
    rw [valV_put]
    unfold Pm.up
    by_cases e : i = t
    · subst e; rw [if_pos rfl, if_pos rfl]; exact r
    · rw [if_neg (fun z => e (by cases z; rfl)), if_neg e]; exact c.val i
  have hl : (putK kvs (Sum.inl t) v).length ≤ m := by
    have : (putK kvs (Sum.inl t : Key) v).length ≤ kvs.length + 1 := by
      unfold putK
      split
      · rw [List.length_map]; omega
      · simp
    have := c.len
    omega
  cases h : valV kvs (Sum.inl t : Key) with
  | none =>
    refine ⟨nd_putK v c.nd h, fun p hp => ?_, hl, hv⟩
    rw [putK_new v h] at hp
    rcases List.mem_append.mp hp with hp | hp
    · exact c.ki p hp
    · exact ⟨t, by rw [List.mem_singleton.mp hp]⟩
  | some u =>
    have e : (putK kvs (Sum.inl t : Key) v) = kvs.map fun kv => if kv.1 = Sum.inl t then (kv.1, v) else kv := by
      unfold putK
      rw [valV_any, h, if_pos (show (some u).isSome = true from rfl)]
    have em : (putK kvs (Sum.inl t : Key) v).map (·.1) = kvs.map (·.1) := by
      rw [e, List.map_map]
      refine List.map_congr_left fun p _ => ?_
      show (if p.1 = Sum.inl t then (p.1, v) else p).1 = p.1
      split <;> rfl
    refine ⟨by rw [em]; exact c.nd, fun p hp => ?_, hl, hv⟩
    have : p.1 ∈ kvs.map (·.1) := by rw [← em]; exact List.mem_map.mpr ⟨p, hp, rfl⟩
    obtain ⟨q, hq, eq⟩ := List.mem_map.mp this
    obtain ⟨i, hi⟩ := c.ki q hq
    exact ⟨i, by rw [← eq, hi]⟩
/-- a key that is there is put over: no longer -/
theorem Cont.over (c : Cont R kvs f n) {t : Int} {v : V} {x : α} (r : R v x) (hs : (f t).isSome = true) : Cont R (putK kvs (Sum.inl t) v) (Pm.up f t x) n := by
  have g := c.put r (Nat.le_refl (n + 1)) (t := t)
  refine ⟨g.nd, g.ki, ?_, g.val⟩
  have h := (c.val t).isSome
  rw [hs] at h
  unfold putK
  rw [valV_any, if_pos h, List.length_map]
  exact c.len
theorem Cont.nil : Cont R [] (fun _ => none) n := ⟨List.nodup_nil, fun _ h => (nomatch h), Nat.zero_le _, fun _ => True.intro⟩
theorem Cont.more (c : Cont R kvs f n) (h : n ≤ m) : Cont R kvs f m := ⟨c.nd, c.ki, Nat.le_trans c.len h, c.val⟩
end
theorem DcAt.more {α : Type} {R : Hp → V → α → Prop} {H : Hp} {v : V} {f : Pm.Dc α} {n m : Nat} (h : DcAt R H v f n) (l : n ≤ m) : DcAt R H v f m := by
  obtain ⟨a, o, kvs, rfl, e, c⟩ := h
  exact ⟨a, o, kvs, rfl, e, c.more l⟩
end Hm

namespace Hm
open PySem PySem.Spec PyProof.Rows L2 Rx RZ
/-! Eqs: equal data is == -/
section
variable {K : PySem.W.Frag} {H : Hp} {v w : V}
theorem paired_mem {α β γ : Type} {F : α → β → Prop} {G : α → γ → Prop} {E : α → α → Prop} : ∀ {xs ys : List α} {zs : List β}, Paired F xs zs → Paired F ys zs → (∀ x y z, F x z → F y z → E x y) → Paired E xs ys
  | _, _, _, .nil, .nil, _ => .nil
  | _, _, _, .cons h t, .cons h' t', e => .cons (e _ _ _ h h') (paired_mem (G := G) t t' e)
theorem paired_take {α β : Type} {F : α → β → Prop} : ∀ {xs : List α} {ys : List β} (n : Nat), Paired F xs ys → Paired F (xs.take n) (ys.take n)
  | _, _, 0, _ => .nil
  | _, _, _ + 1, .nil => .nil
  | _, _, n + 1, .cons h t => .cons h (paired_take n t)
theorem paired_drop {α β : Type} {F : α → β → Prop} : ∀ {xs : List α} {ys : List β} (n : Nat), Paired F xs ys → Paired F (xs.drop n) (ys.drop n)
  | _, _, 0, h => h
  | _, _, _ + 1, .nil => .nil
  | _, _, n + 1, .cons _ t => paired_drop n t
theorem paired_refl {α : Type} {E : α → α → Prop} : ∀ (xs : List α), (∀ x ∈ xs, E x x) → Paired E xs xs
  | [], _ => .nil
  | x :: r, h => .cons (h x List.mem_cons_self) (paired_refl r fun y hy => h y (List.mem_cons_of_mem _ hy))
theorem eq_flat {n : Nat} {x : V} (h : flatB x = true) : EqV3 K H (n + 1) x x := .inl ⟨rfl, h⟩
theorem eq_flats {n : Nat} (xs : List V) (h : ∀ x ∈ xs, flatB x = true) : Paired (EqV3 K H (n + 1)) xs xs := paired_refl xs fun x hx => eq_flat (h x hx)
theorem eq_tup {n : Nat} {a b : Addr} {xs ys : List V} (ha : SqT K H a xs) (hb : SqT K H b ys) (p : Paired (EqV3 K H n) xs ys) : EqV3 K H (n + 1) (.ref a) (.ref b) := .inr (.inr (.inr (.inl ⟨a, b, xs, ys, rfl, rfl, ha, hb, p⟩)))
theorem flat_int (C : List Int) : ∀ x ∈ C.map V.int, flatB x = true := fun x hx => by
  obtain ⟨i, _, rfl⟩ := List.mem_map.mp hx
  rfl
theorem eq_cir {n : Nat} {C : List Int} (h : CirAt K H v C) (g : CirAt K H w C) : EqV3 K H (n + 2) v w := by
  obtain ⟨a, rfl, h⟩ := h
  obtain ⟨b, rfl, g⟩ := g
  exact eq_tup h g (eq_flats _ (flat_int C))
theorem eq_deed {n k : Nat} (h : DeedAt K H v k) (g : DeedAt K H w k) : EqV3 K H (n + 3) v w := by
  obtain ⟨a, rfl, h⟩ := h
  obtain ⟨b, rfl, g⟩ := g
  rcases h with ⟨rfl, h⟩ | ⟨rfl, h⟩ | ⟨rfl, c, h, h2⟩
  · rcases g with ⟨_, g⟩ | ⟨z, _⟩ | ⟨z, _⟩
    · exact eq_tup h g (eq_flats _ (by simp [flatB]))
    · omega
    · omega
  · rcases g with ⟨z, _⟩ | ⟨_, g⟩ | ⟨z, _⟩
    · omega
    · exact eq_tup h g (eq_flats _ (by simp [flatB]))
    · omega
  · rcases g with ⟨z, _⟩ | ⟨z, _⟩ | ⟨_, d, g, g2⟩
    · omega
    · omega
    · exact eq_tup h g (.cons (eq_flat rfl) (.cons (eq_tup h2 g2 (eq_flats _ (by simp [flatB]))) .nil))
theorem eq_ent {n : Nat} {e : Pm.En} (h : EntAt K H v e) (g : EntAt K H w e) : EqV3 K H (n + 4) v w := by
  obtain ⟨a, d, rfl, h, hd⟩ := h
  obtain ⟨b, d2, rfl, g, gd⟩ := g
  exact eq_tup h g (.cons (eq_flat rfl) (.cons (eq_flat rfl) (.cons (eq_deed hd gd) .nil)))
theorem eq_ents {n : Nat} {xs ys : List V} {r : List Pm.En} (h : Paired (EntAt K H) xs r) (g : Paired (EntAt K H) ys r) : Paired (EqV3 K H (n + 4)) xs ys := paired_mem (G := EntAt K H) h g fun _ _ _ a b => eq_ent a b
theorem eq_row {n : Nat} {r : List Pm.En} (h : RowAt K H v r) (g : RowAt K H w r) : EqV3 K H (n + 5) v w := by
  obtain ⟨a, xs, rfl, h, p⟩ := h
  obtain ⟨b, ys, rfl, g, p2⟩ := g
  exact eq_tup h g (eq_ents p p2)
/-- dicts of one content: of one length, too -/
theorem cont_len {α : Type} {R R' : V → α → Prop} {f : Pm.Dc α} {ks ls : List (Key × V)} {n m : Nat} (c : Cont R ks f n) (d : Cont R' ls f m) : ks.length = ls.length := by
  obtain ⟨k1, e1, nd1, m1, _⟩ := c.keys
  obtain ⟨k2, e2, nd2, m2, _⟩ := d.keys
  have p : k1.Perm k2 := (List.perm_ext_iff_of_nodup nd1 nd2).mpr fun t => by rw [m1, m2]
  have l1 := congrArg List.length e1
  have l2 := congrArg List.length e2
  simp only [List.length_map] at l1 l2
  rw [l1, l2, p.length_eq]
theorem eq_dict {α : Type} {R : Hp → V → α → Prop} {f : Pm.Dc α} {n m k : Nat} (hR : ∀ x y z, R H x z → R H y z → EqV3 K H k x y) (h : DcAt R H v f n) (g : DcAt R H w f m) : EqV3 K H (k + 1) v w := by
  obtain ⟨a, o, ks, rfl, ha, c⟩ := h
  obtain ⟨b, o2, ls, rfl, hb, d⟩ := g
  refine .inr (.inr (.inr (.inr ⟨a, b, ks, ls, rfl, rfl, .inr ⟨o, ha⟩, .inr ⟨o2, hb⟩, cont_len c d, fun p hp => ?_⟩)))
  obtain ⟨i, hi, e⟩ := List.getElem_of_mem hp
  obtain ⟨t, x, e1, e2, r⟩ := c.item (i := i) (k := p.1) (v := p.2) (by rw [List.getElem?_eq_getElem hi, e])
  have r2 := d.val t
  rw [e2] at r2
  obtain ⟨u, hu, r2⟩ := r2.some_of
  exact ⟨u, by rw [e1]; exact hu, hR _ _ _ r r2⟩
theorem eq_I {n m k : Nat} {f : Pm.Dc Int} (h : DcAt RI H v f n) (g : DcAt RI H w f m) : EqV3 K H (k + 2) v w := eq_dict (k := k + 1) (fun x y z hx hy => by cases hx; cases hy; exact eq_flat rfl) h g
end
end Hm

/-! Rul4: d.get(text, x) of a written dict -/
namespace Rx
open PySem PySem.Spec PyProof.Rows L2
def tKGet (K : PySem.W.Frag) (w : World) (td ty tx : TE) : TE := fun σ H Q => td σ H fun x H1 => ∃ a es n, x = .ref a ∧ KDict K w a es n ∧ ty σ H1 fun y H2 => tx σ H2 fun z H3 => ∃ nm u v, y = .str nm ∧ PySem.W.nsIn K a nm = some (some u) ∧ RelV v u ∧ Q v H3
theorem pe_kget {X : Cx} {o e f : Expr} {apos cpos : Pos} {td ty tx : TE} (ho : PE X o td) (he : PE X e ty) (hf : PE X f tx) (m : M2 X o "get" apos e f cpos) : PE X (.Call (.Attribute o "get" apos) [e, f] [] cpos) (tKGet X.K X.w td ty tx) := by
  refine ⟨fun pins s σ H Q I h => ?_⟩
  refine wpAny_Call_method m.base m.few m.line PySem.F.plainAttrs_dict PySem.F.slot_dict_get PySem.F.type_dict_get (thn (ho.run pins s σ H _ I h) fun u s1 ⟨x, H1, I1, rx, a, es, n, ex, D, q1⟩ => ?_)
  subst ex
  obtain rfl : u = Value.ref a := rx
  refine ⟨kd_type D I1, fun b q => ?_, ?_⟩
  · cases q
    exact ⟨_, I1.kIn _ _ D.at_, rfl⟩
  rw [m.trees]
  refine Calls.callWith_builtin rfl (Calls.evalArgs_plain (Calls.spliced_cons (thn (he.run pins s1 σ H1 _ I1 q1) fun iv s2 ⟨y, H2, I2, ry, q2⟩ =>
    Calls.spliced_cons (thn (hf.run pins s2 σ H2 _ I2 q2) fun fv s3 ⟨z, H3, I3, rz, nm, u0, v0, ey, hn, rv, q3⟩ => Calls.spliced_nil ?_))))
  subst ey
  obtain ⟨t, rfl⟩ := ry
  have mp := PySem.W.mapOf_K (prog := X.prog) (w := X.w) I3.kIn D.at_ D.lit
  refine call_meetsIn PySem.F.slot_dict_get (kd_type D I3) PySem.F.entry_dict_get (PySem.F.args_dict_get_3 _ _ _) (meets_dict_get_default (strKind X.prog X.w) a (PySem.strKind_is X.prog X.w nm t) D.low fv) ⟨_, mp, ?_⟩
  rw [PySem.W.find_K D.at_ hn]
  exact ⟨v0, H3, I3.tok _, rv, q3⟩
theorem kx_kget {X : Cx} {K : PySem.W.Frag} {w : World} {o e f : Expr} {apos cpos : Pos} {td ty tx : TE} (ho : PE X o td) (he : PE X e ty) (hf : PE X f tx) (m : M2 X o "get" apos e f cpos) (hK : X.K = K := by rfl) (hw : X.w = w := by rfl) : PE X (.Call (.Attribute o "get" apos) [e, f] [] cpos) (tKGet K w td ty tx) := by
  subst hK hw
  exact pe_kget ho he hf m
end Rx
namespace Hm
open PySem PySem.Spec PyProof.Rows L2 Rx
structure Txt2 (K : PySem.W.Frag) (w : World) (mg : Str → Option Value) (a : Adr) : Prop where
  c_ACTION_SIZES : ∃ u, mg "ACTION_SIZES" = some u ∧ RelV (.ref a.asz) u
  kd : ∃ es n, KDict K w a.asz es n
  s3 : ∀ z : Str, z = "promise" ∨ z = "lead" ∨ z = "append" → ∃ u, PySem.W.nsIn K a.asz z = some (some u) ∧ RelV (.int 3) u
  s4 : ∃ u, PySem.W.nsIn K a.asz "vote" = some (some u) ∧ RelV (.int 4) u
def KGR (K : PySem.W.Frag) (w : World) (x : V) (σ : L2.St) (H : Hp) (ty tx : TE) (Q : VK) : Prop := ∃ a es n, x = .ref a ∧ KDict K w a es n ∧ ty σ H fun y H2 => tx σ H2 fun z H3 => ∃ nm u v, y = .str nm ∧ PySem.W.nsIn K a nm = some (some u) ∧ RelV v u ∧ Q v H3
def KG2 (K : PySem.W.Frag) (a : Addr) (y : V) (H : Hp) (Q : VK) : Prop := ∃ nm u v, y = .str nm ∧ PySem.W.nsIn K a nm = some (some u) ∧ RelV v u ∧ Q v H
theorem kw_kget {K : PySem.W.Frag} {w : World} {td ty tx : TE} {σ : L2.St} {H : Hp} {Q : VK} (h : td σ H fun x H1 => KGR K w x σ H1 ty tx Q) : tKGet K w td ty tx σ H Q := h
theorem q_kget {K : PySem.W.Frag} {w : World} {mg : Str → Option Value} {a : Adr} {ty tx : TE} {σ : L2.St} {H : Hp} {Q : VK} (T2 : Txt2 K w mg a) (h : ty σ H fun y H2 => tx σ H2 fun _ H3 => KG2 K a.asz y H3 Q) : KGR K w (.ref a.asz) σ H ty tx Q := by
  obtain ⟨es, n, D⟩ := T2.kd
  exact ⟨_, es, n, rfl, D, h⟩
theorem q_kg3 {K : PySem.W.Frag} {w : World} {mg : Str → Option Value} {a : Adr} {H : Hp} {Q : VK} {z : Str} (T2 : Txt2 K w mg a) (hz : z = "promise" ∨ z = "lead" ∨ z = "append") (q : Q (.int 3) H) : KG2 K a.asz (.str z) H Q := by
  obtain ⟨u, h, r⟩ := T2.s3 z hz
  exact ⟨z, u, _, rfl, h, r, q⟩
theorem q_kg4 {K : PySem.W.Frag} {w : World} {mg : Str → Option Value} {a : Adr} {H : Hp} {Q : VK} (T2 : Txt2 K w mg a) (q : Q (.int 4) H) : KG2 K a.asz (.str "vote") H Q := by
  obtain ⟨u, h, r⟩ := T2.s4
  exact ⟨_, u, _, rfl, h, r, q⟩
end Hm

/-! Rul5: name = {k: v for ..} on one line, the name a local -/
namespace Rx
open PySem PySem.Spec PyProof.Rows L2
theorem ps_setDc {X : Cx} {i : Nat} {y : Str} {py : Pos} {kx vx tg iter : Expr} {ifs : List Expr} {scope : Scope} {own : List (Str × Nat)} {pos spos : Pos} {wi : TI} {g : TG} {tt : TT} {tk tv : TE} (hc : X.calm = true) (hN : X.N.Nodup) (hy : X.N[i]? = some y) (hyl : X.env.scope.names.lookup y = some .local)
    (hsw : swapsWith (.DictComp kx vx [⟨tg, iter, ifs, 0⟩] scope pos) (some (.Name y py)) spos.line X.env = pure true) (hi : PI X tg iter wi) (ok : BlkOk X.N X.env.scope scope own)
    (hg : ∀ (s : Shared) (H : Hp) (C : Addr) (cl : List (Str × Addr)) (fp : List Addr), PG (X.blk s H scope (compEnvC scope cl C X.env) fp) tg g) (ht : ∀ (s : Shared) (H : Hp) (C : Addr) (cl : List (Str × Addr)) (fp : List Addr), PTs (X.blk s H scope (compEnvC scope cl C X.env) fp) ifs tt)
    (hk : ∀ (s : Shared) (H : Hp) (C : Addr) (cl : List (Str × Addr)) (fp : List Addr), PE (X.blk s H scope (compEnvC scope cl C X.env) fp) kx tk)
    (he : ∀ (s : Shared) (H : Hp) (C : Addr) (cl : List (Str × Addr)) (fp : List Addr), PE (X.blk s H scope (compEnvC scope cl C X.env) fp) vx tv) (hs : ∀ x, foldedSetIterable iter X.env x = pure x := by intro _; rfl) :
    PS X (.Assign [.Name y py] (.DictComp kx vx [⟨tg, iter, ifs, 0⟩] scope pos) spos) (tAsg (tDc wi g tt tk tv (own.map (·.2))) (gName i)) := by
  refine ⟨fun pins s σ H D I h => ?_⟩
  rw [exec_Assign_Name_used _ _ _ _ hsw]
  refine wpAny_bind (wpAny_standAt (wpAny_bind ?_))
  show wpAny _ X.A (do let _ ← comprehension (.DictComp kx vx [⟨tg, iter, ifs, 0⟩] scope pos) scope X.env (firstIterPos [⟨tg, iter, ifs, 0⟩] pos) newDict false (eval iter X.env) (some (assign (.Name y py) X.env))) _ _ s
  have h : tDc wi g tt tk tv (own.map (·.2)) σ H (fun x H1 => gName i x σ H1 D.nx) := h
  refine wpAny_bind (thn (dc_core (Qf := fun _ s' => SP X pins D .next s') hc hN I hi ok hg ht hk he hs h fun L C s' m H' I' q hn f => ?_) fun _ s' hq => wpAny_pure (wpAny_pure hq))
  show wpAny _ _ (assign (.Name y py) X.env (.ref L)) _ _ _
  refine wpAny_assign_Name (store_ok2 (v := V.ref L) I' hN hy (.inl hyl) rfl (fun s2 I2 ⟨a, sb, ha⟩ => ?_) (.inr hyl))
  obtain ⟨f0, f1, f2, f3, f4, f5⟩ := f
  have haC : C ≠ a := by
    rcases ha with z | z
    · rw [z]; exact f1
    · exact fun e => f4 y a z e.symm
  refine ⟨m, hn.sameBut sb haC, fun h3 sb3 => ?_⟩
  exact ⟨_, H', I2.turned (t' := s2.toks) (fun b o hb e => (sb3.2 b hb).trans e) f0 f1 f3 f4 f5, q⟩
theorem sw_trueD {kx vx : Expr} {gs : List Comprehension} {scope : Scope} {pos py : Pos} {y : Str} {l : Nat} {env : Env} (hk : env.scope.kind = .function) (hy : env.scope.names.lookup y = some .local) (hl : (py.line == pos.line) = true)
    (ha : (scope.names.any fun (n, k) => n == y && (k == .local || k == .cell)) = false) : swapsWith (.DictComp kx vx gs scope pos) (some (.Name y py)) l env = pure true := by
  have ky : env.kindOf y = some .local := hy
  have hb : env.blockKind = .function := by unfold Env.blockKind; rw [hk]; rfl
  unfold swapsWith
  simp only [hb, ky, ha, Expr.pos, hl]
  rfl
end Rx

namespace Hm
open PySem PySem.Spec PyProof.Rows L2 Rx RZ
local macro_rules | `(tactic| walk_at "sm") => `(tactic| first
  | assumption
  | exact Same.refl _
  | (refine Same.trans ?_ (by assumption); walk_at "sm"))
local macro_rules | `(tactic| walk_at "fa") => `(tactic| first
  | assumption
  | exact Or.inl (Or.inl (by assumption))
  | (refine sm_T ?_ (by assumption); walk_at "sm")
  | (refine sm_L ?_ (by assumption); walk_at "sm")
  | (refine sm_T ?_ (Or.inl (Or.inl (by assumption))); walk_at "sm")
  | (refine sm_L ?_ (Or.inl (Or.inl (by assumption))); walk_at "sm"))
local macro_rules | `(tactic| walk_at "ps") => `(tactic| first | assumption | (refine PSl.mono ?_ (by assumption); walk_at "sm"))
local macro_rules | `(tactic| walk_at "ar") => `(tactic| first | omega | (simp only [List.length_cons, List.length_nil, List.length_map] <;> omega))
local macro_rules | `(tactic| walk_at "st") => `(tactic| first
  | ((with_reducible show tVar _ _ _ _); refine k_var (by rfl) ?_)
  | with_reducible refine k_op ?_
  | with_reducible refine k_cons ?_
  | with_reducible refine k_nil ?_
  | with_reducible refine k_c ?_
  | with_reducible refine k_seq ?_
  | with_reducible refine k_asg ?_
  | with_reducible refine k_gn ?_
  | with_reducible refine k_ret ?_
  | with_reducible refine k_rI0 ?_
  | with_reducible refine k_rU ?_
  | with_reducible refine k_un ?_
  | with_reducible refine k_if ?_
  | with_reducible refine k_ifx ?_
  | with_reducible refine k_test ?_
  | with_reducible refine k_B ?_
  | with_reducible refine k_and ?_
  | with_reducible refine k_or ?_
  | with_reducible refine k_not ?_
  | with_reducible refine k_andV ?_
  | with_reducible refine k_orV ?_
  | with_reducible refine k_notV ?_
  | with_reducible refine k_call ?_
  | with_reducible refine k_CB ?_
  | with_reducible refine kn_tup ?_
  | with_reducible refine kn_lst ?_
  | with_reducible refine k_drop ?_
  | with_reducible refine k_next ?_
  | with_reducible refine k_cont ?_
  | with_reducible refine k_par ?_
  | with_reducible refine kw_dget ?_
  | with_reducible refine kw_din ?_
  | with_reducible refine kw_dnin ?_
  | with_reducible refine kw_get2 ?_
  | with_reducible refine k_fz ?_
  | with_reducible refine k_lc ?_
  | with_reducible refine k_dc ?_
  | with_reducible refine k_for ?_
  | with_reducible refine kw_iTup ?_
  | with_reducible refine kw_iList ?_
  | with_reducible refine kw_iItems ?_
  | with_reducible refine kw_iKeys ?_
  | with_reducible refine kw_iStr ?_
  | with_reducible refine kw_iZip ?_
  | with_reducible refine k_chain ?_
  | with_reducible refine k_sl ?_
  | with_reducible refine k_noP ?_
  | with_reducible refine k_part ?_
  | with_reducible refine k_isiII ?_
  | with_reducible refine k_isiIB ?_
  | with_reducible refine k_isiSS ?_
  | with_reducible refine k_match ?_
  | with_reducible refine k_mtc0 ?_
  | with_reducible refine k_wS ?_
  | with_reducible refine k_abs ?_
  | with_reducible refine k_mx ?_
  | with_reducible refine k_mn ?_
  | with_reducible refine k_intI ?_
  | with_reducible refine k_intB ?_
  | with_reducible refine k_isN0 ?_
  | with_reducible refine k_isN1 ?_
  | with_reducible refine k_notN0 ?_
  | with_reducible refine k_notN1 ?_
  | with_reducible refine k_gcons ?_
  | with_reducible refine k_gnil ?_
  | with_reducible refine k_yesT ?_
  | with_reducible refine k_bm ?_
  | with_reducible refine k_star ?_
  | with_reducible refine kn_dnew ?_
  | with_reducible refine k_eqI ?_
  | with_reducible refine k_neI ?_
  | with_reducible refine k_bl ?_
  | with_reducible refine k_two ?_
  | with_reducible refine k_exI ?_
  | ((with_reducible show if _ then _ else _); with_reducible first | refine iteT ?_ | refine iteF ?_ | refine k_nT ?_ | refine k_nF ?_)
  | ((with_reducible show if decide _ = true then _ else _); first | refine k_dT (by walk_at "ar") ?_ | refine k_dF (by walk_at "ar") ?_)
  | ((with_reducible show if (!decide _) = true then _ else _); first | refine k_ndF (by walk_at "ar") ?_ | refine k_ndT (by walk_at "ar") ?_)
  | ((with_reducible show rEq (V.str _) (V.str _) _ _); first | refine k_eqS1 (by with_unfolding_all rfl) ?_ | refine k_eqS0 (by decide) ?_)
  | ((with_reducible show rNe (V.str _) (V.str _) _ _); first | refine k_neS1 (by with_unfolding_all rfl) ?_ | refine k_neS0 (by decide) ?_)
  | ((with_reducible show mtc _ (_ :: _) _ _ _); first | refine k_mtcY (by with_unfolding_all rfl) ?_ | refine k_mtcN (by decide) ?_)
  | ((with_reducible show rIxT _ (V.ref _) (V.int _) _ _); refine k_ixN (by walk_at "fa") (by decide) (by with_unfolding_all rfl) ?_)
  | ((with_reducible show rIxL _ (V.ref _) (V.int _) _ _); refine k_ixM (by walk_at "fa") (by decide) (by with_unfolding_all rfl) ?_)
  | ((with_reducible show rLen _ _ _ _); first | refine k_lnT (by walk_at "fa") ?_ | refine k_lnL (by walk_at "fa") ?_)
  | ((with_reducible show WTup _ _ _ _); refine k_wT (by walk_at "fa") ?_)
  | ((with_reducible show WList _ _ _ _); refine k_wL (by walk_at "fa") ?_)
  | ((with_reducible show WZip _ _ _ _); refine k_wZ (by walk_at "fa") (by walk_at "fa") ?_)
  | ((with_reducible show rIsi _ [V.ref _, V.ty "tuple"] _ _); refine k_isiT (by walk_at "fa") ?_)
  | ((with_reducible show rIn _ false _ _ _ _); refine k_inC (by walk_at "fa") ?_)
  | ((with_reducible show rIn _ true _ _ _ _); refine k_ninC (by walk_at "fa") ?_)
  | ((with_reducible show rEqE _ not _ _ _ _); first | refine k_neE1 (by walk_at "fa") (by walk_at "fa") ?_ | refine k_neEL (by walk_at "fa") (by walk_at "fa") ?_)
  | ((with_reducible show rEqE _ id _ _ _ _); refine k_eqEL (by walk_at "fa") (by walk_at "fa") ?_)
  | with_reducible refine And.intro (sz_le (Nat.le_of_ble_eq_true (by with_unfolding_all rfl))) ?_
  | ((with_reducible show _ ∧ _); with_reducible refine k_and2 (by with_unfolding_all rfl) ?_)
  | ((with_reducible show gTup _ _ _ _ _ _ _); refine k_gtup (by walk_at "fa") (by rfl) ?_)
  | ((with_reducible show rI CMul _ _ _ _ _); refine k_mul (by omega) ?_)
  | ((with_reducible show rI CDivN _ _ _ _ _); refine k_div (by decide) (by decide) ?_)
  | ((with_reducible show rI (fun _ j => j ≠ 0) _ _ _ _ _); refine k_mod (by first | decide | omega) ?_)
  | with_reducible refine kw_kget ?_
  | ((with_reducible show KGR _ _ _ _ _ _ _ _); refine q_kget (by assumption) ?_)
  | ((with_reducible show KG2 _ _ _ _ _); first | refine q_kg3 (by assumption) (by first | exact .inl rfl | exact .inr (.inl rfl) | exact .inr (.inr rfl)) ?_ | refine q_kg4 (by assumption) ?_)
  | with_reducible refine kw_slot ?_
  | ((with_reducible show SlRd _ _ _ _ _); first | refine q_circle (by assumption) (by walk_at "ps") ?_ | refine q_promised (by assumption) (by walk_at "ps") ?_ | refine q_rows (by assumption) (by walk_at "ps") ?_ | refine q_firsts (by assumption) (by walk_at "ps") ?_ | refine q_votes (by assumption) (by walk_at "ps") ?_)
  | ((with_reducible show StX.tStar _ _ _ _ _ _); with_reducible refine k_star ?_)
  | ((with_reducible show StR _ _ _ _ _ _); first | refine k_stT (by walk_at "fa") ?_ | refine k_stL (by walk_at "fa") ?_)
  | ((with_reducible show rListOf _ _ _ _); first | refine k_listT (by walk_at "fa") ?_ | refine k_listL (by walk_at "fa") ?_)
  | ((with_reducible show rTupOf _ _ _ _); refine k_tupL (by walk_at "fa") ?_))
local macro_rules | `(tactic| walk_at "go") => `(tactic| repeat walk_at "st")
/-! W1 -/
section
variable {P : Program} {w : World} {K : PySem.W.Frag} {mg : Str → Option Value} {base : Heap} {a : Adr}

theorem k_eqT1 {H : Hp} {Q : VK} {n : Int} (h : Q (.bl true) H) : rEq (.int n) (.int n) H Q := k_eqI (by rw [decide_eq_true rfl]; exact h)
/-- a call that answers yes -/
def sp_int : Sp := fun vs H Q _ => ∃ n : Int, vs = [.int n] ∧ -(10 ^ 60) < n ∧ n < 10 ^ 60 ∧ Q (.bl true) H
theorem u_int {H : Hp} {Q : VK} {E : XK} {n : Int} (h1 : -(10 ^ 60) < n) (h2 : n < 10 ^ 60) (q : Q (.bl true) H) : sp_int ([.int n] ++ []) H Q E := ⟨n, rfl, h1, h2, q⟩
def sp_from : Sp := fun vs H Q _ => ∃ n l m : Int, vs = [.int n, .int l, .int m] ∧ -(10 ^ 60) < n ∧ n < 10 ^ 60 ∧ l ≤ n ∧ n ≤ m ∧ Q (.bl true) H
theorem u_from {H : Hp} {Q : VK} {E : XK} {n l m : Int} (h1 : -(10 ^ 60) < n) (h2 : n < 10 ^ 60) (h3 : l ≤ n) (h4 : n ≤ m) (q : Q (.bl true) H) : sp_from ([.int n, .int l, .int m] ++ []) H Q E := ⟨n, l, m, rfl, h1, h2, h3, h4, q⟩
def sp_rng (lo hi : Int) : Sp := fun vs H Q _ => ∃ n : Int, vs = [.int n] ∧ lo ≤ n ∧ n ≤ hi ∧ Q (.bl true) H
theorem u_rng {H : Hp} {Q : VK} {E : XK} {n lo hi : Int} (h3 : lo ≤ n) (h4 : n ≤ hi) (q : Q (.bl true) H) : sp_rng lo hi ([.int n] ++ []) H Q E := ⟨n, rfl, h3, h4, q⟩
/-- texts of letters -/
def sp_signs : Sp := fun vs H Q _ => vs = [.str "a", .str "abcdefghijklmnopqrstuvwxyz", .int 8] ∧ ∀ H', Same H H' → Q (.bl true) H'
def sp_key : Sp := fun vs H Q _ => vs = [.str "a"] ∧ ∀ H', Same H H' → Q (.bl true) H'
/-- a word of these words -/
def sp_word (K : PySem.W.Frag) : Sp := fun vs H Q _ => ∃ t d z xs ws, vs = [.ref t, .ref d] ∧ SqT K H t (.str z :: xs) ∧ SqT K H d ws ∧ ws.all flatV = true ∧ inV (.str z) ws = true ∧ ∀ H', Same H H' → Q (.bl true) H'
def sp_circle (K : PySem.W.Frag) : Sp := fun vs H Q _ => ∃ t C, vs = [.ref t] ∧ SqT K H t (C.map V.int) ∧ Pm.Circ C ∧ ∀ H', Same H H' → Q (.bl true) H'
def sp_deed (K : PySem.W.Frag) : Sp := fun vs H Q _ => ∃ v k, vs = [v] ∧ DeedAt K H v k ∧ ∀ H', Same H H' → Q (.bl true) H'
def sp_lotdeed (K : PySem.W.Frag) : Sp := fun vs H Q _ => ∃ v k, vs = [v] ∧ DeedAt K H v k ∧ k < 2 ∧ ∀ H', Same H H' → Q (.bl true) H'
def EnOk (e : Pm.En) : Prop := 0 ≤ e.1 ∧ e.1 ≤ 4 ∧ 1 ≤ e.2.1 ∧ e.2.1 ≤ 4
def sp_entry (K : PySem.W.Frag) : Sp := fun vs H Q _ => ∃ v e, vs = [v] ∧ EntAt K H v e ∧ EnOk e ∧ ∀ H', Same H H' → Q (.bl true) H'
abbrev s_is_integer : Stmt := (top 20)
abbrev N_is_integer : List Str := ["value"]
theorem sc_is_integer : FnScope N_is_integer ["value"] (C8.fnScope s_is_integer) := C8.fnScope_by (by decide +kernel)
theorem ok_is_integer (D : DefX K mg "is_integer" "is_integer" s_is_integer ["value"]) (T : Txt K mg a)   : C8.Cal P w K mg base 1 "is_integer" sp_int [] :=
  calX D sc_is_integer (fun vs H Q E h => by obtain ⟨n, rfl, h1, h2, q⟩ := h; rfl) fun f cdv A outer s H vs Q E hr h => by
    have hu := hu_of hr
    obtain ⟨n, rfl, h1, h2, q⟩ := h
    refine ⟨_, (pss_one (ps_ret (pe_and (pe_callB (kx_isi (K := K)) (by rfl) T.z_isinstance (by decide +kernel) (pa_cons (pv 0) (pa_cons (pe_bltn (v := .ty "int") (by rfl) T.z_int (by decide +kernel) rfl) pa_nil))) (pe_and (pe_not (pe_callB (kx_isi (K := K)) (by rfl) T.z_isinstance (by decide +kernel) (pa_cons (pv 0) (pa_cons (pe_bltn (v := .ty "bool") (by rfl) T.z_bool (by decide +kernel) rfl) pa_nil)))) (pe_one (pe_chain op_lt op_lt (pe_un un_neg (C8.pe_gc (by rfl) T.c_GREATEST)) (pv 0) (C8.pe_gc (by rfl) T.c_GREATEST))))))), ?_⟩
    walk_at "go"
    exact q_dT (by omega) q
abbrev s_is_from : Stmt := (top 21)
abbrev N_is_from : List Str := ["value", "least", "most"]
theorem sc_is_from : FnScope N_is_from ["value", "least", "most"] (C8.fnScope s_is_from) := C8.fnScope_by (by decide +kernel)
theorem ok_is_from (D : DefX K mg "is_from" "is_from" s_is_from ["value", "least", "most"]) (T : Txt K mg a) (c_is_integer : C8.Cal P w K mg base 1 "is_integer" sp_int [])  : C8.Cal P w K mg base 2 "is_from" sp_from [] :=
  calX D sc_is_from (fun vs H Q E h => by obtain ⟨n, l, m, rfl, h1, h2, h3, h4, q⟩ := h; rfl) fun f cdv A outer s H vs Q E hr h => by
    have hu := hu_of hr
    obtain ⟨n, l, m, rfl, h1, h2, h3, h4, q⟩ := h
    refine ⟨_, (pss_one (ps_ret (pe_and (C8.pe_c c_is_integer hr (by decide) (by rfl) (pa_cons (pv 0) pa_nil)) (pe_one (pe_chain op_le op_le (pv 1) (pv 0) (pv 2)))))), ?_⟩
    walk_at "go"
    refine u_int h1 h2 ?_
    walk_at "go"
    exact q_dT (by omega) q
abbrev s_has_signs : Stmt := (top 22)
abbrev N_has_signs : List Str := ["value", "signs", "most", "sign"]
theorem sc_has_signs : FnScope N_has_signs ["value", "signs", "most"] (C8.fnScope s_has_signs) := C8.fnScope_by (by decide +kernel)
theorem ok_has_signs (D : DefX K mg "has_signs" "has_signs" s_has_signs ["value", "signs", "most"]) (T : Txt K mg a)   : C8.Cal P w K mg base 1 "has_signs" sp_signs [] :=
  calX D sc_has_signs (fun vs H Q E h => by obtain ⟨rfl, q⟩ := h; rfl) fun f cdv A outer s H vs Q E hr h => by
    have hu := hu_of hr
    obtain ⟨rfl, q⟩ := h
    refine ⟨_, (pss_one (ps_ret (pe_and (pe_callB (kx_isi (K := K)) (by rfl) T.z_isinstance (by decide +kernel) (pa_cons (pv 0) (pa_cons (pe_bltn (v := .ty "str") (by rfl) T.z_str (by decide +kernel) rfl) pa_nil))) (pe_and (pe_cmpR op_le (pe_callB cx_lenS (by rfl) T.z_len PySem.boot_len (pa_cons (pv 0) pa_nil)) (pv 2) (nomark _)) (pe_one (pe_callB (kx_all (K := K) rfl) (by rfl) T.z_all (by decide +kernel) (pa_cons (pe_lc (own := [("sign", 3)]) rfl sc_has_signs.nd (pi_str (pv 0)) (blkOk_by (N := N_has_signs) (sc := (C8.fnScope s_has_signs)) (by decide +kernel)) (fun _ _ _ _ _ => (pg_name (i := 3) sc_has_signs.nd rfl (.inl rfl))) (fun _ _ _ _ _ => pts_nil) (fun _ _ _ _ _ => (pe_cmpR ox_inSg (pv 3) (pv 1) (by rfl)))) pa_nil))))))), ?_⟩
    walk_at "go"
    refine k_lnS (by rw [sizeLine_eq]; decide) ?_
    walk_at "go"
    refine k_dT (by decide) ?_
    walk_at "go"
    refine lc_val walk_str [()] (fun _ => true) (fun _ => .bl true) (by rfl) (by decide) (fun _ _ => True.intro) (fun i x v Ha Hb hx e y Ky Kn ky kn => ?_) fun D H' hD e hl => ?_
    · obtain ⟨rfl, c, hc, rfl⟩ := y
      have hc' : c = 97 := by
        cases i with
        | zero => exact (Option.some.inj hc).symm
        | succ n => cases hx
      subst hc'
      walk_at "go"
      refine ⟨97, _, rfl, rfl, ?_⟩
      rw [decide_eq_true (by decide +kernel)]
      exact ky _ (Same.refl _) rfl
    · walk_at "go"
      refine k_all (bs := [true]) (.inl (.inl hl)) ?_
      exact q _ e
abbrev s_is_house : Stmt := (top 23)
abbrev N_is_house : List Str := ["value"]
theorem sc_is_house : FnScope N_is_house ["value"] (C8.fnScope s_is_house) := C8.fnScope_by (by decide +kernel)
theorem ok_is_house (D : DefX K mg "is_house" "is_house" s_is_house ["value"]) (T : Txt K mg a) (c_is_from : C8.Cal P w K mg base 2 "is_from" sp_from [])  : C8.Cal P w K mg base 3 "is_house" (sp_rng 0 8) [] :=
  calX D sc_is_house (fun vs H Q E h => by obtain ⟨n, rfl, h3, h4, q⟩ := h; rfl) fun f cdv A outer s H vs Q E hr h => by
    have hu := hu_of hr
    obtain ⟨n, rfl, h3, h4, q⟩ := h
    refine ⟨_, (pss_one (ps_ret (C8.pe_c c_is_from hr (by decide) (by rfl) (pa_cons (pv 0) (pa_cons pe_int (pa_cons (pe_op op_sub (C8.pe_gc (by rfl) T.c_MAX_HOUSES) pe_int) pa_nil)))))), ?_⟩
    walk_at "go"
    exact u_from (by omega) (by omega) h3 (by omega) q
abbrev s_is_client : Stmt := (top 24)
abbrev N_is_client : List Str := ["value"]
theorem sc_is_client : FnScope N_is_client ["value"] (C8.fnScope s_is_client) := C8.fnScope_by (by decide +kernel)
theorem ok_is_client (D : DefX K mg "is_client" "is_client" s_is_client ["value"]) (T : Txt K mg a) (c_is_from : C8.Cal P w K mg base 2 "is_from" sp_from [])  : C8.Cal P w K mg base 3 "is_client" (sp_rng 0 4) [] :=
  calX D sc_is_client (fun vs H Q E h => by obtain ⟨n, rfl, h3, h4, q⟩ := h; rfl) fun f cdv A outer s H vs Q E hr h => by
    have hu := hu_of hr
    obtain ⟨n, rfl, h3, h4, q⟩ := h
    refine ⟨_, (pss_one (ps_ret (C8.pe_c c_is_from hr (by decide) (by rfl) (pa_cons (pv 0) (pa_cons pe_int (pa_cons (pe_op op_sub (C8.pe_gc (by rfl) T.c_MAX_CLIENTS) pe_int) pa_nil)))))), ?_⟩
    walk_at "go"
    exact u_from (by omega) (by omega) h3 (by omega) q
abbrev s_is_value : Stmt := (top 27)
abbrev N_is_value : List Str := ["value"]
theorem sc_is_value : FnScope N_is_value ["value"] (C8.fnScope s_is_value) := C8.fnScope_by (by decide +kernel)
theorem ok_is_value (D : DefX K mg "is_value" "is_value" s_is_value ["value"]) (T : Txt K mg a) (c_is_from : C8.Cal P w K mg base 2 "is_from" sp_from [])  : C8.Cal P w K mg base 3 "is_value" (sp_rng 1 1) [] :=
  calX D sc_is_value (fun vs H Q E h => by obtain ⟨n, rfl, h3, h4, q⟩ := h; rfl) fun f cdv A outer s H vs Q E hr h => by
    have hu := hu_of hr
    obtain ⟨n, rfl, h3, h4, q⟩ := h
    refine ⟨_, (pss_one (ps_ret (pe_or (C8.pe_c c_is_from hr (by decide) (by rfl) (pa_cons (pv 0) (pa_cons (pe_op op_sub pe_int (C8.pe_gc (by rfl) T.c_LEAST)) (pa_cons (pe_op op_sub (C8.pe_gc (by rfl) T.c_LEAST) pe_int) pa_nil)))) (pe_one pe_dead)))), ?_⟩
    walk_at "go"
    refine u_from (by omega) (by omega) (by omega) (by omega) ?_
    walk_at "go"
    exact q
abbrev s_is_circle : Stmt := (top 25)
abbrev N_is_circle : List Str := ["value", "one", "other"]
theorem sc_is_circle : FnScope N_is_circle ["value"] (C8.fnScope s_is_circle) := C8.fnScope_by (by decide +kernel)
theorem ok_is_circle (D : DefX K mg "is_circle" "is_circle" s_is_circle ["value"]) (T : Txt K mg a) (c_is_house : C8.Cal P w K mg base 3 "is_house" (sp_rng 0 8) [])  : C8.Cal P w K mg base 4 "is_circle" (sp_circle K) [] :=
  calX D sc_is_circle (fun vs H Q E h => by obtain ⟨t, C, rfl, h, hC, q⟩ := h; rfl) fun f cdv A outer s H vs Q E hr h => by
    have hu := hu_of hr
    obtain ⟨t, C, rfl, h, hC, q⟩ := h
    refine ⟨_, (pss_cons (ps_if (PW.pt (pw_or (pt_not (pt_val (pe_callB (kx_isi (K := K)) (by rfl) T.z_isinstance (by decide +kernel) (pa_cons (pv 0) (pa_cons (pe_bltn (v := .ty "tuple") (by rfl) T.z_tuple (by decide +kernel) rfl) pa_nil))))) (pw_or (pt_not (pt_chain op_le op_le pe_int (pe_callB (kx_len (K := K)) (by rfl) T.z_len PySem.boot_len (pa_cons (pv 0) pa_nil)) (C8.pe_gc (by rfl) T.c_MAX_CIRCLE))) (pw_or1 (pt_not (pt_val (pe_callB (kx_all (K := K) rfl) (by rfl) T.z_all (by decide +kernel) (pa_cons (pe_lc (own := [("one", 1)]) rfl sc_is_circle.nd (kx_tup (K := K) (pv 0)) (blkOk_by (N := N_is_circle) (sc := (C8.fnScope s_is_circle)) (by decide +kernel)) (fun _ _ _ _ _ => (pg_name (i := 1) sc_is_circle.nd rfl (.inl rfl))) (fun _ _ _ _ _ => pts_nil) (fun _ _ _ _ _ => (C8.pe_c c_is_house hr (by decide) (by rfl) (pa_cons (pv 1) pa_nil)))) pa_nil))))))))
          (pss_one (ps_ret pe_bl))
          pss_nil)
      (pss_one (ps_ret (pe_callB (kx_all (K := K) rfl) (by rfl) T.z_all (by decide +kernel) (pa_cons (pe_lc (own := [("one", 1), ("other", 2)]) rfl sc_is_circle.nd (kx_zip (K := K) (by rfl) T.z_zip (pa_cons (pv 0) (pa_cons (pe_slice (kx_slT (K := K)) (pv 0) (po_some pe_int) po_none) pa_nil))) (blkOk_by (N := N_is_circle) (sc := (C8.fnScope s_is_circle)) (by decide +kernel)) (fun _ _ _ _ _ => (kx_gtup (K := K) (n := 2) (by rfl) (pgs_cons (pg_name (i := 1) sc_is_circle.nd rfl (.inl rfl)) (pgs_cons (pg_name (i := 2) sc_is_circle.nd rfl (.inl rfl)) pgs_nil)))) (fun _ _ _ _ _ => pts_nil) (fun _ _ _ _ _ => (pe_cmpR op_lt (pv 1) (pv 2) (nomark _)))) pa_nil))))), ?_⟩
    walk_at "go"
    refine k_dT (by have := hC.ge; rw [List.length_map]; omega) ?_
    walk_at "go"
    refine k_ndF (by have := hC.le; rw [List.length_map]; omega) ?_
    walk_at "go"
    refine lc_true walk_tup (by have := hC.le; rw [List.length_map]; omega) (fun _ e => sm_T e h) (fun i v Ha Hb hi e y Ky Kn ky => ?_) fun D H' hD e hl => ?_
    · obtain ⟨rfl, hv⟩ := y
      rw [List.getElem?_map] at hv
      obtain ⟨c, hc, rfl⟩ := Option.map_eq_some_iff.mp hv
      have := hC.nm c (List.mem_of_getElem? hc)
      walk_at "go"
      refine u_rng (by omega) (by omega) ?_
      exact ky _ (Same.refl _)
    · walk_at "go"
      refine k_allT hl ?_
      walk_at "go"
      refine k_slT (sm_T e h) fun p H2 e2 hp => ?_
      rw [show (some 1 : Option Int) = some ((1 : Nat) : Int) from rfl, cut_from] at hp
      walk_at "go"
      refine lc_true (walk_zipT rfl) (by have := hC.le; rw [List.length_map, List.length_drop, List.length_map]; omega) (fun _ e3 => ⟨sm_T (e.trans (e2.trans e3)) h, sm_T e3 hp⟩) (fun i v Ha Hb hi e y Ky Kn ky => ?_) fun D2 H3 hD2 e3 hl2 => ?_
      · obtain ⟨T, x, z, rfl, hT, rfl, h1, h2⟩ := y
        replace h1 : (C.map V.int)[i]? = some x := h1
        replace h2 : ((C.map V.int).drop 1)[i]? = some z := h2
        rw [List.getElem?_map] at h1
        rw [List.getElem?_drop, List.getElem?_map] at h2
        obtain ⟨c, hc, rfl⟩ := Option.map_eq_some_iff.mp h1
        obtain ⟨d, hd, rfl⟩ := Option.map_eq_some_iff.mp h2
        have hT2 : upd Ha T (.tup [V.int c, V.int d]) T = some (.tup [V.int c, V.int d]) := upd_same
        have hcd : c < d := by
          obtain ⟨l1, g1⟩ := List.getElem?_eq_some_iff.mp hc
          obtain ⟨l2, g2⟩ := List.getElem?_eq_some_iff.mp hd
          rw [← g1, ← g2]
          exact List.pairwise_iff_getElem.mp hC.up i (1 + i) l1 l2 (by omega)
        walk_at "go"
        rw [decide_eq_true hcd]
        exact ky _ (sm_new hT)
      · walk_at "go"
        refine k_allT hl2 ?_
        exact q _ (e.trans (e2.trans e3))
abbrev s_is_key : Stmt := (top 26)
abbrev N_is_key : List Str := ["value"]
theorem sc_is_key : FnScope N_is_key ["value"] (C8.fnScope s_is_key) := C8.fnScope_by (by decide +kernel)
theorem ok_is_key (D : DefX K mg "is_key" "is_key" s_is_key ["value"]) (T : Txt K mg a) (c_has_signs : C8.Cal P w K mg base 1 "has_signs" sp_signs [])  : C8.Cal P w K mg base 2 "is_key" sp_key [] :=
  calX D sc_is_key (fun vs H Q E h => by obtain ⟨rfl, q⟩ := h; rfl) fun f cdv A outer s H vs Q E hr h => by
    have hu := hu_of hr
    obtain ⟨rfl, q⟩ := h
    refine ⟨_, (pss_one (ps_ret (pe_and (C8.pe_c c_has_signs hr (by decide) (by rfl) (pa_cons (pv 0) (pa_cons (C8.pe_gc (by rfl) T.c_SMALL_LETTERS) (pa_cons (C8.pe_gc (by rfl) T.c_MAX_KEY) pa_nil)))) (pe_one (pe_cmpR op_ne (pv 0) pe_str (nomark _)))))), ?_⟩
    walk_at "go"
    refine ⟨rfl, fun H' e => ?_⟩
    walk_at "go"
    exact q _ e
abbrev s_is_whole : Stmt := (top 34)
abbrev N_is_whole : List Str := ["value"]
theorem sc_is_whole : FnScope N_is_whole ["value"] (C8.fnScope s_is_whole) := C8.fnScope_by (by decide +kernel)
theorem ok_is_whole (D : DefX K mg "is_whole_deeds" "is_whole" s_is_whole ["value"]) (T : Txt K mg a)   : C8.Cal P w K mg base 1 "is_whole_deeds" sp_int [] :=
  calX D sc_is_whole (fun vs H Q E h => by obtain ⟨n, rfl, h1, h2, q⟩ := h; rfl) fun f cdv A outer s H vs Q E hr h => by
    have hu := hu_of hr
    obtain ⟨n, rfl, h1, h2, q⟩ := h
    refine ⟨_, (pss_one (ps_ret (pe_and (pe_callB (kx_isi (K := K)) (by rfl) T.z_isinstance (by decide +kernel) (pa_cons (pv 0) (pa_cons (pe_bltn (v := .ty "int") (by rfl) T.z_int (by decide +kernel) rfl) pa_nil))) (pe_one (pe_not (pe_callB (kx_isi (K := K)) (by rfl) T.z_isinstance (by decide +kernel) (pa_cons (pv 0) (pa_cons (pe_bltn (v := .ty "bool") (by rfl) T.z_bool (by decide +kernel) rfl) pa_nil)))))))), ?_⟩
    walk_at "go"
    exact q
abbrev s_is_number : Stmt := (top 37)
abbrev N_is_number : List Str := ["value"]
theorem sc_is_number : FnScope N_is_number ["value"] (C8.fnScope s_is_number) := C8.fnScope_by (by decide +kernel)
theorem ok_is_number (D : DefX K mg "is_number" "is_number" s_is_number ["value"]) (T : Txt K mg a) (c_is_whole_deeds : C8.Cal P w K mg base 1 "is_whole_deeds" sp_int [])  : C8.Cal P w K mg base 2 "is_number" (sp_rng 1 4) [] :=
  calX D sc_is_number (fun vs H Q E h => by obtain ⟨n, rfl, h3, h4, q⟩ := h; rfl) fun f cdv A outer s H vs Q E hr h => by
    have hu := hu_of hr
    obtain ⟨n, rfl, h3, h4, q⟩ := h
    refine ⟨_, (pss_one (ps_ret (pe_and (C8.pe_c c_is_whole_deeds hr (by decide) (by rfl) (pa_cons (pv 0) pa_nil)) (pe_one (pe_chain op_le op_le pe_int (pv 0) (C8.pe_gc (by rfl) T.c_MAX_NUMBER)))))), ?_⟩
    walk_at "go"
    refine u_int (by omega) (by omega) ?_
    walk_at "go"
    exact q_dT (by omega) q
abbrev s_has_word : Stmt := (top 39)
abbrev N_has_word : List Str := ["value", "words"]
theorem sc_has_word : FnScope N_has_word ["value", "words"] (C8.fnScope s_has_word) := C8.fnScope_by (by decide +kernel)
theorem ok_has_word (D : DefX K mg "has_word" "has_word" s_has_word ["value", "words"]) (T : Txt K mg a)   : C8.Cal P w K mg base 1 "has_word" (sp_word K) [] :=
  calX D sc_has_word (fun vs H Q E h => by obtain ⟨t, d, z, xs, ws, rfl, h1, h2, h3, h4, q⟩ := h; rfl) fun f cdv A outer s H vs Q E hr h => by
    have hu := hu_of hr
    obtain ⟨t, d, z, xs, ws, rfl, h1, h2, h3, h4, q⟩ := h
    refine ⟨_, (pss_one (ps_ret (pe_and (pe_callB (kx_isi (K := K)) (by rfl) T.z_isinstance (by decide +kernel) (pa_cons (pv 0) (pa_cons (pe_bltn (v := .ty "tuple") (by rfl) T.z_tuple (by decide +kernel) rfl) pa_nil))) (pe_and (pe_cmpR (kx_neE (K := K) hr.units) (pv 0) (pe_tup pa_nil) (nomark _)) (pe_and (pe_callB (kx_isi (K := K)) (by rfl) T.z_isinstance (by decide +kernel) (pa_cons (pe_ix (kx_ix (K := K)) (pv 0) pe_int (fun _ _ => rfl)) (pa_cons (pe_bltn (v := .ty "str") (by rfl) T.z_str (by decide +kernel) rfl) pa_nil))) (pe_one (pe_cmpR (kx_in (K := K)) (pe_ix (kx_ix (K := K)) (pv 0) pe_int (fun _ _ => rfl)) (pv 1) (by rfl)))))))), ?_⟩
    walk_at "go"
    refine NewR.mk fun p H1 hn e hp => ?_
    walk_at "go"
    refine k_yes rfl ?_
    walk_at "go"
    refine k_inT (sm_T e h2) rfl h3 h4 ?_
    exact q _ e
abbrev s_is_lot_deed : Stmt := (top 40)
abbrev N_is_lot_deed : List Str := ["value"]
theorem sc_is_lot_deed : FnScope N_is_lot_deed ["value"] (C8.fnScope s_is_lot_deed) := C8.fnScope_by (by decide +kernel)
theorem ok_is_lot_deed (D : DefX K mg "is_lot_deed" "is_lot_deed" s_is_lot_deed ["value"]) (T : Txt K mg a) (c_has_word : C8.Cal P w K mg base 1 "has_word" (sp_word K) []) (c_is_key : C8.Cal P w K mg base 2 "is_key" sp_key []) (c_is_value : C8.Cal P w K mg base 3 "is_value" (sp_rng 1 1) [])  : C8.Cal P w K mg base 4 "is_lot_deed" (sp_lotdeed K) [] :=
  calX D sc_is_lot_deed (fun vs H Q E h => by obtain ⟨v, k, rfl, h, hk, q⟩ := h; rfl) fun f cdv A outer s H vs Q E hr h => by
    have hu := hu_of hr
    obtain ⟨v, k, rfl, h, hk, q⟩ := h
    refine ⟨_, (pss_cons (ps_if (pt_not (pt_val (C8.pe_c c_has_word hr (by decide) (by rfl) (pa_cons (pv 0) (pa_cons (C8.pe_gc (by rfl) T.c_LOT_WORDS) pa_nil)))))
          (pss_one (ps_ret pe_bl))
          pss_nil)
      (pss_cons (ps_match (pe_ix (kx_ix (K := K)) (pv 0) pe_int (fun _ _ => rfl))
          (pcs_cons (pss_one (ps_ret (pe_and (pe_cmpR op_eq (pe_callB (kx_len (K := K)) (by rfl) T.z_len PySem.boot_len (pa_cons (pv 0) pa_nil)) pe_int (nomark _)) (pe_and (C8.pe_c c_is_key hr (by decide) (by rfl) (pa_cons (pe_ix (kx_ix (K := K)) (pv 0) pe_int (fun _ _ => rfl)) pa_nil)) (pe_one (C8.pe_c c_is_value hr (by decide) (by rfl) (pa_cons (pe_ix (kx_ix (K := K)) (pv 0) pe_int (fun _ _ => rfl)) pa_nil)))))))
          (pcs_cons pss_never
          (pcs_cons pss_never
          pcs_nil))))
      (pss_one (ps_ret (pe_and (pe_cmpR op_eq (pe_callB (kx_len (K := K)) (by rfl) T.z_len PySem.boot_len (pa_cons (pv 0) pa_nil)) pe_int (nomark _)) (pe_one (C8.pe_c c_is_key hr (by decide) (by rfl) (pa_cons (pe_ix (kx_ix (K := K)) (pv 0) pe_int (fun _ _ => rfl)) pa_nil)))))))), ?_⟩
    obtain ⟨t, rfl, ⟨rfl, h⟩ | ⟨rfl, h⟩ | ⟨rfl, h⟩⟩ := h
    · walk_at "go"
      refine ⟨t, a.lw, _, _, _, rfl, h, T.t_LOT_WORDS _, rfl, by decide +kernel, fun H1 e => ?_⟩
      walk_at "go"
      refine ⟨rfl, fun H2 e2 => ?_⟩
      walk_at "go"
      refine u_rng (by omega) (by omega) ?_
      exact q _ (e.trans e2)
    · walk_at "go"
      refine ⟨t, a.lw, _, _, _, rfl, h, T.t_LOT_WORDS _, rfl, by decide +kernel, fun H1 e => ?_⟩
      walk_at "go"
      refine ⟨rfl, fun H2 e2 => ?_⟩
      exact q _ (e.trans e2)
    · omega
abbrev s_is_deed : Stmt := (top 42)
abbrev N_is_deed : List Str := ["value"]
theorem sc_is_deed : FnScope N_is_deed ["value"] (C8.fnScope s_is_deed) := C8.fnScope_by (by decide +kernel)
theorem ok_is_deed (D : DefX K mg "is_deed" "is_deed" s_is_deed ["value"]) (T : Txt K mg a) (c_has_word : C8.Cal P w K mg base 1 "has_word" (sp_word K) []) (c_is_circle : C8.Cal P w K mg base 4 "is_circle" (sp_circle K) []) (c_is_lot_deed : C8.Cal P w K mg base 4 "is_lot_deed" (sp_lotdeed K) [])  : C8.Cal P w K mg base 5 "is_deed" (sp_deed K) [] :=
  calX D sc_is_deed (fun vs H Q E h => by obtain ⟨v, k, rfl, h, q⟩ := h; rfl) fun f cdv A outer s H vs Q E hr h => by
    have hu := hu_of hr
    obtain ⟨v, k, rfl, h, q⟩ := h
    refine ⟨_, (pss_cons (ps_if (pt_not (pt_val (C8.pe_c c_has_word hr (by decide) (by rfl) (pa_cons (pv 0) (pa_cons (C8.pe_gc (by rfl) T.c_DEED_WORDS) pa_nil)))))
          (pss_one (ps_ret pe_bl))
          pss_nil)
      (pss_cons (ps_match (pe_ix (kx_ix (K := K)) (pv 0) pe_int (fun _ _ => rfl))
          (pcs_cons pss_never
          (pcs_cons pss_never
          (pcs_cons (pss_one (ps_ret (pe_and (pe_cmpR op_eq (pe_callB (kx_len (K := K)) (by rfl) T.z_len PySem.boot_len (pa_cons (pv 0) pa_nil)) pe_int (nomark _)) (pe_one (C8.pe_c c_is_circle hr (by decide) (by rfl) (pa_cons (pe_ix (kx_ix (K := K)) (pv 0) pe_int (fun _ _ => rfl)) pa_nil))))))
          pcs_nil))))
      (pss_one (ps_ret (C8.pe_c c_is_lot_deed hr (by decide) (by rfl) (pa_cons (pv 0) pa_nil)))))), ?_⟩
    obtain ⟨t, rfl, ⟨rfl, h⟩ | ⟨rfl, h⟩ | ⟨rfl, c, h, g⟩⟩ := h
    · walk_at "go"
      refine ⟨t, a.dw, _, _, _, rfl, h, T.t_DEED_WORDS _, rfl, by decide +kernel, fun H1 e => ?_⟩
      walk_at "go"
      exact ⟨_, 0, rfl, ⟨t, rfl, .inl ⟨rfl, sm_T e h⟩⟩, by omega, fun H2 e2 => q _ (e.trans e2)⟩
    · walk_at "go"
      refine ⟨t, a.dw, _, _, _, rfl, h, T.t_DEED_WORDS _, rfl, by decide +kernel, fun H1 e => ?_⟩
      walk_at "go"
      exact ⟨_, 1, rfl, ⟨t, rfl, .inr (.inl ⟨rfl, sm_T e h⟩)⟩, by omega, fun H2 e2 => q _ (e.trans e2)⟩
    · walk_at "go"
      refine ⟨t, a.dw, _, _, _, rfl, h, T.t_DEED_WORDS _, rfl, by decide +kernel, fun H1 e => ?_⟩
      walk_at "go"
      exact ⟨c, [0, 1], rfl, sm_T e g, ⟨by decide, by decide, by decide, by decide⟩, fun H2 e2 => q _ (e.trans e2)⟩
abbrev s_is_entry : Stmt := (top 43)
abbrev N_is_entry : List Str := ["value"]
theorem sc_is_entry : FnScope N_is_entry ["value"] (C8.fnScope s_is_entry) := C8.fnScope_by (by decide +kernel)
theorem ok_is_entry (D : DefX K mg "is_entry" "is_entry" s_is_entry ["value"]) (T : Txt K mg a) (c_is_client : C8.Cal P w K mg base 3 "is_client" (sp_rng 0 4) []) (c_is_deed : C8.Cal P w K mg base 5 "is_deed" (sp_deed K) []) (c_is_number : C8.Cal P w K mg base 2 "is_number" (sp_rng 1 4) [])  : C8.Cal P w K mg base 6 "is_entry" (sp_entry K) [] :=
  calX D sc_is_entry (fun vs H Q E h => by obtain ⟨v, e, rfl, h, ho, q⟩ := h; rfl) fun f cdv A outer s H vs Q E hr h => by
    have hu := hu_of hr
    obtain ⟨v, e, rfl, h, ho, q⟩ := h
    refine ⟨_, (pss_cons (ps_if (PW.pt (pw_or (pt_not (pt_val (pe_callB (kx_isi (K := K)) (by rfl) T.z_isinstance (by decide +kernel) (pa_cons (pv 0) (pa_cons (pe_bltn (v := .ty "tuple") (by rfl) T.z_tuple (by decide +kernel) rfl) pa_nil))))) (pw_or1 (pt_cmpR op_ne (pe_callB (kx_len (K := K)) (by rfl) T.z_len PySem.boot_len (pa_cons (pv 0) pa_nil)) (C8.pe_gc (by rfl) T.c_ENTRY_SIZE) (nomark _)))))
          (pss_one (ps_ret pe_bl))
          pss_nil)
      (pss_one (ps_ret (pe_and (C8.pe_c c_is_client hr (by decide) (by rfl) (pa_cons (pe_ix (kx_ix (K := K)) (pv 0) pe_int (fun _ _ => rfl)) pa_nil)) (pe_and (C8.pe_c c_is_number hr (by decide) (by rfl) (pa_cons (pe_ix (kx_ix (K := K)) (pv 0) pe_int (fun _ _ => rfl)) pa_nil)) (pe_one (C8.pe_c c_is_deed hr (by decide) (by rfl) (pa_cons (pe_ix (kx_ix (K := K)) (pv 0) pe_int (fun _ _ => rfl)) pa_nil)))))))), ?_⟩
    obtain ⟨t, d, rfl, h, hd⟩ := h
    obtain ⟨o1, o2, o3, o4⟩ := ho
    walk_at "go"
    refine u_rng o1 o2 ?_
    walk_at "go"
    refine u_rng o3 o4 ?_
    walk_at "go"
    exact ⟨d, _, rfl, hd, q⟩
end

/-! W2 -/
section
variable {P : Program} {w : World} {K : PySem.W.Frag} {mg : Str → Option Value} {base : Heap} {a : Adr}

variable (C : Cls K a)
/-- a picture's spec begins so -/
def PicAt (K : PySem.W.Frag) (a : Adr) (H : Hp) (v : V) (s : Pm.St) (n : Nat) : Prop := PPic K a.cp H v s n ∧ Pm.Sound s ∧ n ≤ 50
def sp_parts (K : PySem.W.Frag) (a : Adr) : Sp := fun vs H Q _ => ∃ v vc vf vp vr vv, vs = [v] ∧ PSl a H v vc vf vp vr vv ∧ ∀ p H', H p = none → Same H H' → H' p = some (.tup [vc, vp, vr, vf, vv]) → Q (.ref p) H'
abbrev s_parts_of : Stmt := (top 60)
abbrev N_parts_of : List Str := ["picture"]
theorem sc_parts_of : FnScope N_parts_of ["picture"] (C8.fnScope s_parts_of) := C8.fnScope_by (by decide +kernel)
theorem ok_parts_of (D : DefX K mg "parts_of" "parts_of" s_parts_of ["picture"]) (T : Txt K mg a)  (C : Cls K a) : C8.Cal P w K mg base 1 "parts_of" (sp_parts K a) [] :=
  calX D sc_parts_of (fun vs H Q E h => by obtain ⟨v, vc, vf, vp, vr, vv, rfl, h, q⟩ := h; rfl) fun f cdv A outer s H vs Q E hr h => by
    have hu := hu_of hr
    obtain ⟨v, vc, vf, vp, vr, vv, rfl, h, q⟩ := h
    refine ⟨_, (pss_one (ps_ret (pe_tup (pa_cons (kx_slot (K := K) (pv 0)) (pa_cons (kx_slot (K := K) (pv 0)) (pa_cons (kx_slot (K := K) (pv 0)) (pa_cons (kx_slot (K := K) (pv 0)) (pa_cons (kx_slot (K := K) (pv 0)) pa_nil)))))))), ?_⟩
    walk_at "go"
    exact NewR.mk fun p H' hn e hp => q p H' hn e hp
def sp_half (K : PySem.W.Frag) : Sp := fun vs H Q _ => ∃ c l C xs, vs = [.ref c, .ref l] ∧ SqT K H c C ∧ (SqL K H l xs ∨ SqT K H l xs) ∧ Q (.bl (decide (2 * (xs.length : Int) > (C.length : Int)))) H
abbrev s_is_half : Stmt := (top 62)
abbrev N_is_half : List Str := ["circle", "lot"]
theorem sc_is_half : FnScope N_is_half ["circle", "lot"] (C8.fnScope s_is_half) := C8.fnScope_by (by decide +kernel)
theorem ok_is_half (D : DefX K mg "is_half" "is_half" s_is_half ["circle", "lot"]) (T : Txt K mg a)   : C8.Cal P w K mg base 1 "is_half" (sp_half K) [] :=
  calX D sc_is_half (fun vs H Q E h => by obtain ⟨c, l, C, xs, rfl, hc, hl, q⟩ := h; rfl) fun f cdv A outer s H vs Q E hr h => by
    have hu := hu_of hr
    obtain ⟨c, l, C, xs, rfl, hc, hl, q⟩ := h
    refine ⟨_, (pss_one (ps_ret (pe_cmpR op_gt (pe_op op_mul pe_int (pe_callB (kx_len (K := K)) (by rfl) T.z_len PySem.boot_len (pa_cons (pv 1) pa_nil))) (pe_callB (kx_len (K := K)) (by rfl) T.z_len PySem.boot_len (pa_cons (pv 0) pa_nil)) (nomark _)))), ?_⟩
    walk_at "go"
    refine ⟨l, xs, rfl, hl, ?_⟩
    walk_at "go"
    exact q
def sp_middle (K : PySem.W.Frag) : Sp := fun vs H Q _ => ∃ (c l : Addr) (C : List V) (ns : List Int), vs = [.ref c, .ref l] ∧ SqT K H c C ∧ SqL K H l (ns.map V.int) ∧ ns.length = C.length ∧ 1 ≤ C.length ∧ C.length ≤ 7 ∧
  ∀ (L : List Int) (v : Int) (H' : Hp), L.Perm ns → L.Pairwise (· ≤ ·) → L[(C.length - 1) / 2]? = some v → Same H H' → Q (.int v) H'
abbrev s_middle_of : Stmt := (top 63)
abbrev N_middle_of : List Str := ["circle", "numbers"]
theorem sc_middle_of : FnScope N_middle_of ["circle", "numbers"] (C8.fnScope s_middle_of) := C8.fnScope_by (by decide +kernel)
theorem ok_middle_of (D : DefX K mg "middle_of" "middle_of" s_middle_of ["circle", "numbers"]) (T : Txt K mg a)   : C8.Cal P w K mg base 1 "middle_of" (sp_middle K) [] :=
  calX D sc_middle_of (fun vs H Q E h => by obtain ⟨c, l, C, ns, rfl, hc, hl, h1, h2, h3, q⟩ := h; rfl) fun f cdv A outer s H vs Q E hr h => by
    have hu := hu_of hr
    obtain ⟨c, l, C, ns, rfl, hc, hl, h1, h2, h3, q⟩ := h
    refine ⟨_, (pss_one (ps_ret (pe_ix (kx_ixL (K := K)) (pe_callB (kx_sorted (K := K)) (by rfl) T.z_sorted (by decide +kernel) (pa_cons (pv 1) pa_nil)) (pe_op op_fdivN (pe_op op_sub (pe_callB (kx_len (K := K)) (by rfl) T.z_len PySem.boot_len (pa_cons (pv 0) pa_nil)) pe_int) pe_int) (fun _ _ => rfl)))), ?_⟩
    walk_at "go"
    refine k_sorted hl (by omega) fun L p H' hp hs hn e hL => ?_
    walk_at "go"
    have hlen : L.length = C.length := by rw [hp.length_eq, h1]
    have hk : (C.length - 1) / 2 < L.length := by omega
    have e1 : ((C.length : Int) - 1).fdiv 2 = (((C.length - 1) / 2 : Nat) : Int) := by
      rw [Int.fdiv_eq_ediv_of_nonneg _ (by omega)]; omega
    rw [e1]
    refine k_ixL (.inl (.inl hL)) (atI_get (by rw [List.getElem?_map, List.getElem?_eq_getElem hk]; rfl)) ?_
    exact q L _ H' hp hs (List.getElem?_eq_getElem hk) e
/-! ### votes and rows, looked up -/
theorem vote_dict {s : Pm.St} (S : Pm.Sound s) {h : Int} (hC : h ∈ s.C) : ∃ f, s.vt h = some f := Option.isSome_iff_exists.mp ((S.vtk h).mpr hC)
theorem prom_val {s : Pm.St} (S : Pm.Sound s) {h : Int} (hC : h ∈ s.C) : ∃ p, s.pr h = some p := Option.isSome_iff_exists.mp ((S.prk h).mpr hC)
theorem vn_of {s : Pm.St} {h t : Int} {f : Pm.Dc Int} {o : Option V} (e : s.vt h = some f) (r : OR (RI (fun _ => none)) o (f t)) : o.getD (.int 0) = .int (s.vn h t) := by
  unfold Pm.St.vn Pm.St.vg
  rw [e]
  show o.getD (.int 0) = .int ((f t).getD 0)
  cases o with
  | none =>
    cases hf : f t with
    | none => rfl
    | some x => rw [hf] at r; exact r.elim
  | some v =>
    cases hf : f t with
    | none => rw [hf] at r; exact r.elim
    | some x => rw [hf] at r; exact r
theorem row_len {H : Hp} {v : V} {r : List Pm.En} (h : RowAt K H v r) : ∃ ad xs, v = .ref ad ∧ SqT K H ad xs ∧ xs.length = r.length ∧ Paired (EntAt K H) xs r := by
  obtain ⟨ad, xs, rfl, h, p⟩ := h
  exact ⟨ad, xs, rfl, h, Paired.length p, p⟩
/-- the middle against more than half -/
theorem grt_mid {C : List Int} {f : Int → Int} {L : List Int} {p : Int → Prop} {len : Nat} {v : Int} (hp : L.Perm (C.map f)) (hs : L.Pairwise (· ≤ ·)) (h1 : 1 ≤ C.length) (hv : L[(C.length - 1) / 2]? = some v) (h0 : ∀ x ∈ C, 0 ≤ f x)
    (iff : ∀ m : Int, 0 ≤ m → m ≤ (len : Int) → (p m ↔ Pm.more C (C.filter fun h => decide (m ≤ f h)))) : Pm.Grt p len (if (len : Int) < v then len else v) := by
  have hm := Pm.middle_iff hp hs h1 hv
  have v0 : 0 ≤ v := (hm 0).mp (by
    have e : (C.filter fun h => decide ((0 : Int) ≤ f h)) = C := List.filter_eq_self.mpr fun x hx => decide_eq_true (h0 x hx)
    unfold Pm.more; rw [e]; omega)
  by_cases hl : (len : Int) < v
  · rw [if_pos hl]
    exact ⟨by omega, Int.le_refl _, (iff _ (by omega) (Int.le_refl _)).mpr ((hm _).mpr (by omega)), fun m _ h _ => h⟩
  · rw [if_neg hl]
    exact ⟨v0, by omega, (iff _ v0 (by omega)).mpr ((hm _).mpr (Int.le_refl _)), fun m m0 ml pm => (hm m).mp ((iff m m0 ml).mp pm)⟩
def sp_chosen (K : PySem.W.Frag) (a : Adr) : Sp := fun vs H Q _ => ∃ v s n t r, vs = [v, .int t] ∧ PPic K a.cp H v s n ∧ Pm.Sound s ∧ s.rw t = some r ∧ ∀ c H', Pm.Grt (s.Chs t) r.length c → Same H H' → Q (.int c) H'
abbrev s_chosen_in_term : Stmt := (top 64)
abbrev N_chosen_in_term : List Str := ["picture", "term", "numbers", "house"]
theorem sc_chosen_in_term : FnScope N_chosen_in_term ["picture", "term"] (C8.fnScope s_chosen_in_term) := C8.fnScope_by (by decide +kernel)
theorem ok_chosen_in_term (D : DefX K mg "chosen_in_term" "chosen_in_term" s_chosen_in_term ["picture", "term"]) (T : Txt K mg a) (c_middle_of : C8.Cal P w K mg base 1 "middle_of" (sp_middle K) []) (C : Cls K a) : C8.Cal P w K mg base 2 "chosen_in_term" (sp_chosen K a) [] :=
  calX D sc_chosen_in_term (fun vs H Q E h => by obtain ⟨v, s, n, t, r, rfl, h, S, hr2, q⟩ := h; rfl) fun f cdv A outer s H vs Q E hr h => by
    have hu := hu_of hr
    obtain ⟨v, s, n, t, r, rfl, h, S, hr2, q⟩ := h
    refine ⟨_, (pss_cons (ps_setLc (i := 2) (own := [("house", 3)]) rfl sc_chosen_in_term.nd rfl rfl (sw_true rfl rfl rfl (by decide +kernel)) (kx_tup (K := K) (kx_slot (K := K) (pv 0))) (blkOk_by (N := N_chosen_in_term) (sc := (C8.fnScope s_chosen_in_term)) (by decide +kernel)) (fun _ _ _ _ _ => (pg_name (i := 3) sc_chosen_in_term.nd rfl (.inl rfl))) (fun _ _ _ _ _ => pts_nil) (fun _ _ _ _ _ => (pe_dget2 hu (pe_dget hu (kx_slot (K := K) (pv 0)) (pv 3) (fun _ _ => rfl)) (pv 1) pe_int ⟨rfl, rfl, rfl, rfl⟩)))
      (pss_one (ps_ret (pe_callB (cx_min rfl) (by rfl) T.z_min (by decide +kernel) (pa_cons (C8.pe_c c_middle_of hr (by decide) (by rfl) (pa_cons (kx_slot (K := K) (pv 0)) (pa_cons (pv 2) pa_nil))) (pa_cons (pe_callB (kx_len (K := K)) (by rfl) T.z_len PySem.boot_len (pa_cons (pe_dget hu (kx_slot (K := K) (pv 0)) (pv 1) (fun _ _ => rfl)) pa_nil)) pa_nil)))))), ?_⟩
    obtain ⟨vc, vf, vp, vr, vv, ps, pp⟩ := PSl.of h
    obtain ⟨ac, rfl, hc⟩ := pp.cir
    walk_at "go"
    refine lc_val walk_tup s.C (fun _ => true) (fun h => .int (s.vn h t)) (by rw [List.length_map]) (by have := S.circ.le; rw [List.length_map]; omega) (fun _ e => sm_T e hc) (fun i x y Ha Hb hx e yy Ky Kn ky kn => ?_) fun D H' hD e hl => ?_
    · obtain ⟨rfl, hy⟩ := yy
      rw [List.getElem?_map, hx] at hy
      obtain rfl : V.int x = y := Option.some.inj hy
      obtain ⟨f, hf⟩ := vote_dict S (List.mem_of_getElem? hx)
      walk_at "go"
      refine q_dg (pp.vt.monoD e) hf fun u hu2 => ?_
      refine q_g2 hu2 (by rfl) fun o ho => ?_
      rw [vn_of hf ho]
      exact ky _ (Same.refl _) rfl
    · rw [List.filter_eq_self.mpr fun _ _ => rfl] at hl
      walk_at "go"
      refine ⟨ac, D, s.C.map V.int, s.C.map fun h => s.vn h t, rfl, sm_T e hc, .inl (.inl (by rw [hl, List.map_map]; rfl)), by simp, by rw [List.length_map]; exact S.circ.ge, by rw [List.length_map]; exact S.circ.le, fun L v H2 h1 h2 h3 e2 => ?_⟩
      rw [List.length_map] at h3
      walk_at "go"
      refine q_dg (pp.rw.monoR (e.trans e2)) hr2 fun u hu2 => ?_
      obtain ⟨ad, xs, rfl, hx, hxl, _⟩ := row_len hu2
      walk_at "go"
      rw [hxl]
      exact q _ H2 (grt_mid h1 h2 S.circ.ge h3 (fun x _ => Pm.vn_ge S x t) fun m _ _ => Iff.rfl) (e.trans e2)
end

/-! W3 -/
section
variable {P : Program} {w : World} {K : PySem.W.Frag} {mg : Str → Option Value} {base : Heap} {a : Adr}

theorem ty_lst {H : Hp} {l : Addr} {xs : List V} (h : H l = some (.lst xs)) : tyV K "list" (.ref l) H := by
  exact .inl ⟨rfl, xs, .inl (.inl h)⟩
theorem y_item {kvs : List (Key × V)} {i : Nat} {H H' : Hp} {x : V} (y : YPair (fun i => kvs[i]?.map fun kv => kV kv.1) (fun i => kvs[i]?.map Prod.snd) i H x H') : ∃ T k v, x = .ref T ∧ H T = none ∧ H' = upd H T (.tup [kV k, v]) ∧ kvs[i]? = some (k, v) := by
  obtain ⟨T, x, y, rfl, hT, rfl, h1, h2⟩ := y
  replace h1 : kvs[i]?.map (fun kv => kV kv.1) = some x := h1
  replace h2 : kvs[i]?.map Prod.snd = some y := h2
  cases e : kvs[i]? with
  | none => rw [e] at h1; cases h1
  | some kv =>
    rw [e] at h1 h2
    obtain ⟨k, v⟩ := kv
    cases h1
    cases h2
    exact ⟨T, k, v, rfl, hT, rfl, rfl⟩
def sp_open (K : PySem.W.Frag) (a : Adr) : Sp := fun vs H Q _ => ∃ v s n t r, vs = [v, .int t] ∧ PPic K a.cp H v s n ∧ Pm.Sound s ∧ s.rw t = some r ∧ ∀ c H', Pm.Grt (s.Opn t) r.length c → Same H H' → Q (.int c) H'
abbrev s_open_in_term : Stmt := (top 65)
abbrev N_open_in_term : List Str := ["picture", "term", "most", "numbers", "house"]
theorem sc_open_in_term : FnScope N_open_in_term ["picture", "term"] (C8.fnScope s_open_in_term) := C8.fnScope_by (by decide +kernel)
theorem ok_open_in_term (D : DefX K mg "open_in_term" "open_in_term" s_open_in_term ["picture", "term"]) (T : Txt K mg a) (c_middle_of : C8.Cal P w K mg base 1 "middle_of" (sp_middle K) []) (C : Cls K a) : C8.Cal P w K mg base 2 "open_in_term" (sp_open K a) [] :=
  calX D sc_open_in_term (fun vs H Q E h => by obtain ⟨v, s, n, t, r, rfl, h, S, hr2, q⟩ := h; rfl) fun f cdv A outer s H vs Q E hr h => by
    have hu := hu_of hr
    obtain ⟨v, s, n, t, r, rfl, h, S, hr2, q⟩ := h
    refine ⟨_, (pss_cons (ps_par (i := 2) (j := 3) (by rfl) sc_open_in_term.nd rfl rfl (by decide) rfl rfl (pa_cons (pe_callB (kx_len (K := K)) (by rfl) T.z_len PySem.boot_len (pa_cons (pe_dget hu (kx_slot (K := K) (pv 0)) (pv 1) (fun _ _ => rfl)) pa_nil)) (pa_cons (pe_lst pa_nil) pa_nil)) (by rfl))
      (pss_cons (ps_for PassesOwn.never rfl (kx_tup (K := K) (kx_slot (K := K) (pv 0))) (pg_name (i := 4) sc_open_in_term.nd rfl (.inl rfl))
          (pss_one (ps_expr (kx_bm (K := K) PySem.F.plainAttrs_list PySem.F.slot_list_append PySem.F.type_list_append mt_append (pv 3) (pa_cons (pe_ifExp (pt_cmpR op_le (pe_dget hu (kx_slot (K := K) (pv 0)) (pv 4) (fun _ _ => rfl)) (pv 1) (nomark _)) (pv 2) (pe_dget2 hu (pe_dget hu (kx_slot (K := K) (pv 0)) (pv 4) (fun _ _ => rfl)) (pv 1) pe_int ⟨rfl, rfl, rfl, rfl⟩)) pa_nil)))))
      (pss_one (ps_ret (pe_callB (cx_min rfl) (by rfl) T.z_min (by decide +kernel) (pa_cons (C8.pe_c c_middle_of hr (by decide) (by rfl) (pa_cons (kx_slot (K := K) (pv 0)) (pa_cons (pv 3) pa_nil))) (pa_cons (pv 2) pa_nil))))))), ?_⟩
    obtain ⟨vc, vf, vp, vr, vv, ps, pp⟩ := PSl.of h
    obtain ⟨ac, rfl, hc⟩ := pp.cir
    walk_at "go"
    refine q_dg pp.rw hr2 fun u hu2 => ?_
    obtain ⟨ad, xs, rfl, hx, hxl, _⟩ := row_len hu2
    walk_at "go"
    refine NewR.mk fun l H1 hn e1 hl => ?_
    walk_at "go"
    rw [hxl]
    have hlenI : ((s.C.map V.int).length : Nat) = s.C.length := List.length_map ..
    refine for_go walk_tup (fun i σ' H' => (∃ x, σ' = [some v, some (.int t), some (.int r.length), some (.ref l), x]) ∧ Same H H' ∧ H' l = some (.lst ((s.C.take i).map fun h => V.int (if s.pg h ≤ t then r.length else s.vn h t)))) ⟨⟨_, rfl⟩, e1, hl⟩ (fun i σ' H' _ hp => sm_T hp.2.1 hc) (fun i x σ' Ha Hb hi hp y => ?_) fun σ' H' hp => ?_
    · obtain ⟨⟨x0, rfl⟩, e, hla⟩ := hp
      obtain ⟨rfl, hy⟩ := y
      rw [List.getElem?_map] at hy
      obtain ⟨c, hcx, rfl⟩ := Option.map_eq_some_iff.mp hy
      have hcC := List.mem_of_getElem? hcx
      obtain ⟨p, hpv⟩ := prom_val S hcC
      obtain ⟨f, hf⟩ := vote_dict S hcC
      have hpg : s.pg c = p := Pm.pg_of hpv
      have fin : ∀ z : Int, z = (if s.pg c ≤ t then (r.length : Int) else s.vn c t) → rAppend (V.ref l) [V.int z] Hb fun _ H2 => (∃ x, [some v, some (V.int t), some (V.int r.length), some (V.ref l), some (V.int c)] = [some v, some (V.int t), some (V.int r.length), some (V.ref l), x]) ∧ Same H H2 ∧ H2 l = some (.lst ((s.C.take (i + 1)).map fun h => V.int (if s.pg h ≤ t then r.length else s.vn h t))) := fun z hz => by
        refine k_app hla ?_ ⟨⟨_, rfl⟩, sm_mut e hn, ?_⟩
        · rw [List.length_map, List.length_take, sizeLine_eq]
          have := S.circ.le
          omega
        · rw [upd_same, List.take_add_one, hcx, List.map_append, hz]; rfl
      walk_at "go"
      refine ⟨ty_lst hla, ?_⟩
      walk_at "go"
      refine q_dg (pp.pr.monoI e) hpv fun w hw => ?_
      obtain rfl : w = .int p := hw
      walk_at "go"
      refine k_iteD (fun hle => ?_) fun hle => ?_
      · walk_at "go"
        exact fin _ (by rw [hpg, if_pos hle])
      · walk_at "go"
        refine q_dg (pp.vt.monoD e) hf fun u hu2 => ?_
        refine q_g2 hu2 (by rfl) fun o ho => ?_
        rw [vn_of hf ho]
        walk_at "go"
        exact fin _ (by rw [hpg, if_neg hle])
    · obtain ⟨⟨x0, rfl⟩, e, hla⟩ := hp
      rw [hlenI, List.take_length] at hla
      walk_at "go"
      refine ⟨ac, l, s.C.map V.int, s.C.map fun h => if s.pg h ≤ t then (r.length : Int) else s.vn h t, rfl, sm_T e hc, .inl (.inl (by rw [hla, List.map_map]; rfl)), by simp, by rw [List.length_map]; exact S.circ.ge, by rw [List.length_map]; exact S.circ.le, fun L v H2 h1 h2 h3 e2 => ?_⟩
      rw [List.length_map] at h3
      walk_at "go"
      refine q _ H2 (grt_mid h1 h2 S.circ.ge h3 (fun x _ => ?_) fun m m0 ml => ?_) (e.trans e2)
      · have := Pm.vn_ge S x t
        split <;> omega
      · have e5 : ∀ x, decide (m ≤ s.vn x t ∨ s.pg x ≤ t) = decide (m ≤ if s.pg x ≤ t then (r.length : Int) else s.vn x t) := fun x => by
          have := Pm.vn_le S (h := x) hr2
          split <;> simp_all <;> omega
        show Pm.more s.C (s.C.filter fun h => decide (m ≤ s.vn h t ∨ s.pg h ≤ t)) ↔ _
        simp only [e5]
end

/-! W4 -/
section
variable {P : Program} {w : World} {K : PySem.W.Frag} {mg : Str → Option Value} {base : Heap} {a : Adr}

def sp_chrow (K : PySem.W.Frag) (a : Adr) : Sp := fun vs H Q _ => ∃ v s n, vs = [v] ∧ PPic K a.cp H v s n ∧ Pm.Sound s ∧ n ≤ 1000 ∧ ∀ fv row H', Pm.ChRow s row → RowAt K H' fv row → Same H H' → Q fv H'
abbrev s_chosen_row_in : Stmt := (top 66)
abbrev N_chosen_row_in : List Str := ["picture", "found", "term", "row", "many"]
theorem sc_chosen_row_in : FnScope N_chosen_row_in ["picture"] (C8.fnScope s_chosen_row_in) := C8.fnScope_by (by decide +kernel)
theorem ok_chosen_row_in (D : DefX K mg "chosen_row_in" "chosen_row_in" s_chosen_row_in ["picture"]) (T : Txt K mg a) (c_chosen_in_term : C8.Cal P w K mg base 2 "chosen_in_term" (sp_chosen K a) []) (C : Cls K a) : C8.Cal P w K mg base 3 "chosen_row_in" (sp_chrow K a) [] :=
  calX D sc_chosen_row_in (fun vs H Q E h => by obtain ⟨v, s, n, rfl, h, S, hn50, q⟩ := h; rfl) fun f cdv A outer s H vs Q E hr h => by
    have hu := hu_of hr
    obtain ⟨v, s, n, rfl, h, S, hn50, q⟩ := h
    refine ⟨_, (pss_cons (ps_set (i := 1) sc_chosen_row_in.nd rfl (.inl rfl) (pe_tup pa_nil))
      (pss_cons (ps_for PassesOwn.never rfl (pi_items (kx_slot (K := K) (pv 0))) (kx_gtup (K := K) (n := 2) (by rfl) (pgs_cons (pg_name (i := 2) sc_chosen_row_in.nd rfl (.inl rfl)) (pgs_cons (pg_name (i := 3) sc_chosen_row_in.nd rfl (.inl rfl)) pgs_nil)))
          (pss_cons (ps_set (i := 4) sc_chosen_row_in.nd rfl (.inl rfl) (C8.pe_c c_chosen_in_term hr (by decide) (by rfl) (pa_cons (pv 0) (pa_cons (pv 2) pa_nil))))
          (pss_one (ps_set (i := 1) sc_chosen_row_in.nd rfl (.inl rfl) (pe_ifExp (pt_cmpR op_gt (pv 4) (pe_callB (kx_len (K := K)) (by rfl) T.z_len PySem.boot_len (pa_cons (pv 1) pa_nil)) (nomark _)) (pe_slice (kx_slT (K := K)) (pv 3) po_none (po_some (pv 4))) (pv 1))))))
      (pss_one (ps_ret (pv 1))))), ?_⟩
    obtain ⟨vc, vf, vp, vr, vv, ps, pp⟩ := PSl.of h
    obtain ⟨ar, o, kvs, rfl, hd, ct⟩ := pp.rw
    walk_at "go"
    refine NewR.mk fun l H1 hn e1 hl => ?_
    walk_at "go"
    refine k_wI (e1 _ _ hd) ?_
    refine for_go walk_items (fun i σ' H' => (∃ fv x y z row, σ' = [some v, some fv, x, y, z] ∧ RowAt K H' fv row ∧ (row = [] ∨ ∃ t r m, s.rw t = some r ∧ 0 ≤ m ∧ m ≤ (r.length : Int) ∧ s.Chs t m ∧ row = r.take m.toNat) ∧
        ∀ j, j < i → ∀ t u r m, kvs[j]? = some (Sum.inl t, u) → s.rw t = some r → 0 ≤ m → m ≤ (r.length : Int) → s.Chs t m → m ≤ (row.length : Int)) ∧ Same H H')
      ⟨⟨_, none, none, none, [], rfl, ⟨l, [], rfl, .inl (.inl hl), .nil⟩, .inl rfl, fun j hj => absurd hj (Nat.not_lt_zero _)⟩, e1⟩ (fun i σ' H' _ hp => hp.2 _ _ hd) (fun i x σ' Ha Hb hi hp y => ?_) fun σ' H' hp => ?_
    · obtain ⟨⟨fv, x1, x2, x3, row, rfl, hrow, his, hall⟩, e⟩ := hp
      obtain ⟨T1, k, u, rfl, hT, rfl, hk⟩ := y_item y
      obtain ⟨t, r, rfl, hrt, hru⟩ := ct.item hk
      have eT : Same Ha (upd Ha T1 (.tup [kV (Sum.inl t), u])) := sm_new hT
      have hT2 : upd Ha T1 (.tup [kV (Sum.inl t), u]) T1 = some (.tup [kV (Sum.inl t), u]) := upd_same
      walk_at "go"
      refine ⟨v, s, n, t, r, rfl, (PSl.pic ps pp).mono (e.trans eT), S, hrt, fun c H2 hc e2 => ?_⟩
      obtain ⟨fa, fx, rfl, hfx, hfp⟩ := hrow
      have hfl := Paired.length hfp
      walk_at "go"
      have all2 : ∀ row2 : List Pm.En, row.length ≤ row2.length → c ≤ (row2.length : Int) → ∀ j, j < i + 1 → ∀ t u r m, kvs[j]? = some (Sum.inl t, u) → s.rw t = some r → 0 ≤ m → m ≤ (r.length : Int) → s.Chs t m → m ≤ (row2.length : Int) := fun row2 l1 l2 j hj t2 u2 r2 m hk2 hr2 m0 ml pm => by
        rcases Nat.lt_or_ge j i with z | z
        · have := hall j z t2 u2 r2 m hk2 hr2 m0 ml pm
          omega
        · have : j = i := by omega
          subst this
          rw [hk] at hk2
          cases hk2
          rw [hrt] at hr2
          cases hr2
          have := hc.2.2.2 m m0 ml pm
          omega
      refine k_iteD (fun hle => ?_) fun hle => ?_
      · obtain ⟨ra, rx, rfl, hrx, hrp⟩ := RowAt.mono (e.trans (eT.trans e2)) hru
        walk_at "go"
        refine k_slT hrx fun p H3 e3 hp => ?_
        rw [cut_to hc.1] at hp
        walk_at "go"
        refine ⟨⟨_, _, _, _, r.take c.toNat, rfl, ⟨p, _, rfl, hp, paired_take _ (Paired.mapP hrp fun _ _ z => z.mono e3)⟩, .inr ⟨t, r, c, hrt, hc.1, hc.2.1, hc.2.2.1, rfl⟩, all2 _ ?_ ?_⟩, e.trans (eT.trans (e2.trans e3))⟩
        · rw [Pm.take_self hc.1 hc.2.1]; omega
        · rw [Pm.take_self hc.1 hc.2.1]; omega
      · walk_at "go"
        exact ⟨⟨_, _, _, _, row, rfl, ⟨fa, fx, rfl, sm_T (eT.trans e2) hfx, Paired.mapP hfp fun _ _ z => z.mono (eT.trans e2)⟩, his, all2 _ (Nat.le_refl _) (by omega)⟩, e.trans (eT.trans e2)⟩
    · obtain ⟨⟨fv, x1, x2, x3, row, rfl, hrow, his, hall⟩, e⟩ := hp
      walk_at "go"
      refine q fv row H' (Pm.chrow_of S his fun t r m hr m0 ml pm => ?_) hrow e
      obtain ⟨j, u, hj, _⟩ := ct.at hr
      refine hall j ?_ t u r m hj hr m0 ml pm
      rcases Nat.lt_or_ge j kvs.length with z | z
      · exact z
      · rw [List.getElem?_eq_none z] at hj; cases hj
end

/-! W5 -/
section
variable {P : Program} {w : World} {K : PySem.W.Frag} {mg : Str → Option Value} {base : Heap} {a : Adr}

theorem y_itemC {α : Type} {R : V → α → Prop} {f : Pm.Dc α} {n : Nat} {kvs : List (Key × V)} (c : Cont R kvs f n) {i : Nat} {H H' : Hp} {x : V} (y : YPair (fun i => kvs[i]?.map fun kv => kV kv.1) (fun i => kvs[i]?.map Prod.snd) i H x H') :
    ∃ T t m v, x = .ref T ∧ H T = none ∧ H' = upd H T (.tup [.int t, v]) ∧ kvs[i]? = some (Sum.inl t, v) ∧ f t = some m ∧ R v m := by
  obtain ⟨T, k, v, rfl, hT, rfl, hk⟩ := y_item y
  obtain ⟨t, m, rfl, hf, r⟩ := c.item hk
  exact ⟨T, t, m, v, rfl, hT, rfl, hk, hf, r⟩
theorem y_keyC {α : Type} {R : V → α → Prop} {f : Pm.Dc α} {n : Nat} {kvs : List (Key × V)} (c : Cont R kvs f n) {i : Nat} {H H' : Hp} {x : V} (y : H' = H ∧ ∃ k v, kvs[i]? = some (k, v) ∧ x = kV k) :
    ∃ t m v, H' = H ∧ x = .int t ∧ kvs[i]? = some (Sum.inl t, v) ∧ f t = some m ∧ R v m := by
  obtain ⟨rfl, k, v, hk, rfl⟩ := y
  obtain ⟨t, m, rfl, hf, r⟩ := c.item hk
  exact ⟨t, m, v, rfl, rfl, hk, hf, r⟩
/-- nothing is wrong: a new empty list -/
def sp_right (K : PySem.W.Frag) (a : Adr) : Sp := fun vs H Q _ => ∃ v s n, vs = [v] ∧ PPic K a.cp H v s n ∧ Pm.Sound s ∧ n ≤ 1000 ∧ ∀ p H', Same H H' → H' p = some (.lst []) → Q (.ref p) H'
theorem vg_of {s : Pm.St} {h : Int} {f : Pm.Dc Int} (e : s.vt h = some f) (t : Int) : s.vg h t = f t := by
  unfold Pm.St.vg; rw [e]; rfl
abbrev s_wrong_votes : Stmt := (top 67)
abbrev N_wrong_votes : List Str := ["picture", "found", "house", "votes", "term", "many"]
theorem sc_wrong_votes : FnScope N_wrong_votes ["picture"] (C8.fnScope s_wrong_votes) := C8.fnScope_by (by decide +kernel)
theorem ok_wrong_votes (D : DefX K mg "wrong_votes" "wrong_votes" s_wrong_votes ["picture"]) (T : Txt K mg a)  (C : Cls K a) : C8.Cal P w K mg base 3 "wrong_votes" (sp_right K a) [] :=
  calX D sc_wrong_votes (fun vs H Q E h => by obtain ⟨v, s, n, rfl, h, S, hn50, q⟩ := h; rfl) fun f cdv A outer s H vs Q E hr h => by
    have hu := hu_of hr
    obtain ⟨v, s, n, rfl, h, S, hn50, q⟩ := h
    refine ⟨_, (pss_cons (ps_set (i := 1) sc_wrong_votes.nd rfl (.inl rfl) (pe_lst pa_nil))
      (pss_cons (ps_for PassesOwn.never rfl (pi_items (kx_slot (K := K) (pv 0))) (kx_gtup (K := K) (n := 2) (by rfl) (pgs_cons (pg_name (i := 2) sc_wrong_votes.nd rfl (.inl rfl)) (pgs_cons (pg_name (i := 3) sc_wrong_votes.nd rfl (.inl rfl)) pgs_nil)))
          (pss_one (ps_for PassesOwn.never rfl (pi_items (pv 3)) (kx_gtup (K := K) (n := 2) (by rfl) (pgs_cons (pg_name (i := 4) sc_wrong_votes.nd rfl (.inl rfl)) (pgs_cons (pg_name (i := 5) sc_wrong_votes.nd rfl (.inl rfl)) pgs_nil)))
            (pss_one (ps_if (PW.pt (pw_or (pt_cmp (pc_dnotin hu (pv 4) (kx_slot (K := K) (pv 0))) rfl) (pw_or1 (pt_not (pt_chain op_le op_le (pe_dget hu (kx_slot (K := K) (pv 0)) (pv 4) (fun _ _ => rfl)) (pv 5) (pe_callB (kx_len (K := K)) (by rfl) T.z_len PySem.boot_len (pa_cons (pe_dget hu (kx_slot (K := K) (pv 0)) (pv 4) (fun _ _ => rfl)) pa_nil)))))))
              pss_never
              pss_nil)))))
      (pss_one (ps_ret (pv 1))))), ?_⟩
    obtain ⟨vc, vf, vp, vr, vv, ps, pp⟩ := PSl.of h
    obtain ⟨av, o, kvs, rfl, hd, ct⟩ := pp.vt
    walk_at "go"
    refine NewR.mk fun l H1 hn e1 hl => ?_
    walk_at "go"
    refine k_wI (e1 _ _ hd) ?_
    refine for_go walk_items (fun i σ' H' => (∃ x y z w, σ' = [some v, some (.ref l), x, y, z, w]) ∧ Same H1 H')
      ⟨⟨_, _, _, _, rfl⟩, Same.refl _⟩ (fun i σ' H' _ hp => hp.2 _ _ (e1 _ _ hd)) (fun i x σ' Ha Hb hi hp y => ?_) fun σ' H' hp => ?_
    · obtain ⟨⟨x1, x2, x3, x4, rfl⟩, e⟩ := hp
      obtain ⟨T1, c, f, _, rfl, hT, rfl, hk, hf, au, o2, ks, rfl, hd2, c2⟩ := y_itemC ct y
      have eT : Same Ha (upd Ha T1 (.tup [.int c, .ref au])) := sm_new hT
      have hT2 : upd Ha T1 (.tup [.int c, .ref au]) T1 = some (.tup [.int c, .ref au]) := upd_same
      have e0 : Same H (upd Ha T1 (.tup [.int c, .ref au])) := e1.trans (e.trans eT)
      walk_at "go"
      refine k_wI (e0 _ _ hd2) ?_
      refine for_go walk_items (fun i σ' H' => (∃ z w, σ' = [some v, some (.ref l), some (.int c), some (.ref au), z, w]) ∧ Same H1 H')
        ⟨⟨_, _, rfl⟩, e.trans eT⟩ (fun i σ' H' _ hp => (e1.trans hp.2) _ _ hd2) (fun i2 x5 σ5 Hc Hd hi2 hp2 y2 => ?_) fun σ' H' hp => ?_
      · obtain ⟨⟨x6, x7, rfl⟩, e5⟩ := hp2
        obtain ⟨T2, t, m, _, rfl, hT3, rfl, hk2, hft, rfl⟩ := y_itemC c2 y2
        have eT2 : Same Hc (upd Hc T2 (.tup [.int t, .int m])) := sm_new hT3
        have hT4 : upd Hc T2 (.tup [.int t, .int m]) T2 = some (.tup [.int t, .int m]) := upd_same
        have e6 : Same H (upd Hc T2 (.tup [.int t, .int m])) := e1.trans (e5.trans eT2)
        obtain ⟨r, fi, hr1, hr3, hr4, hr5⟩ := S.votes c t m ((vg_of hf t).trans hft)
        walk_at "go"
        refine q_dn (pp.rw.monoR e6) ?_
        rw [hr1]
        refine k_bl ?_
        walk_at "go"
        refine k_no rfl ?_
        walk_at "go"
        refine q_dg (pp.fs.monoI e6) hr3 fun w hw => ?_
        obtain rfl : w = .int fi := hw
        walk_at "go"
        refine q_dg (pp.rw.monoR e6) hr1 fun w hw => ?_
        obtain ⟨ra, rx, rfl, hrx, hrl, _⟩ := row_len hw
        walk_at "go"
        exact ⟨⟨_, _, rfl⟩, e5.trans eT2⟩
      · obtain ⟨⟨x6, x7, rfl⟩, e5⟩ := hp
        exact ⟨⟨_, _, _, _, rfl⟩, e5⟩
    · obtain ⟨⟨x1, x2, x3, x4, rfl⟩, e⟩ := hp
      walk_at "go"
      exact q l H' (e1.trans e) (e _ _ hl)
abbrev s_wrong_firsts : Stmt := (top 69)
abbrev N_wrong_firsts : List Str := ["picture", "term", "row"]
theorem sc_wrong_firsts : FnScope N_wrong_firsts ["picture"] (C8.fnScope s_wrong_firsts) := C8.fnScope_by (by decide +kernel)
theorem ok_wrong_firsts (D : DefX K mg "wrong_firsts" "wrong_firsts" s_wrong_firsts ["picture"]) (T : Txt K mg a)  (C : Cls K a) : C8.Cal P w K mg base 3 "wrong_firsts" (sp_right K a) [] :=
  calX D sc_wrong_firsts (fun vs H Q E h => by obtain ⟨v, s, n, rfl, h, S, hn50, q⟩ := h; rfl) fun f cdv A outer s H vs Q E hr h => by
    have hu := hu_of hr
    obtain ⟨v, s, n, rfl, h, S, hn50, q⟩ := h
    refine ⟨_, (pss_one (ps_ret (pe_lc (own := [("term", 1), ("row", 2)]) rfl sc_wrong_firsts.nd (pi_items (kx_slot (K := K) (pv 0))) (blkOk_by (N := N_wrong_firsts) (sc := (C8.fnScope s_wrong_firsts)) (by decide +kernel)) (fun _ _ _ _ _ => (kx_gtup (K := K) (n := 2) (by rfl) (pgs_cons (pg_name (i := 1) sc_wrong_firsts.nd rfl (.inl rfl)) (pgs_cons (pg_name (i := 2) sc_wrong_firsts.nd rfl (.inl rfl)) pgs_nil)))) (fun _ _ _ _ _ => (pts_one (pt_cmpR op_gt (pe_dget hu (kx_slot (K := K) (pv 0)) (pv 1) (fun _ _ => rfl)) (pe_callB (kx_len (K := K)) (by rfl) T.z_len PySem.boot_len (pa_cons (pv 2) pa_nil)) (nomark _)))) (fun _ _ _ _ _ => (pe_tup (pa_cons pe_str (pa_cons (pv 1) pa_nil))))))), ?_⟩
    obtain ⟨vc, vf, vp, vr, vv, ps, pp⟩ := PSl.of h
    obtain ⟨ar, o, kvs, er, hd, ct⟩ := id pp.rw
    subst er
    walk_at "go"
    refine k_wI hd ?_
    refine lc_val walk_items kvs (fun _ => false) (fun _ => .non) rfl (by have := ct.len; omega) (fun _ e => e _ _ hd) (fun i x y Ha Hb hx e yy Ky Kn ky kn => ?_) fun D H' hD e hl => ?_
    · obtain ⟨T1, t, r, u, rfl, hT, rfl, hk, hrt, hru⟩ := y_itemC ct yy
      have eT : Same Ha (upd Ha T1 (.tup [.int t, u])) := sm_new hT
      have hT2 : upd Ha T1 (.tup [.int t, u]) T1 = some (.tup [.int t, u]) := upd_same
      obtain ⟨f, hf⟩ := Option.isSome_iff_exists.mp (show (s.fs t).isSome = true by rw [S.fsk, hrt]; rfl)
      have hfl := S.firsts t r f hrt hf
      obtain ⟨ra, rx, rfl, hrx, hrl, _⟩ := row_len (hru.mono (e.trans eT))
      walk_at "go"
      refine q_dg (pp.fs.monoI (e.trans eT)) hf fun w hw => ?_
      obtain rfl : w = .int f := hw
      walk_at "go"
      exact kn _ eT rfl
    · rw [List.filter_eq_nil_iff.mpr (fun _ _ => by simp)] at hl
      exact q D H' e hl
abbrev s_wrong_promises : Stmt := (top 68)
abbrev N_wrong_promises : List Str := ["picture", "found", "house", "votes", "term"]
theorem sc_wrong_promises : FnScope N_wrong_promises ["picture"] (C8.fnScope s_wrong_promises) := C8.fnScope_by (by decide +kernel)
theorem ok_wrong_promises (D : DefX K mg "wrong_promises" "wrong_promises" s_wrong_promises ["picture"]) (T : Txt K mg a)  (C : Cls K a) : C8.Cal P w K mg base 3 "wrong_promises" (sp_right K a) [] :=
  calX D sc_wrong_promises (fun vs H Q E h => by obtain ⟨v, s, n, rfl, h, S, hn50, q⟩ := h; rfl) fun f cdv A outer s H vs Q E hr h => by
    have hu := hu_of hr
    obtain ⟨v, s, n, rfl, h, S, hn50, q⟩ := h
    refine ⟨_, (pss_cons (ps_set (i := 1) sc_wrong_promises.nd rfl (.inl rfl) (pe_lst pa_nil))
      (pss_cons (ps_for PassesOwn.never rfl (pi_items (kx_slot (K := K) (pv 0))) (kx_gtup (K := K) (n := 2) (by rfl) (pgs_cons (pg_name (i := 2) sc_wrong_promises.nd rfl (.inr rfl)) (pgs_cons (pg_name (i := 3) sc_wrong_promises.nd rfl (.inl rfl)) pgs_nil)))
          (pss_one (ps_expr (kx_bm (K := K) PySem.F.plainAttrs_list PySem.F.slot_list_extend PySem.F.type_list_extend mt_extend (pv 1) (pa_cons (pe_lc (own := [("term", 4)]) rfl sc_wrong_promises.nd (pi_keys (pv 3)) (blkOk_by (N := N_wrong_promises) (sc := (C8.fnScope s_wrong_promises)) (by decide +kernel)) (fun _ _ _ _ _ => (pg_name (i := 4) sc_wrong_promises.nd rfl (.inl rfl))) (fun _ _ _ _ _ => (pts_one (pt_cmpR op_gt (pv 4) (pe_dget hu (kx_slot (K := K) (pv 0)) (pv 2) (fun _ _ => rfl)) (nomark _)))) (fun _ _ _ _ _ => (pe_tup (pa_cons pe_str (pa_cons (pv 2) (pa_cons (pv 4) pa_nil)))))) pa_nil)))))
      (pss_one (ps_ret (pv 1))))), ?_⟩
    obtain ⟨vc, vf, vp, vr, vv, ps, pp⟩ := PSl.of h
    obtain ⟨av, o, kvs, er, hd, ct⟩ := id pp.vt
    subst er
    walk_at "go"
    refine NewR.mk fun l H1 hn e1 hl => ?_
    walk_at "go"
    refine k_wI (e1 _ _ hd) ?_
    refine for_go walk_items (fun i σ' H' => (∃ x y z, σ' = [some v, some (.ref l), x, y, z]) ∧ Same H H' ∧ H' l = some (.lst []))
      ⟨⟨_, _, _, rfl⟩, e1, hl⟩ (fun i σ' H' _ hp => hp.2.1 _ _ hd) (fun i x σ' Ha Hb hi hp y => ?_) fun σ' H' hp => ?_
    · obtain ⟨⟨x1, x2, x3, rfl⟩, e, hla⟩ := hp
      obtain ⟨T1, c, f, _, rfl, hT, rfl, hk, hf, au, o2, ks, rfl, hd2, c2⟩ := y_itemC ct y
      have eT : Same Ha (upd Ha T1 (.tup [.int c, .ref au])) := sm_new hT
      have hT2 : upd Ha T1 (.tup [.int c, .ref au]) T1 = some (.tup [.int c, .ref au]) := upd_same
      have e0 := e.trans eT
      have hcC : c ∈ s.C := (S.vtk c).mp (by rw [hf]; rfl)
      obtain ⟨p, hpv⟩ := prom_val S hcC
      walk_at "go"
      refine ⟨ty_lst (eT _ _ hla), ?_⟩
      walk_at "go"
      refine k_wK (e0 _ _ hd2) ?_
      refine lc_val walk_keys ks (fun _ => false) (fun _ => .non) rfl (by have := c2.len; omega) (fun _ e2 => (e0.trans e2) _ _ hd2) (fun i x y Hc Hd hx e2 yy Ky Kn ky kn => ?_) fun D H' hD e2 hl => ?_
      · obtain ⟨t, m, _, rfl, rfl, hk2, hft, rfl⟩ := y_keyC c2 yy
        have := S.proms c t m ((vg_of hf t).trans hft)
        rw [Pm.pg_of hpv] at this
        walk_at "go"
        refine q_dg (pp.pr.monoI (e0.trans e2)) hpv fun w hw => ?_
        obtain rfl : w = .int p := hw
        walk_at "go"
        exact kn _ (Same.refl _) rfl
      · rw [List.filter_eq_nil_iff.mpr (fun _ _ => by simp)] at hl
        walk_at "go"
        refine k_ext (e2 _ _ (eT _ _ hla)) hl (by decide) ?_
        exact ⟨⟨_, _, _, rfl⟩, sm_mut (e0.trans e2) hn, upd_same⟩
    · obtain ⟨⟨x1, x2, x3, rfl⟩, e, hla⟩ := hp
      walk_at "go"
      exact q l H' e hla
abbrev s_wrong_lots : Stmt := (top 70)
abbrev N_wrong_lots : List Str := ["picture", "found", "term", "lot", "house"]
theorem sc_wrong_lots : FnScope N_wrong_lots ["picture"] (C8.fnScope s_wrong_lots) := C8.fnScope_by (by decide +kernel)
theorem ok_wrong_lots (D : DefX K mg "wrong_lots" "wrong_lots" s_wrong_lots ["picture"]) (T : Txt K mg a) (c_is_half : C8.Cal P w K mg base 1 "is_half" (sp_half K) []) (C : Cls K a) : C8.Cal P w K mg base 3 "wrong_lots" (sp_right K a) [] :=
  calX D sc_wrong_lots (fun vs H Q E h => by obtain ⟨v, s, n, rfl, h, S, hn50, q⟩ := h; rfl) fun f cdv A outer s H vs Q E hr h => by
    have hu := hu_of hr
    obtain ⟨v, s, n, rfl, h, S, hn50, q⟩ := h
    refine ⟨_, (pss_cons (ps_set (i := 1) sc_wrong_lots.nd rfl (.inl rfl) (pe_lst pa_nil))
      (pss_cons (ps_for PassesOwn.never rfl (pi_keys (kx_slot (K := K) (pv 0))) (pg_name (i := 2) sc_wrong_lots.nd rfl (.inr rfl))
          (pss_cons (ps_setLc (i := 3) (own := [("house", 4)]) rfl sc_wrong_lots.nd rfl rfl (sw_true rfl rfl rfl (by decide +kernel)) (kx_tup (K := K) (kx_slot (K := K) (pv 0))) (blkOk_by (N := N_wrong_lots) (sc := (C8.fnScope s_wrong_lots)) (by decide +kernel)) (fun _ _ _ _ _ => (pg_name (i := 4) sc_wrong_lots.nd rfl (.inl rfl))) (fun _ _ _ _ _ => (pts_one (pt_cmpR op_ge (pe_dget hu (kx_slot (K := K) (pv 0)) (pv 4) (fun _ _ => rfl)) (pv 2) (nomark _)))) (fun _ _ _ _ _ => (pv 4)))
          (pss_one (ps_if (pt_not (pt_val (C8.pe_c c_is_half hr (by decide) (by rfl) (pa_cons (kx_slot (K := K) (pv 0)) (pa_cons (pv 3) pa_nil)))))
            pss_never
            pss_nil))))
      (pss_one (ps_ret (pv 1))))), ?_⟩
    obtain ⟨vc, vf, vp, vr, vv, ps, pp⟩ := PSl.of h
    obtain ⟨ac, rfl, hc⟩ := pp.cir
    obtain ⟨ar, o, kvs, er, hd, ct⟩ := id pp.rw
    subst er
    walk_at "go"
    refine NewR.mk fun l H1 hn e1 hl => ?_
    walk_at "go"
    refine k_wK (e1 _ _ hd) ?_
    refine for_go walk_keys (fun i σ' H' => (∃ x y z, σ' = [some v, some (.ref l), x, y, z]) ∧ Same H1 H')
      ⟨⟨_, _, _, rfl⟩, Same.refl _⟩ (fun i σ' H' _ hp => hp.2 _ _ (e1 _ _ hd)) (fun i x σ' Ha Hb hi hp y => ?_) fun σ' H' hp => ?_
    · obtain ⟨⟨x1, x2, x3, rfl⟩, e⟩ := hp
      obtain ⟨t, r, u, rfl, rfl, hk, hrt, hru⟩ := y_keyC ct y
      have e0 := e1.trans e
      walk_at "go"
      refine lc_val walk_tup s.C (fun h => decide (t ≤ s.pg h)) (fun h => .int h) (by rw [List.length_map]) (by have := S.circ.le; rw [List.length_map]; omega) (fun _ e2 => sm_T (e0.trans e2) hc) (fun i x y Hc Hd hx e2 yy Ky Kn ky kn => ?_) fun D H' hD e2 hl => ?_
      · obtain ⟨rfl, hy⟩ := yy
        rw [List.getElem?_map, hx] at hy
        obtain rfl : V.int x = y := Option.some.inj hy
        obtain ⟨p, hpv⟩ := prom_val S (List.mem_of_getElem? hx)
        rw [Pm.pg_of hpv] at ky kn
        walk_at "go"
        refine q_dg (pp.pr.monoI (e0.trans e2)) hpv fun w hw => ?_
        obtain rfl : w = .int p := hw
        walk_at "go"
        refine k_iteD (fun hle => ?_) fun hle => ?_
        · walk_at "go"
          exact ky _ (Same.refl _) (decide_eq_true hle)
        · exact kn _ (Same.refl _) (decide_eq_false hle)
      · walk_at "go"
        have hlt := S.lots t r hrt
        unfold Pm.more at hlt
        refine ⟨ac, D, s.C.map V.int, _, rfl, sm_T (e0.trans e2) hc, .inl (.inl (.inl hl)), ?_⟩
        rw [decide_eq_true (by simp only [List.length_map]; omega)]
        walk_at "go"
        exact ⟨⟨_, _, _, rfl⟩, e.trans e2⟩
    · obtain ⟨⟨x1, x2, x3, rfl⟩, e⟩ := hp
      walk_at "go"
      exact q l H' (e1.trans e) (e _ _ hl)
abbrev s_wrong_chosen : Stmt := (top 71)
abbrev N_wrong_chosen : List Str := ["picture", "found", "term", "row", "many", "later", "other"]
theorem sc_wrong_chosen : FnScope N_wrong_chosen ["picture"] (C8.fnScope s_wrong_chosen) := C8.fnScope_by (by decide +kernel)
theorem ok_wrong_chosen (D : DefX K mg "wrong_chosen" "wrong_chosen" s_wrong_chosen ["picture"]) (T : Txt K mg a) (c_open_in_term : C8.Cal P w K mg base 2 "open_in_term" (sp_open K a) []) (C : Cls K a) : C8.Cal P w K mg base 3 "wrong_chosen" (sp_right K a) [] :=
  calX D sc_wrong_chosen (fun vs H Q E h => by obtain ⟨v, s, n, rfl, h, S, hn50, q⟩ := h; rfl) fun f cdv A outer s H vs Q E hr h => by
    have hu := hu_of hr
    obtain ⟨v, s, n, rfl, h, S, hn50, q⟩ := h
    refine ⟨_, (pss_cons (ps_set (i := 1) sc_wrong_chosen.nd rfl (.inl rfl) (pe_lst pa_nil))
      (pss_cons (ps_for PassesOwn.never rfl (pi_items (kx_slot (K := K) (pv 0))) (kx_gtup (K := K) (n := 2) (by rfl) (pgs_cons (pg_name (i := 2) sc_wrong_chosen.nd rfl (.inl rfl)) (pgs_cons (pg_name (i := 3) sc_wrong_chosen.nd rfl (.inl rfl)) pgs_nil)))
          (pss_cons (ps_set (i := 4) sc_wrong_chosen.nd rfl (.inl rfl) (C8.pe_c c_open_in_term hr (by decide) (by rfl) (pa_cons (pv 0) (pa_cons (pv 2) pa_nil))))
          (pss_one (ps_for PassesOwn.never rfl (pi_items (kx_slot (K := K) (pv 0))) (kx_gtup (K := K) (n := 2) (by rfl) (pgs_cons (pg_name (i := 5) sc_wrong_chosen.nd rfl (.inl rfl)) (pgs_cons (pg_name (i := 6) sc_wrong_chosen.nd rfl (.inl rfl)) pgs_nil)))
            (pss_one (ps_if (PW.pt (pw_and (pt_cmpR op_lt (pv 2) (pv 5) (nomark _)) (pw_and1 (PW.pt (pw_or (pt_cmpR op_gt (pv 4) (pe_dget hu (kx_slot (K := K) (pv 0)) (pv 5) (fun _ _ => rfl)) (nomark _)) (pw_or1 (pt_cmpR (kx_ne3 (K := K) hr.units) (pe_slice (kx_slT (K := K)) (pv 3) po_none (po_some (pv 4))) (pe_slice (kx_slT (K := K)) (pv 6) po_none (po_some (pv 4))) (nomark _))))))))
              pss_never
              pss_nil))))))
      (pss_one (ps_ret (pv 1))))), ?_⟩
    obtain ⟨vc, vf, vp, vr, vv, ps, pp⟩ := PSl.of h
    obtain ⟨ar, o, kvs, er, hd, ct⟩ := id pp.rw
    subst er
    walk_at "go"
    refine NewR.mk fun l H1 hn e1 hl => ?_
    walk_at "go"
    refine k_wI (e1 _ _ hd) ?_
    refine for_go walk_items (fun i σ' H' => (∃ x y z w x2, σ' = [some v, some (.ref l), x, y, z, w, x2]) ∧ Same H1 H')
      ⟨⟨_, _, _, _, _, rfl⟩, Same.refl _⟩ (fun i σ' H' _ hp => hp.2 _ _ (e1 _ _ hd)) (fun i x σ' Ha Hb hi hp y => ?_) fun σ' H' hp => ?_
    · obtain ⟨⟨x1, x2, x3, x4, x5, rfl⟩, e⟩ := hp
      obtain ⟨T1, t, r, u, rfl, hT, rfl, hk, hrt, hru⟩ := y_itemC ct y
      have eT : Same Ha (upd Ha T1 (.tup [.int t, u])) := sm_new hT
      have hT2 : upd Ha T1 (.tup [.int t, u]) T1 = some (.tup [.int t, u]) := upd_same
      have e0 : Same H (upd Ha T1 (.tup [.int t, u])) := e1.trans (e.trans eT)
      walk_at "go"
      refine ⟨v, s, n, t, r, rfl, (PSl.pic ps pp).mono e0, S, hrt, fun c H2 hc e2 => ?_⟩
      walk_at "go"
      refine k_wI ((e0.trans e2) _ _ hd) ?_
      refine for_go walk_items (fun i σ' H' => (∃ z w, σ' = [some v, some (.ref l), some (.int t), some u, some (.int c), z, w]) ∧ Same H1 H')
        ⟨⟨_, _, rfl⟩, e.trans (eT.trans e2)⟩ (fun i σ' H' _ hp => (e1.trans hp.2) _ _ hd) (fun i2 x5 σ5 Hc Hd hi2 hp2 y2 => ?_) fun σ' H' hp => ?_
      · obtain ⟨⟨x6, x7, rfl⟩, e5⟩ := hp2
        obtain ⟨T2, t2, r2, u2, rfl, hT3, rfl, hk2, hrt2, hru2⟩ := y_itemC ct y2
        have eT2 : Same Hc (upd Hc T2 (.tup [.int t2, u2])) := sm_new hT3
        have hT4 : upd Hc T2 (.tup [.int t2, u2]) T2 = some (.tup [.int t2, u2]) := upd_same
        have e6 : Same H (upd Hc T2 (.tup [.int t2, u2])) := e1.trans (e5.trans eT2)
        walk_at "go"
        refine k_iteD (fun hlt => ?_) fun hlt => ?_
        · obtain ⟨f, hf⟩ := Option.isSome_iff_exists.mp (show (s.fs t2).isSome = true by rw [S.fsk, hrt2]; rfl)
          have hch := S.chosen t t2 r r2 f hrt hrt2 hf hlt c hc.1 hc.2.1 hc.2.2.1
          obtain ⟨ra, rx, rfl, hrx, hrp⟩ := hru.mono e6
          obtain ⟨sa, sx, rfl, hsx, hsp⟩ := hru2.mono e6
          walk_at "go"
          refine q_dg (pp.fs.monoI e6) hf fun w hw => ?_
          obtain rfl : w = .int f := hw
          walk_at "go"
          refine k_slT hrx fun p H3 e3 hp => ?_
          walk_at "go"
          refine k_slT (sm_T e3 hsx) fun p2 H4 e4 hp2 => ?_
          rw [cut_to hc.1] at hp hp2
          refine ⟨p, p2, _, _, rfl, rfl, sm_T e4 hp, hp2, ?_, ?_⟩
          · refine eq_ents (n := 8) (paired_take _ (Paired.mapP hrp fun _ _ z => z.mono (e3.trans e4))) ?_
            rw [hch.2]
            exact paired_take _ (Paired.mapP hsp fun _ _ z => z.mono (e3.trans e4))
          · walk_at "go"
            exact ⟨⟨_, _, rfl⟩, e5.trans (eT2.trans (e3.trans e4))⟩
        · walk_at "go"
          exact ⟨⟨_, _, rfl⟩, e5.trans eT2⟩
      · obtain ⟨⟨x6, x7, rfl⟩, e5⟩ := hp
        exact ⟨⟨_, _, _, _, _, rfl⟩, e5⟩
    · obtain ⟨⟨x1, x2, x3, x4, x5, rfl⟩, e⟩ := hp
      walk_at "go"
      exact q l H' (e1.trans e) (e _ _ hl)
end

/-! W6 -/
section
variable {P : Program} {w : World} {K : PySem.W.Frag} {mg : Str → Option Value} {base : Heap} {a : Adr}

/-- the best vote below a term of these houses -/
def BestOf (s : Pm.St) (L : List Int) (t led m : Int) : Prop := (led = -1 ∧ m = 0 ∧ ∀ h ∈ L, ∀ t', t' < t → s.vg h t' = none) ∨
  ∃ h ∈ L, led < t ∧ s.vg h led = some m ∧ ∀ h' ∈ L, ∀ t' m', t' < t → s.vg h' t' = some m' → t' < led ∨ (t' = led ∧ m' ≤ m)
theorem best_step {s : Pm.St} (S : Pm.Sound s) {L : List Int} {h t led m led' m' : Int} {ps : List (Int × Int)} (b : BestOf s L t led m) (hps : ∀ t' m', (t', m') ∈ ps ↔ t' < t ∧ s.vg h t' = some m')
    (hm : (led', m') ∈ (led, m) :: ps) (hmax : ∀ z ∈ (led, m) :: ps, ¬ plt (led', m') z) : BestOf s (L ++ [h]) t led' m' := by
  have low : ∀ t' m', s.vg h t' = some m' → 0 ≤ t' ∧ 0 ≤ m' := fun t' m' e => by
    obtain ⟨r, f, h1, h2, h3, h4⟩ := S.votes h t' m' e
    have := S.tge t' r h1
    have := S.firsts t' r f h1 h2
    omega
  have lt_of : ∀ t1 m1, (t1, m1) ∈ (led, m) :: ps → t1 < led' ∨ (t1 = led' ∧ m1 ≤ m') := fun t1 m1 hz => by
    have := hmax _ hz
    unfold plt at this
    simp only at this
    omega
  rcases b with ⟨rfl, rfl, hn⟩ | ⟨h0, hh0, hlt, hv, hall⟩
  · rcases List.mem_cons.mp hm with e | e
    · cases e
      left
      refine ⟨rfl, rfl, fun h' hh t' ht => ?_⟩
      rcases List.mem_append.mp hh with hh | hh
      · exact hn h' hh t' ht
      · rw [List.mem_singleton.mp hh]
        cases e : s.vg h t' with
        | none => rfl
        | some m1 =>
          have l1 := low t' m1 e
          have l2 := lt_of t' m1 (List.mem_cons_of_mem _ ((hps t' m1).mpr ⟨ht, e⟩))
          omega
    · right
      obtain ⟨hl, hv⟩ := (hps _ _).mp e
      refine ⟨h, List.mem_append_right _ List.mem_cons_self, hl, hv, fun h' hh t' m1 ht hv1 => ?_⟩
      rcases List.mem_append.mp hh with hh | hh
      · rw [hn h' hh t' ht] at hv1; cases hv1
      · rw [List.mem_singleton.mp hh] at hv1
        exact lt_of t' m1 (List.mem_cons_of_mem _ ((hps t' m1).mpr ⟨ht, hv1⟩))
  · right
    have base : led < led' ∨ (led = led' ∧ m ≤ m') := lt_of led m List.mem_cons_self
    have all2 : ∀ h' ∈ L ++ [h], ∀ t' m1, t' < t → s.vg h' t' = some m1 → t' < led' ∨ (t' = led' ∧ m1 ≤ m') := fun h' hh t' m1 ht hv1 => by
      rcases List.mem_append.mp hh with hh | hh
      · have := hall h' hh t' m1 ht hv1
        omega
      · rw [List.mem_singleton.mp hh] at hv1
        exact lt_of t' m1 (List.mem_cons_of_mem _ ((hps t' m1).mpr ⟨ht, hv1⟩))
    rcases List.mem_cons.mp hm with e | e
    · cases e
      exact ⟨h0, List.mem_append_left _ hh0, hlt, hv, all2⟩
    · obtain ⟨hl, hv2⟩ := (hps _ _).mp e
      exact ⟨h, List.mem_append_right _ List.mem_cons_self, hl, hv2, all2⟩
def sp_best (K : PySem.W.Frag) (a : Adr) : Sp := fun vs H Q _ => ∃ v s n l lot t, vs = [v, .ref l, .int t] ∧ PPic K a.cp H v s n ∧ Pm.Sound s ∧ n ≤ 1000 ∧ SqT K H l (lot.map V.int) ∧ (∀ h ∈ lot, h ∈ s.C) ∧
  ∀ p led m H', BestOf s lot t led m → SqT K H' p [.int led, .int m] → Same H H' → Q (.ref p) H'
abbrev s_best_vote : Stmt := (top 73)
abbrev N_best_vote : List Str := ["picture", "lot", "term", "found", "house", "some", "led", "many"]
theorem sc_best_vote : FnScope N_best_vote ["picture", "lot", "term"] (C8.fnScope s_best_vote) := C8.fnScope_by (by decide +kernel)
theorem ok_best_vote (D : DefX K mg "best_vote" "best_vote" s_best_vote ["picture", "lot", "term"]) (T : Txt K mg a)  (C : Cls K a) : C8.Cal P w K mg base 1 "best_vote" (sp_best K a) [] :=
  calX D sc_best_vote (fun vs H Q E h => by obtain ⟨v, s, n, l, lot, t, rfl, h, S, hn50, hl, hC, q⟩ := h; rfl) fun f cdv A outer s H vs Q E hr h => by
    have hu := hu_of hr
    obtain ⟨v, s, n, l, lot, t, rfl, h, S, hn50, hl, hC, q⟩ := h
    refine ⟨_, (pss_cons (ps_set (i := 3) sc_best_vote.nd rfl (.inl rfl) (C8.pe_gc (by rfl) T.c_NO_VOTE))
      (pss_cons (ps_for PassesOwn.never rfl (kx_tup (K := K) (pv 1)) (pg_name (i := 4) sc_best_vote.nd rfl (.inl rfl))
          (pss_cons (ps_setLc (i := 5) (own := [("led", 6), ("many", 7)]) rfl sc_best_vote.nd rfl rfl (sw_true rfl rfl rfl (by decide +kernel)) (pi_items (pe_dget hu (kx_slot (K := K) (pv 0)) (pv 4) (fun _ _ => rfl))) (blkOk_by (N := N_best_vote) (sc := (C8.fnScope s_best_vote)) (by decide +kernel)) (fun _ _ _ _ _ => (kx_gtup (K := K) (n := 2) (by rfl) (pgs_cons (pg_name (i := 6) sc_best_vote.nd rfl (.inl rfl)) (pgs_cons (pg_name (i := 7) sc_best_vote.nd rfl (.inl rfl)) pgs_nil)))) (fun _ _ _ _ _ => (pts_one (pt_cmpR op_lt (pv 6) (pv 2) (nomark _)))) (fun _ _ _ _ _ => (pe_tup (pa_cons (pv 6) (pa_cons (pv 7) pa_nil)))))
          (pss_one (ps_set (i := 3) sc_best_vote.nd rfl (.inl rfl) (pe_callB (kx_maxP (K := K) rfl hr.units) (by rfl) T.z_max (by decide +kernel) (pa_cons (pe_lst (pa_cons (pv 3) (kx_star (K := K) (pv 5) pa_nil))) pa_nil))))))
      (pss_one (ps_ret (pv 3))))), ?_⟩
    obtain ⟨vc, vf, vp, vr, vv, ps, pp⟩ := PSl.of h
    walk_at "go"
    refine for_go walk_tup (fun i σ' H' => (∃ p led m x y z w, σ' = [some v, some (.ref l), some (.int t), some (.ref p), x, y, z, w] ∧ SqT K H' p [.int led, .int m] ∧ BestOf s (lot.take i) t led m) ∧ Same H H')
      ⟨⟨a.nv, -1, 0, _, _, _, _, rfl, T.t_NO_VOTE _, .inl ⟨rfl, rfl, fun h hh => (nomatch hh)⟩⟩, Same.refl _⟩ (fun i σ' H' _ hp => sm_T hp.2 hl) (fun i x σ' Ha Hb hi hp y => ?_) fun σ' H' hp => ?_
    · obtain ⟨⟨p, led, m, x1, x2, x3, x4, rfl, hpt, hb⟩, e⟩ := hp
      obtain ⟨rfl, hy⟩ := y
      rw [List.getElem?_map] at hy
      obtain ⟨c, hcx, rfl⟩ := Option.map_eq_some_iff.mp hy
      have hcC := hC c (List.mem_of_getElem? hcx)
      obtain ⟨f, hf⟩ := vote_dict S hcC
      walk_at "go"
      refine q_dg (pp.vt.monoD e) hf fun u hu2 => ?_
      obtain ⟨au, o, kvs, rfl, hd, ct⟩ := hu2
      walk_at "go"
      refine k_wI hd ?_
      refine lc_obj walk_items kvs (fun kv => match kv.1 with | .inl i => decide (i < t) | _ => false) (fun H v kv => ∃ i m, kv = (Sum.inl i, .int m) ∧ IsP K H v (i, m)) (fun {H H' v x} e z => ?_) rfl (by have := ct.len; omega) (fun _ e2 => e2 _ _ hd) (fun i x y B Hc Hd D hx eb bd hD eB yy Ky Kn ky kn => ?_) fun D H' ys hD e2 hl2 hps => ?_
      · obtain ⟨i, m, e1, tt, e2, e3⟩ := z
        exact ⟨i, m, e1, tt, e2, sm_T e e3⟩
      · obtain ⟨T1, t1, m1, _, rfl, hT, rfl, hk, hft, rfl⟩ := y_itemC ct yy
        rw [hx] at hk
        obtain rfl := Option.some.inj hk
        have eT : Same Hc (upd Hc T1 (.tup [.int t1, .int m1])) := sm_new hT
        have hT2 : upd Hc T1 (.tup [.int t1, .int m1]) T1 = some (.tup [.int t1, .int m1]) := upd_same
        walk_at "go"
        refine k_iteD (fun hle => ?_) fun hle => ?_
        · walk_at "go"
          refine NewR.mkB fun p2 hp2 => ?_
          have hneD : D ≠ p2 := fun z => by
            obtain ⟨u, hu⟩ := hD
            rw [z] at hu
            have := eT _ _ hu
            rw [hp2] at this; cases this
          refine ky _ (upd (upd B T1 (.tup [.int t1, .int m1])) p2 (.tup [.int t1, .int m1])) _ ?_ ?_ ?_ (eT.trans (sm_new hp2)) (decide_eq_true hle) ⟨t1, m1, rfl, p2, rfl, .inl (.inl upd_same)⟩
          · have h1 : B T1 = none := by
              cases e : B T1 with
              | none => rfl
              | some u => have := eB _ _ e; rw [hT] at this; cases this
            have h2 : B p2 = none := by
              cases e : B p2 with
              | none => rfl
              | some u => have := eT _ _ (eB _ _ e); rw [hp2] at this; cases this
            refine (sm_new h1).trans (sm_new ?_)
            by_cases z : p2 = T1
            · subst z; rw [upd_same] at hp2; cases hp2
            · rw [upd_ne z]; exact h2
          · have hne1 : D ≠ T1 := fun z => by
              obtain ⟨u, hu⟩ := hD
              rw [z, hT] at hu; cases hu
            rw [upd_ne hneD, upd_ne hne1]; exact bd
          · refine sm_put (sm_put (eB.trans (eT.trans (sm_new hp2))) ?_) upd_same
            exact (sm_new hp2) _ _ hT2
        · walk_at "go"
          exact kn _ eT (decide_eq_false hle)
      · walk_at "go"
        refine ⟨?_, NewR.mk fun l2 H2 hl2n e3 hl2v => ?_⟩
        · have g1 := Paired.length hps
          have g2 := List.length_filter_le (fun kv : Key × V => match kv.1 with | .inl i => decide (i < t) | _ => false) kvs
          have g3 := ct.len
          rw [sizeLine_eq]
          simp only [List.length_cons, List.append_nil]
          omega
        have hmm : ∃ zs : List (Int × Int), Paired (IsP K H2) ys zs ∧ ∀ t' m', (t', m') ∈ zs ↔ t' < t ∧ s.vg c t' = some m' := by
          have key : ∀ (ys : List V) (ks : List (Key × V)), Paired (fun v (kv : Key × V) => ∃ i m, kv = (Sum.inl i, .int m) ∧ IsP K H' v (i, m)) ys ks → ∃ zs : List (Int × Int), Paired (IsP K H2) ys zs ∧ ks = zs.map fun z => (Sum.inl z.1, V.int z.2) := by
            intro ys ks hp
            induction hp with
            | nil => exact ⟨[], .nil, rfl⟩
            | cons h t ih =>
              obtain ⟨i, m, rfl, tt, e5, e6⟩ := h
              obtain ⟨zs, h1, h2⟩ := ih
              exact ⟨(i, m) :: zs, .cons ⟨tt, e5, sm_T e3 e6⟩ h1, by rw [h2]; rfl⟩
          obtain ⟨zs, h1, h2⟩ := key ys _ hps
          refine ⟨zs, h1, fun t' m' => ?_⟩
          have hm : (t', m') ∈ zs ↔ ((Sum.inl t' : Key), V.int m') ∈ zs.map fun z => ((Sum.inl z.1 : Key), V.int z.2) := by
            constructor
            · intro h; exact List.mem_map.mpr ⟨_, h, rfl⟩
            · intro h
              obtain ⟨z, hz, e⟩ := List.mem_map.mp h
              obtain ⟨z1, z2⟩ := z
              cases e; exact hz
          rw [hm, ← h2, List.mem_filter, vg_of hf t']
          constructor
          · rintro ⟨g1, g2⟩
            obtain ⟨j, hj, ej⟩ := List.getElem_of_mem g1
            obtain ⟨t2, x2, e7, e8, e9⟩ := ct.item (i := j) (k := Sum.inl t') (v := V.int m') (by rw [List.getElem?_eq_getElem hj, ej])
            cases e7
            cases e9
            exact ⟨of_decide_eq_true g2, e8⟩
          · rintro ⟨g1, g2⟩
            obtain ⟨j, v2, hj, e9⟩ := ct.at g2
            cases e9
            exact ⟨List.mem_of_getElem? hj, decide_eq_true g1⟩
        obtain ⟨zs, hz1, hz2⟩ := hmm
        refine ⟨l2, V.ref p :: (ys ++ []), (led, m) :: zs, rfl, .inl (.inl hl2v), .cons ⟨p, rfl, sm_T (e2.trans e3) hpt⟩ (by rw [List.append_nil]; exact hz1), by simp, fun t3 p3 hp3 hmax h3 => ?_⟩
        obtain ⟨p31, p32⟩ := p3
        refine ⟨⟨t3, p31, p32, _, _, _, _, rfl, h3, ?_⟩, e.trans (e2.trans e3)⟩
        rw [List.take_add_one, hcx]
        exact best_step S hb hz2 hp3 hmax
    · obtain ⟨⟨p, led, m, x1, x2, x3, x4, rfl, hpt, hb⟩, e⟩ := hp
      walk_at "go"
      rw [List.length_map, List.take_length] at hb
      exact q p led m H' hb hpt e
def sp_told (K : PySem.W.Frag) (a : Adr) : Sp := fun vs H Q _ => ∃ v s n l lot t, vs = [v, .ref l, .int t] ∧ PPic K a.cp H v s n ∧ Pm.Sound s ∧ n ≤ 1000 ∧ SqT K H l (lot.map V.int) ∧ (∀ h ∈ lot, h ∈ s.C) ∧
  ∀ fv row H', Pm.Told s lot t row → RowAt K H' fv row → Same H H' → Q fv H'
abbrev s_told_row : Stmt := (top 74)
abbrev N_told_row : List Str := ["picture", "lot", "term", "led", "many"]
theorem sc_told_row : FnScope N_told_row ["picture", "lot", "term"] (C8.fnScope s_told_row) := C8.fnScope_by (by decide +kernel)
theorem ok_told_row (D : DefX K mg "told_row" "told_row" s_told_row ["picture", "lot", "term"]) (T : Txt K mg a) (c_best_vote : C8.Cal P w K mg base 1 "best_vote" (sp_best K a) []) (C : Cls K a) : C8.Cal P w K mg base 2 "told_row" (sp_told K a) [] :=
  calX D sc_told_row (fun vs H Q E h => by obtain ⟨v, s, n, l, lot, t, rfl, h, S, hn50, hl, hC, q⟩ := h; rfl) fun f cdv A outer s H vs Q E hr h => by
    have hu := hu_of hr
    obtain ⟨v, s, n, l, lot, t, rfl, h, S, hn50, hl, hC, q⟩ := h
    refine ⟨_, (pss_cons (ps_asg (C8.pe_c c_best_vote hr (by decide) (by rfl) (pa_cons (pv 0) (pa_cons (pv 1) (pa_cons (pv 2) pa_nil)))) (kx_gtup (K := K) (n := 2) (by rfl) (pgs_cons (pg_name (i := 3) sc_told_row.nd rfl (.inl rfl)) (pgs_cons (pg_name (i := 4) sc_told_row.nd rfl (.inl rfl)) pgs_nil))))
      (pss_one (ps_ret (pe_slice (kx_slT (K := K)) (pe_dget2 hu (kx_slot (K := K) (pv 0)) (pv 3) (pe_tup pa_nil) ⟨rfl, rfl, rfl, rfl⟩) po_none (po_some (pv 4)))))), ?_⟩
    obtain ⟨vc, vf, vp, vr, vv, ps, pp⟩ := PSl.of h
    walk_at "go"
    refine ⟨v, s, n, l, lot, t, rfl, h, S, hn50, hl, hC, fun p led m H1 hb hp e => ?_⟩
    walk_at "go"
    refine q_g2T (fun e z => z.mono e) (pp.rw.monoR e) (by rfl) fun o p2 H2 hn2 e2 hp2 ho => ?_
    walk_at "go"
    rcases hb with ⟨rfl, rfl, hn⟩ | ⟨h0, hh0, hlt, hv, hall⟩
    · have hr0 : s.rw (-1) = none := by
        cases e : s.rw (-1) with
        | none => rfl
        | some r => have := S.tge _ _ e; omega
      rw [hr0] at ho
      rw [ho.none_of]
      refine k_slT (.inl (.inl hp2)) fun p3 H3 e3 hp3 => ?_
      rw [cut_to (by omega)] at hp3
      exact q _ [] H3 (.none hn) ⟨p3, _, rfl, hp3, .nil⟩ (e.trans (e2.trans e3))
    · obtain ⟨r, f, h1, h2, h3, h4⟩ := S.votes h0 led m hv
      have h5 := S.firsts led r f h1 h2
      rw [h1] at ho
      obtain ⟨w, rfl, ra, rx, rfl, hrx, hrp⟩ := ho.some_of
      refine k_slT hrx fun p3 H3 e3 hp3 => ?_
      rw [cut_to (by omega)] at hp3
      exact q _ _ H3 (.some hh0 hlt hv h1 hall) ⟨p3, _, rfl, hp3, paired_take _ (Paired.mapP hrp fun _ _ z => z.mono e3)⟩ (e.trans (e2.trans e3))
/-- no fault -/
def sp_fault (K : PySem.W.Frag) (a : Adr) : Sp := fun vs H Q _ => ∃ v s n, vs = [v] ∧ PPic K a.cp H v s n ∧ Pm.Sound s ∧ n ≤ 1000 ∧ ∀ H', Same H H' → Q .non H'
structure FaultG (mg : Str → Option Value) (f1 f2 f3 f4 f5 : Addr) : Prop where
  c_wrong_votes : ∃ u, mg "wrong_votes" = some u ∧ RelV (.ref f1) u
  c_wrong_promises : ∃ u, mg "wrong_promises" = some u ∧ RelV (.ref f2) u
  c_wrong_firsts : ∃ u, mg "wrong_firsts" = some u ∧ RelV (.ref f3) u
  c_wrong_lots : ∃ u, mg "wrong_lots" = some u ∧ RelV (.ref f4) u
  c_wrong_chosen : ∃ u, mg "wrong_chosen" = some u ∧ RelV (.ref f5) u
theorem held_of {k : Nat} {x : Str} {sp : Sp} (c : C8.Cal P w K mg base k x sp []) : ∃ f, (∃ u, mg x = some u ∧ RelV (.ref f) u) ∧ Held P w K mg base k f sp := by
  obtain ⟨f, fd, ps, ds, F, hm, kp, b, d⟩ := c.ex
  cases d
  exact ⟨f, ⟨_, hm, rfl⟩, ⟨fd, ps, F, kp, b⟩⟩
abbrev s_fault_of : Stmt := (top 72)
abbrev N_fault_of : List Str := ["picture", "wrong", "found"]
theorem sc_fault_of : FnScope N_fault_of ["picture"] (C8.fnScope s_fault_of) := C8.fnScope_by (by decide +kernel)
theorem ok_fault_of (D : DefX K mg "fault_of" "fault_of" s_fault_of ["picture"]) (T : Txt K mg a) (c_wrong_chosen : C8.Cal P w K mg base 3 "wrong_chosen" (sp_right K a) []) (c_wrong_firsts : C8.Cal P w K mg base 3 "wrong_firsts" (sp_right K a) []) (c_wrong_lots : C8.Cal P w K mg base 3 "wrong_lots" (sp_right K a) []) (c_wrong_promises : C8.Cal P w K mg base 3 "wrong_promises" (sp_right K a) []) (c_wrong_votes : C8.Cal P w K mg base 3 "wrong_votes" (sp_right K a) []) (c_wrong_votes : C8.Cal P w K mg base 3 "wrong_votes" (sp_right K a) []) (c_wrong_promises : C8.Cal P w K mg base 3 "wrong_promises" (sp_right K a) []) (c_wrong_firsts : C8.Cal P w K mg base 3 "wrong_firsts" (sp_right K a) []) (c_wrong_lots : C8.Cal P w K mg base 3 "wrong_lots" (sp_right K a) []) (c_wrong_chosen : C8.Cal P w K mg base 3 "wrong_chosen" (sp_right K a) []) : C8.Cal P w K mg base 4 "fault_of" (sp_fault K a) [] :=
  calX D sc_fault_of (fun vs H Q E h => by obtain ⟨v, s, n, rfl, h, S, hn50, q⟩ := h; rfl) fun f cdv A outer s H vs Q E hr h => by
    have hu := hu_of hr
    obtain ⟨v, s, n, rfl, h, S, hn50, q⟩ := h
    obtain ⟨f1, m1, h1⟩ := held_of c_wrong_votes
    obtain ⟨f2, m2, h2⟩ := held_of c_wrong_promises
    obtain ⟨f3, m3, h3⟩ := held_of c_wrong_firsts
    obtain ⟨f4, m4, h4⟩ := held_of c_wrong_lots
    obtain ⟨f5, m5, h5⟩ := held_of c_wrong_chosen
    have F : FaultG mg f1 f2 f3 f4 f5 := ⟨m1, m2, m3, m4, m5⟩
    have hA : ∀ f sp, (if f = f1 ∨ f = f2 ∨ f = f3 ∨ f = f4 ∨ f = f5 then some (sp_right K a) else none) = some sp → Held P w K mg base 3 f sp := fun f sp e => by
      split at e
      · cases e
        rename_i z
        rcases z with rfl | rfl | rfl | rfl | rfl <;> assumption
      · cases e
    refine ⟨_, (pss_cons (ps_for PassesOwn.never rfl (kx_tup (K := K) (pe_tup (pa_cons (C8.pe_gc (by rfl) F.c_wrong_votes) (pa_cons (C8.pe_gc (by rfl) F.c_wrong_promises) (pa_cons (C8.pe_gc (by rfl) F.c_wrong_firsts) (pa_cons (C8.pe_gc (by rfl) F.c_wrong_lots) (pa_cons (C8.pe_gc (by rfl) F.c_wrong_chosen) pa_nil))))))) (pg_name (i := 1) sc_fault_of.nd rfl (.inl rfl))
          (pss_cons (ps_set (i := 2) sc_fault_of.nd rfl (.inl rfl) (pe_callA (i := 1) hA (hr.mono (by decide)) rfl (by first | exact .inl rfl | exact .inr rfl) (pa_cons (pv 0) pa_nil)))
          (pss_one (ps_if (pt_cmpR (kx_neE (K := K) hr.units) (pv 2) (pe_lst pa_nil) (nomark _))
            (pss_one (ps_ret (pe_ix (kx_ixL (K := K)) (pv 2) pe_int (fun _ _ => rfl))))
            pss_nil))))
      (pss_one (ps_ret pe_non))), ?_⟩
    walk_at "go"
    refine NewR.mk fun p H1 hn e1 hp => ?_
    walk_at "go"
    refine for_go walk_tup (fun i σ' H' => (∃ x y, σ' = [some v, x, y]) ∧ Same H1 H') ⟨⟨_, _, rfl⟩, Same.refl _⟩ (fun i σ' H' _ hp2 => .inl (.inl (hp2.2 _ _ hp))) (fun i x σ' Ha Hb hi hp2 y => ?_) fun σ' H' hp2 => ?_
    · obtain ⟨⟨x1, x2, rfl⟩, e⟩ := hp2
      obtain ⟨rfl, hy⟩ := y
      have hm := List.mem_of_getElem? hy
      have hx : ∃ f, x = .ref f ∧ (f = f1 ∨ f = f2 ∨ f = f3 ∨ f = f4 ∨ f = f5) := by
        simp only [List.mem_cons, List.not_mem_nil, or_false] at hm
        rcases hm with rfl | rfl | rfl | rfl | rfl
        · exact ⟨_, rfl, .inl rfl⟩
        · exact ⟨_, rfl, .inr (.inl rfl)⟩
        · exact ⟨_, rfl, .inr (.inr (.inl rfl))⟩
        · exact ⟨_, rfl, .inr (.inr (.inr (.inl rfl)))⟩
        · exact ⟨_, rfl, .inr (.inr (.inr (.inr rfl)))⟩
      obtain ⟨f, rfl, hf⟩ := hx
      walk_at "go"
      refine ⟨f, _, rfl, if_pos hf, ?_⟩
      walk_at "go"
      refine ⟨v, s, n, rfl, h.mono (e1.trans e), S, hn50, fun p2 H2 e2 hp3 => ?_⟩
      walk_at "go"
      refine NewR.mk fun p4 H4 hn4 e4 hp4 => ?_
      have hp5 := e4 _ _ hp3
      refine k_neEL (.inl (.inl hp5)) (.inl (.inl hp4)) ?_
      walk_at "go"
      refine k_no rfl ?_
      walk_at "go"
      exact ⟨⟨_, _, rfl⟩, e.trans (e2.trans e4)⟩
    · obtain ⟨⟨x1, x2, rfl⟩, e⟩ := hp2
      walk_at "go"
      exact q H' (e1.trans e)
end

/-! W7 -/
section
variable {P : Program} {w : World} {K : PySem.W.Frag} {mg : Str → Option Value} {base : Heap} {a : Adr}

theorem k_eqE1 {H : Hp} {Q : VK} {a b : Addr} {xs : List V} (h1 : SqT K H a xs) (h2 : SqT K H b []) (q : Q (.bl xs.isEmpty) H) : rEqE K id (.ref a) (.ref b) H Q := ⟨a, b, xs, rfl, rfl, .inr ⟨h1, h2⟩, q⟩
/-- an action as it lies in the heap -/
def ActAt (K : PySem.W.Frag) (H : Hp) (v : V) : Pm.Act → Prop
  | .promise h t => ∃ p, v = .ref p ∧ SqT K H p [.str "promise", .int h, .int t]
  | .lead t lot => ∃ p l, v = .ref p ∧ SqT K H p [.str "lead", .int t, .ref l] ∧ SqT K H l (lot.map V.int)
  | .append t e => ∃ p d, v = .ref p ∧ SqT K H p [.str "append", .int t, d] ∧ EntAt K H d e
  | .vote h t m => ∃ p, v = .ref p ∧ SqT K H p [.str "vote", .int h, .int t, .int m]
theorem ActAt.mono {H H' : Hp} {v : V} {x : Pm.Act} (e : Same H H') (h : ActAt K H v x) : ActAt K H' v x := by
  cases x with
  | promise h0 t => obtain ⟨p, rfl, h⟩ := h; exact ⟨p, rfl, sm_T e h⟩
  | lead t lot => obtain ⟨p, l, rfl, h, g⟩ := h; exact ⟨p, l, rfl, sm_T e h, sm_T e g⟩
  | append t x => obtain ⟨p, d, rfl, h, g⟩ := h; exact ⟨p, d, rfl, sm_T e h, g.mono e⟩
  | vote h0 t m => obtain ⟨p, rfl, h⟩ := h; exact ⟨p, rfl, sm_T e h⟩
/-- numbers that are small -/
def Sm (n : Int) : Prop := -(10 ^ 60) < n ∧ n < 10 ^ 60
def ASmall : Pm.Act → Prop
  | .promise h t => Sm h ∧ Sm t
  | .lead t _ => Sm t
  | .append t e => Sm t ∧ EnOk e
  | .vote h t m => Sm h ∧ Sm t ∧ Sm m
def sp_whole : Sp := fun vs H Q _ => ∃ n l : Int, vs = [.int n, .int l] ∧ Sm n ∧ Q (.bl (decide (n ≥ l))) H
abbrev s_is_whole_p : Stmt := (top 51)
abbrev N_is_whole_p : List Str := ["value", "least"]
theorem sc_is_whole_p : FnScope N_is_whole_p ["value", "least"] (C8.fnScope s_is_whole_p) := C8.fnScope_by (by decide +kernel)
theorem ok_is_whole_p (D : DefX K mg "is_whole_pictures" "is_whole" s_is_whole_p ["value", "least"]) (T : Txt K mg a) (c_is_integer : C8.Cal P w K mg base 1 "is_integer" sp_int [])  : C8.Cal P w K mg base 2 "is_whole_pictures" sp_whole [] :=
  calX D sc_is_whole_p (fun vs H Q E h => by obtain ⟨n, l, rfl, hn, q⟩ := h; rfl) fun f cdv A outer s H vs Q E hr h => by
    have hu := hu_of hr
    obtain ⟨n, l, rfl, hn, q⟩ := h
    refine ⟨_, (pss_one (ps_ret (pe_and (C8.pe_c c_is_integer hr (by decide) (by rfl) (pa_cons (pv 0) pa_nil)) (pe_one (pe_cmpR op_ge (pv 0) (pv 1) (nomark _)))))), ?_⟩
    walk_at "go"
    refine u_int hn.1 hn.2 ?_
    walk_at "go"
    exact q
theorem lot_len {s : Pm.St} (S : Pm.Sound s) {lot : List Int} (hs : lot.Pairwise (· < ·)) (hC : ∀ h ∈ lot, h ∈ s.C) : lot.length ≤ 7 := by
  have h1 := Pm.lot_filter S.nd (Pm.up_nodup hs) hC
  have h2 := List.length_filter_le (fun h => decide (h ∈ lot)) s.C
  have := S.circ.le
  omega
def sp_lotof (K : PySem.W.Frag) (a : Adr) : Sp := fun vs H Q _ => ∃ v s n t l lot, vs = [v, .int t, .ref l] ∧ PPic K a.cp H v s n ∧ Pm.Sound s ∧ SqT K H l (lot.map V.int) ∧ lot.Pairwise (· < ·) ∧ (∀ h ∈ lot, h ∈ s.C) ∧ Pm.more s.C lot ∧ (∀ h ∈ lot, t ≤ s.pg h) ∧ ∀ H', Same H H' → Q (.bl true) H'
abbrev s_is_lot_of : Stmt := (top 75)
abbrev N_is_lot_of : List Str := ["picture", "term", "value", "house", "one", "other"]
theorem sc_is_lot_of : FnScope N_is_lot_of ["picture", "term", "value"] (C8.fnScope s_is_lot_of) := C8.fnScope_by (by decide +kernel)
theorem ok_is_lot_of (D : DefX K mg "is_lot_of" "is_lot_of" s_is_lot_of ["picture", "term", "value"]) (T : Txt K mg a) (c_is_half : C8.Cal P w K mg base 1 "is_half" (sp_half K) []) (c_is_integer : C8.Cal P w K mg base 1 "is_integer" sp_int []) (C : Cls K a) : C8.Cal P w K mg base 2 "is_lot_of" (sp_lotof K a) [] :=
  calX D sc_is_lot_of (fun vs H Q E h => by obtain ⟨v, s, n, t, l, lot, rfl, h, S, hl, hs, hC, hm, hp, q⟩ := h; rfl) fun f cdv A outer s H vs Q E hr h => by
    have hu := hu_of hr
    obtain ⟨v, s, n, t, l, lot, rfl, h, S, hl, hs, hC, hm, hp, q⟩ := h
    refine ⟨_, (pss_cons (ps_if (PW.pt (pw_or (pt_not (pt_val (pe_callB (kx_isi (K := K)) (by rfl) T.z_isinstance (by decide +kernel) (pa_cons (pv 2) (pa_cons (pe_bltn (v := .ty "tuple") (by rfl) T.z_tuple (by decide +kernel) rfl) pa_nil))))) (pw_or1 (pt_not (pt_val (pe_callB (kx_all (K := K) rfl) (by rfl) T.z_all (by decide +kernel) (pa_cons (pe_lc (own := [("house", 3)]) rfl sc_is_lot_of.nd (kx_tup (K := K) (pv 2)) (blkOk_by (N := N_is_lot_of) (sc := (C8.fnScope s_is_lot_of)) (by decide +kernel)) (fun _ _ _ _ _ => (pg_name (i := 3) sc_is_lot_of.nd rfl (.inl rfl))) (fun _ _ _ _ _ => pts_nil) (fun _ _ _ _ _ => (pe_and (C8.pe_c c_is_integer hr (by decide) (by rfl) (pa_cons (pv 3) pa_nil)) (pe_one (pe_cmpR (kx_in (K := K)) (pv 3) (kx_slot (K := K) (pv 0)) (by rfl)))))) pa_nil)))))))
          (pss_one (ps_ret pe_bl))
          pss_nil)
      (pss_cons (ps_if (PW.pt (pw_or (pt_not (pt_val (pe_callB (kx_all (K := K) rfl) (by rfl) T.z_all (by decide +kernel) (pa_cons (pe_lc (own := [("one", 4), ("other", 5)]) rfl sc_is_lot_of.nd (kx_zip (K := K) (by rfl) T.z_zip (pa_cons (pv 2) (pa_cons (pe_slice (kx_slT (K := K)) (pv 2) (po_some pe_int) po_none) pa_nil))) (blkOk_by (N := N_is_lot_of) (sc := (C8.fnScope s_is_lot_of)) (by decide +kernel)) (fun _ _ _ _ _ => (kx_gtup (K := K) (n := 2) (by rfl) (pgs_cons (pg_name (i := 4) sc_is_lot_of.nd rfl (.inl rfl)) (pgs_cons (pg_name (i := 5) sc_is_lot_of.nd rfl (.inl rfl)) pgs_nil)))) (fun _ _ _ _ _ => pts_nil) (fun _ _ _ _ _ => (pe_cmpR op_lt (pv 4) (pv 5) (nomark _)))) pa_nil)))) (pw_or1 (pt_not (pt_val (C8.pe_c c_is_half hr (by decide) (by rfl) (pa_cons (kx_slot (K := K) (pv 0)) (pa_cons (pv 2) pa_nil))))))))
          (pss_one (ps_ret pe_bl))
          pss_nil)
      (pss_one (ps_ret (pe_callB (kx_all (K := K) rfl) (by rfl) T.z_all (by decide +kernel) (pa_cons (pe_lc (own := [("house", 3)]) rfl sc_is_lot_of.nd (kx_tup (K := K) (pv 2)) (blkOk_by (N := N_is_lot_of) (sc := (C8.fnScope s_is_lot_of)) (by decide +kernel)) (fun _ _ _ _ _ => (pg_name (i := 3) sc_is_lot_of.nd rfl (.inl rfl))) (fun _ _ _ _ _ => pts_nil) (fun _ _ _ _ _ => (pe_cmpR op_ge (pe_dget hu (kx_slot (K := K) (pv 0)) (pv 3) (fun _ _ => rfl)) (pv 1) (nomark _)))) pa_nil)))))), ?_⟩
    obtain ⟨vc, vf, vp, vr, vv, ps, pp⟩ := PSl.of h
    obtain ⟨ac, rfl, hc⟩ := pp.cir
    have hlen := lot_len S hs hC
    have small : ∀ h ∈ lot, Sm h := fun h hh => by
      have := S.circ.nm h (hC h hh)
      constructor <;> omega
    walk_at "go"
    refine lc_true walk_tup (by rw [List.length_map]; omega) (fun _ e => sm_T e hl) (fun i v Ha Hb hi e y Ky Kn ky => ?_) fun D H1 hD e hl1 => ?_
    · obtain ⟨rfl, hv⟩ := y
      rw [List.getElem?_map] at hv
      obtain ⟨c, hcx, rfl⟩ := Option.map_eq_some_iff.mp hv
      have hcm := List.mem_of_getElem? hcx
      have hcC := hC c hcm
      have sc := small c hcm
      walk_at "go"
      refine u_int sc.1 sc.2 ?_
      walk_at "go"
      rw [decide_eq_true hcC]
      exact ky _ (Same.refl _)
    · walk_at "go"
      refine k_allT hl1 ?_
      walk_at "go"
      refine k_slT (sm_T e hl) fun p H2 e2 hp2 => ?_
      rw [show (some 1 : Option Int) = some ((1 : Nat) : Int) from rfl, cut_from] at hp2
      walk_at "go"
      refine lc_true (walk_zipT rfl) (by rw [List.length_map, List.length_drop, List.length_map]; omega) (fun _ e3 => ⟨sm_T (e.trans (e2.trans e3)) hl, sm_T e3 hp2⟩) (fun i v Ha Hb hi e y Ky Kn ky => ?_) fun D2 H3 hD2 e3 hl2 => ?_
      · obtain ⟨T, x, z, rfl, hT, rfl, h1, h2⟩ := y
        replace h1 : (lot.map V.int)[i]? = some x := h1
        replace h2 : ((lot.map V.int).drop 1)[i]? = some z := h2
        rw [List.getElem?_map] at h1
        rw [List.getElem?_drop, List.getElem?_map] at h2
        obtain ⟨c, hc, rfl⟩ := Option.map_eq_some_iff.mp h1
        obtain ⟨d, hd, rfl⟩ := Option.map_eq_some_iff.mp h2
        have hT2 : upd Ha T (.tup [V.int c, V.int d]) T = some (.tup [V.int c, V.int d]) := upd_same
        have hcd : c < d := by
          obtain ⟨l1, g1⟩ := List.getElem?_eq_some_iff.mp hc
          obtain ⟨l2, g2⟩ := List.getElem?_eq_some_iff.mp hd
          rw [← g1, ← g2]
          exact List.pairwise_iff_getElem.mp hs i (1 + i) l1 l2 (by omega)
        walk_at "go"
        rw [decide_eq_true hcd]
        exact ky _ (sm_new hT)
      · walk_at "go"
        refine k_allT hl2 ?_
        have e03 := e.trans (e2.trans e3)
        walk_at "go"
        unfold Pm.more at hm
        refine ⟨ac, l, s.C.map V.int, lot.map V.int, rfl, sm_T e03 hc, .inr (sm_T e03 hl), ?_⟩
        rw [decide_eq_true (by simp only [List.length_map]; omega)]
        walk_at "go"
        refine lc_true walk_tup (by rw [List.length_map]; omega) (fun _ e => sm_T (e03.trans e) hl) (fun i v Ha Hb hi e y Ky Kn ky => ?_) fun D H4 hD e4 hl4 => ?_
        · obtain ⟨rfl, hv⟩ := y
          rw [List.getElem?_map] at hv
          obtain ⟨c, hcx, rfl⟩ := Option.map_eq_some_iff.mp hv
          have hcm := List.mem_of_getElem? hcx
          obtain ⟨p0, hpv⟩ := prom_val S (hC c hcm)
          have hpt := hp c hcm
          rw [Pm.pg_of hpv] at hpt
          walk_at "go"
          refine q_dg (pp.pr.monoI (e03.trans e)) hpv fun w hw => ?_
          obtain rfl : w = .int p0 := hw
          walk_at "go"
          rw [decide_eq_true hpt]
          exact ky _ (Same.refl _)
        · walk_at "go"
          refine k_allT hl4 ?_
          exact q _ (e03.trans e4)
/-- a vote that is let, or one below the house's promise -/
def VoteQ (s : Pm.St) (h t m : Int) (b : Bool) : Prop := (b = true ∧ Pm.Let s (.vote h t m)) ∨ (b = false ∧ (∃ p, s.pr h = some p ∧ t < p) ∧ (s.rw t).isSome = true)
def sp_votelet (K : PySem.W.Frag) (a : Adr) : Sp := fun vs H Q _ => ∃ v s n h t m b, vs = [v, .int h, .int t, .int m] ∧ PPic K a.cp H v s n ∧ Pm.Sound s ∧ Sm t ∧ Sm m ∧ VoteQ s h t m b ∧ Q (.bl b) H
abbrev s_is_vote_let : Stmt := (top 76)
abbrev N_is_vote_let : List Str := ["picture", "house", "term", "many", "least"]
theorem sc_is_vote_let : FnScope N_is_vote_let ["picture", "house", "term", "many"] (C8.fnScope s_is_vote_let) := C8.fnScope_by (by decide +kernel)
theorem ok_is_vote_let (D : DefX K mg "is_vote_let" "is_vote_let" s_is_vote_let ["picture", "house", "term", "many"]) (T : Txt K mg a) (c_is_integer : C8.Cal P w K mg base 1 "is_integer" sp_int []) (C : Cls K a) : C8.Cal P w K mg base 2 "is_vote_let" (sp_votelet K a) [] :=
  calX D sc_is_vote_let (fun vs H Q E h => by obtain ⟨v, s, n, h, t, m, b, rfl, hp, S, st, sm, hv, q⟩ := h; rfl) fun f cdv A outer s H vs Q E hr h => by
    have hu := hu_of hr
    obtain ⟨v, s, n, h, t, m, b, rfl, hp, S, st, sm, hv, q⟩ := h
    refine ⟨_, (pss_cons (ps_if (PW.pt (pw_or (pt_not (pt_val (C8.pe_c c_is_integer hr (by decide) (by rfl) (pa_cons (pv 2) pa_nil)))) (pw_or (pt_cmp (pc_dnotin hu (pv 2) (kx_slot (K := K) (pv 0))) rfl) (pw_or1 (pt_cmpR op_gt (pe_dget hu (kx_slot (K := K) (pv 0)) (pv 1) (fun _ _ => rfl)) (pv 2) (nomark _))))))
          (pss_one (ps_ret pe_bl))
          pss_nil)
      (pss_cons (ps_set (i := 4) sc_is_vote_let.nd rfl (.inl rfl) (pe_callB (cx_max rfl) (by rfl) T.z_max (by decide +kernel) (pa_cons (pe_dget hu (kx_slot (K := K) (pv 0)) (pv 2) (fun _ _ => rfl)) (pa_cons (pe_dget2 hu (pe_dget hu (kx_slot (K := K) (pv 0)) (pv 1) (fun _ _ => rfl)) (pv 2) pe_int ⟨rfl, rfl, rfl, rfl⟩) pa_nil))))
      (pss_one (ps_ret (pe_and (C8.pe_c c_is_integer hr (by decide) (by rfl) (pa_cons (pv 3) pa_nil)) (pe_one (pe_chain op_le op_le (pv 4) (pv 3) (pe_callB (kx_len (K := K)) (by rfl) T.z_len PySem.boot_len (pa_cons (pe_dget hu (kx_slot (K := K) (pv 0)) (pv 2) (fun _ _ => rfl)) pa_nil))))))))), ?_⟩
    obtain ⟨vc, vf, vp, vr, vv, ps, pp⟩ := PSl.of hp
    walk_at "go"
    refine u_int st.1 st.2 ?_
    walk_at "go"
    rcases hv with ⟨rfl, p, r, f, h1, h2, h3, h4, h5, h6, h7⟩ | ⟨rfl, ⟨p, h1, h4⟩, h2⟩
    · refine q_dn pp.rw ?_
      rw [h2]
      refine k_bl ?_
      refine k_no rfl ?_
      walk_at "go"
      refine q_dg pp.pr h1 fun w hw => ?_
      obtain rfl : w = .int p := hw
      walk_at "go"
      refine q_dg pp.fs h3 fun w hw => ?_
      obtain rfl : w = .int f := hw
      have hC : h ∈ s.C := (S.prk h).mp (by rw [h1]; rfl)
      obtain ⟨fv, hfv⟩ := vote_dict S hC
      walk_at "go"
      refine q_dg pp.vt hfv fun u hu2 => ?_
      refine q_g2 hu2 (by rfl) fun o ho => ?_
      rw [vn_of hfv ho]
      walk_at "go"
      refine u_int sm.1 sm.2 ?_
      walk_at "go"
      refine q_dg pp.rw h2 fun w hw => ?_
      obtain ⟨ra, rx, rfl, hrx, hrl, _⟩ := row_len hw
      walk_at "go"
      refine q_dT (by rw [hrl]; exact h7) q
    · refine q_dn pp.rw ?_
      rw [h2]
      refine k_bl ?_
      refine k_no rfl ?_
      walk_at "go"
      refine q_dg pp.pr h1 fun w hw => ?_
      obtain rfl : w = .int p := hw
      walk_at "go"
      exact q
/-- the answer to an action: let, or such a vote -/
def LetQ (s : Pm.St) : Pm.Act → Bool → Prop
  | .vote h t m, b => VoteQ s h t m b ∧ h ∈ s.C
  | x, b => b = true ∧ Pm.Let s x
def sp_let (K : PySem.W.Frag) (a : Adr) : Sp := fun vs H Q _ => ∃ v s n x act b, vs = [v, x] ∧ PPic K a.cp H v s n ∧ Pm.Sound s ∧ ActAt K H x act ∧ ASmall act ∧ LetQ s act b ∧ ∀ H', Same H H' → Q (.bl b) H'
abbrev s_is_let_in : Stmt := (top 77)
abbrev N_is_let_in : List Str := ["picture", "value"]
theorem sc_is_let_in : FnScope N_is_let_in ["picture", "value"] (C8.fnScope s_is_let_in) := C8.fnScope_by (by decide +kernel)
theorem ok_is_let_in (D : DefX K mg "is_let_in" "is_let_in" s_is_let_in ["picture", "value"]) (T : Txt K mg a) (c_is_entry : C8.Cal P w K mg base 6 "is_entry" (sp_entry K) []) (c_is_integer : C8.Cal P w K mg base 1 "is_integer" sp_int []) (c_is_lot_of : C8.Cal P w K mg base 2 "is_lot_of" (sp_lotof K a) []) (c_is_vote_let : C8.Cal P w K mg base 2 "is_vote_let" (sp_votelet K a) []) (c_is_whole_pictures : C8.Cal P w K mg base 2 "is_whole_pictures" sp_whole []) (C : Cls K a) (T2 : Txt2 K w mg a) : C8.Cal P w K mg base 7 "is_let_in" (sp_let K a) [] :=
  calX D sc_is_let_in (fun vs H Q E h => by obtain ⟨v, s, n, x, act, b, rfl, hp, S, ha, hs, hq, q⟩ := h; rfl) fun f cdv A outer s H vs Q E hr h => by
    have hu := hu_of hr
    obtain ⟨v, s, n, x, act, b, rfl, hp, S, ha, hs, hq, q⟩ := h
    obtain ⟨vc, vf, vp, vr, vv, ps, pp⟩ := PSl.of hp
    obtain ⟨ac, rfl, hc⟩ := id pp.cir
    cases act with
    | promise h t =>
      obtain ⟨p, rfl, hx⟩ := ha
      obtain ⟨rfl, p0, h1, h2⟩ := hq
      obtain ⟨s1, s2⟩ := hs
      have hC : h ∈ s.C := (S.prk h).mp (by rw [h1]; rfl)
      have hp0 := S.prm h p0 h1
      refine ⟨_, (pss_cons (ps_if (PW.pt (pw_or (pt_not (pt_val (pe_callB (kx_isi (K := K)) (by rfl) T.z_isinstance (by decide +kernel) (pa_cons (pv 1) (pa_cons (pe_bltn (v := .ty "tuple") (by rfl) T.z_tuple (by decide +kernel) rfl) pa_nil))))) (pw_or (pt_cmpR (kx_eqE (K := K) hr.units) (pv 1) (pe_tup pa_nil) (nomark _)) (pw_or1 (pt_not (pt_val (pe_callB (kx_isi (K := K)) (by rfl) T.z_isinstance (by decide +kernel) (pa_cons (pe_ix (kx_ix (K := K)) (pv 1) pe_int (fun _ _ => rfl)) (pa_cons (pe_bltn (v := .ty "str") (by rfl) T.z_str (by decide +kernel) rfl) pa_nil)))))))))
          (pss_one (ps_ret pe_bl))
          pss_nil)
      (pss_cons (ps_if (pt_cmpR op_ne (pe_callB (kx_len (K := K)) (by rfl) T.z_len PySem.boot_len (pa_cons (pv 1) pa_nil)) (kx_kget (K := K) (w := w) (C8.pe_gc (by rfl) T2.c_ACTION_SIZES) (pe_ix (kx_ix (K := K)) (pv 1) pe_int (fun _ _ => rfl)) pe_int ⟨rfl, rfl, rfl, rfl⟩) (nomark _))
          (pss_one (ps_ret pe_bl))
          pss_nil)
      (pss_cons (ps_match (pe_ix (kx_ix (K := K)) (pv 1) pe_int (fun _ _ => rfl))
          (pcs_cons (pss_one (ps_ret (pe_and (C8.pe_c c_is_whole_pictures hr (by decide) (by rfl) (pa_cons (pe_ix (kx_ix (K := K)) (pv 1) pe_int (fun _ _ => rfl)) (pa_cons pe_int pa_nil))) (pe_and (pe_cmp (pc_dnotin hu (pe_ix (kx_ix (K := K)) (pv 1) pe_int (fun _ _ => rfl)) (kx_slot (K := K) (pv 0))) rfl) (pe_one (C8.pe_c c_is_lot_of hr (by decide) (by rfl) (pa_cons (pv 0) (pa_cons (pe_ix (kx_ix (K := K)) (pv 1) pe_int (fun _ _ => rfl)) (pa_cons (pe_ix (kx_ix (K := K)) (pv 1) pe_int (fun _ _ => rfl)) pa_nil)))))))))
          (pcs_cons (pss_one (ps_ret (pe_and (C8.pe_c c_is_integer hr (by decide) (by rfl) (pa_cons (pe_ix (kx_ix (K := K)) (pv 1) pe_int (fun _ _ => rfl)) pa_nil)) (pe_and (pe_cmp (pc_din hu (pe_ix (kx_ix (K := K)) (pv 1) pe_int (fun _ _ => rfl)) (kx_slot (K := K) (pv 0))) rfl) (pe_one (C8.pe_c c_is_entry hr (by decide) (by rfl) (pa_cons (pe_ix (kx_ix (K := K)) (pv 1) pe_int (fun _ _ => rfl)) pa_nil)))))))
          pcs_nil)))
      (pss_cons (ps_if (PW.pt (pw_or (pt_not (pt_val (C8.pe_c c_is_integer hr (by decide) (by rfl) (pa_cons (pe_ix (kx_ix (K := K)) (pv 1) pe_int (fun _ _ => rfl)) pa_nil)))) (pw_or1 (pt_cmpR (kx_nin (K := K)) (pe_ix (kx_ix (K := K)) (pv 1) pe_int (fun _ _ => rfl)) (kx_slot (K := K) (pv 0)) (by rfl)))))
          (pss_one (ps_ret pe_bl))
          pss_nil)
      (pss_cons (ps_if (pt_cmpR op_eq (pe_ix (kx_ix (K := K)) (pv 1) pe_int (fun _ _ => rfl)) (C8.pe_gc (by rfl) T.c_PROMISE) (nomark _))
          (pss_one (ps_ret (pe_and (C8.pe_c c_is_whole_pictures hr (by decide) (by rfl) (pa_cons (pe_ix (kx_ix (K := K)) (pv 1) pe_int (fun _ _ => rfl)) (pa_cons pe_int pa_nil))) (pe_one (pe_cmpR op_gt (pe_ix (kx_ix (K := K)) (pv 1) pe_int (fun _ _ => rfl)) (pe_dget hu (kx_slot (K := K) (pv 0)) (pe_ix (kx_ix (K := K)) (pv 1) pe_int (fun _ _ => rfl)) (fun _ _ => rfl)) (nomark _))))))
          pss_nil)
      (pss_one (ps_ret (C8.pe_c c_is_vote_let hr (by decide) (by rfl) (pa_cons (pv 0) (pa_cons (pe_ix (kx_ix (K := K)) (pv 1) pe_int (fun _ _ => rfl)) (pa_cons (pe_ix (kx_ix (K := K)) (pv 1) pe_int (fun _ _ => rfl)) (pa_cons (pe_ix (kx_ix (K := K)) (pv 1) pe_int (fun _ _ => rfl)) pa_nil)))))))))))), ?_⟩
      walk_at "go"
      refine NewR.mk fun p1 H1 hn e hp1 => ?_
      refine k_eqE1 (sm_T e hx) (.inl (.inl hp1)) ?_
      walk_at "go"
      refine k_no rfl ?_
      walk_at "go"
      refine u_int s1.1 s1.2 ?_
      walk_at "go"
      refine ⟨t, 0, rfl, s2, ?_⟩
      rw [decide_eq_true (by omega)]
      walk_at "go"
      refine q_dg (pp.pr.monoI e) h1 fun w hw => ?_
      obtain rfl : w = .int p0 := hw
      walk_at "go"
      rw [decide_eq_true h2]
      exact q _ e
    | lead t lot =>
      obtain ⟨p, l, rfl, hx, hl⟩ := ha
      obtain ⟨rfl, h1, h2, h3, h4, h5, h6⟩ := hq
      refine ⟨_, (pss_cons (ps_if (PW.pt (pw_or (pt_not (pt_val (pe_callB (kx_isi (K := K)) (by rfl) T.z_isinstance (by decide +kernel) (pa_cons (pv 1) (pa_cons (pe_bltn (v := .ty "tuple") (by rfl) T.z_tuple (by decide +kernel) rfl) pa_nil))))) (pw_or (pt_cmpR (kx_eqE (K := K) hr.units) (pv 1) (pe_tup pa_nil) (nomark _)) (pw_or1 (pt_not (pt_val (pe_callB (kx_isi (K := K)) (by rfl) T.z_isinstance (by decide +kernel) (pa_cons (pe_ix (kx_ix (K := K)) (pv 1) pe_int (fun _ _ => rfl)) (pa_cons (pe_bltn (v := .ty "str") (by rfl) T.z_str (by decide +kernel) rfl) pa_nil)))))))))
          (pss_one (ps_ret pe_bl))
          pss_nil)
      (pss_cons (ps_if (pt_cmpR op_ne (pe_callB (kx_len (K := K)) (by rfl) T.z_len PySem.boot_len (pa_cons (pv 1) pa_nil)) (kx_kget (K := K) (w := w) (C8.pe_gc (by rfl) T2.c_ACTION_SIZES) (pe_ix (kx_ix (K := K)) (pv 1) pe_int (fun _ _ => rfl)) pe_int ⟨rfl, rfl, rfl, rfl⟩) (nomark _))
          (pss_one (ps_ret pe_bl))
          pss_nil)
      (pss_cons (ps_match (pe_ix (kx_ix (K := K)) (pv 1) pe_int (fun _ _ => rfl))
          (pcs_cons (pss_one (ps_ret (pe_and (C8.pe_c c_is_whole_pictures hr (by decide) (by rfl) (pa_cons (pe_ix (kx_ix (K := K)) (pv 1) pe_int (fun _ _ => rfl)) (pa_cons pe_int pa_nil))) (pe_and (pe_cmp (pc_dnotin hu (pe_ix (kx_ix (K := K)) (pv 1) pe_int (fun _ _ => rfl)) (kx_slot (K := K) (pv 0))) rfl) (pe_one (C8.pe_c c_is_lot_of hr (by decide) (by rfl) (pa_cons (pv 0) (pa_cons (pe_ix (kx_ix (K := K)) (pv 1) pe_int (fun _ _ => rfl)) (pa_cons (pe_ix (kx_ix (K := K)) (pv 1) pe_int (fun _ _ => rfl)) pa_nil)))))))))
          (pcs_cons (pss_one (ps_ret (pe_and (C8.pe_c c_is_integer hr (by decide) (by rfl) (pa_cons (pe_ix (kx_ix (K := K)) (pv 1) pe_int (fun _ _ => rfl)) pa_nil)) (pe_and (pe_cmp (pc_din hu (pe_ix (kx_ix (K := K)) (pv 1) pe_int (fun _ _ => rfl)) (kx_slot (K := K) (pv 0))) rfl) (pe_one (C8.pe_c c_is_entry hr (by decide) (by rfl) (pa_cons (pe_ix (kx_ix (K := K)) (pv 1) pe_int (fun _ _ => rfl)) pa_nil)))))))
          pcs_nil)))
      (pss_cons (ps_if (PW.pt (pw_or (pt_not (pt_val (C8.pe_c c_is_integer hr (by decide) (by rfl) (pa_cons (pe_ix (kx_ix (K := K)) (pv 1) pe_int (fun _ _ => rfl)) pa_nil)))) (pw_or1 (pt_cmpR (kx_nin (K := K)) (pe_ix (kx_ix (K := K)) (pv 1) pe_int (fun _ _ => rfl)) (kx_slot (K := K) (pv 0)) (by rfl)))))
          (pss_one (ps_ret pe_bl))
          pss_nil)
      (pss_cons (ps_if (pt_cmpR op_eq (pe_ix (kx_ix (K := K)) (pv 1) pe_int (fun _ _ => rfl)) (C8.pe_gc (by rfl) T.c_PROMISE) (nomark _))
          (pss_one (ps_ret (pe_and (C8.pe_c c_is_whole_pictures hr (by decide) (by rfl) (pa_cons (pe_ix (kx_ix (K := K)) (pv 1) pe_int (fun _ _ => rfl)) (pa_cons pe_int pa_nil))) (pe_one (pe_cmpR op_gt (pe_ix (kx_ix (K := K)) (pv 1) pe_int (fun _ _ => rfl)) (pe_dget hu (kx_slot (K := K) (pv 0)) (pe_ix (kx_ix (K := K)) (pv 1) pe_int (fun _ _ => rfl)) (fun _ _ => rfl)) (nomark _))))))
          pss_nil)
      (pss_one (ps_ret (C8.pe_c c_is_vote_let hr (by decide) (by rfl) (pa_cons (pv 0) (pa_cons (pe_ix (kx_ix (K := K)) (pv 1) pe_int (fun _ _ => rfl)) (pa_cons (pe_ix (kx_ix (K := K)) (pv 1) pe_int (fun _ _ => rfl)) (pa_cons (pe_ix (kx_ix (K := K)) (pv 1) pe_int (fun _ _ => rfl)) pa_nil)))))))))))), ?_⟩
      walk_at "go"
      refine NewR.mk fun p1 H1 hn e hp1 => ?_
      refine k_eqE1 (sm_T e hx) (.inl (.inl hp1)) ?_
      walk_at "go"
      refine k_no rfl ?_
      walk_at "go"
      refine ⟨t, 0, rfl, hs, ?_⟩
      rw [decide_eq_true (by omega)]
      walk_at "go"
      refine q_dn (pp.rw.monoR e) ?_
      rw [h1]
      refine k_bl ?_
      refine k_yes rfl ?_
      walk_at "go"
      exact ⟨v, s, n, t, l, lot, rfl, hp.mono e, S, sm_T e hl, h3, h4, h5, h6, fun H2 e2 => q _ (e.trans e2)⟩
    | append t en =>
      obtain ⟨p, d, rfl, hx, hd⟩ := ha
      obtain ⟨rfl, h1⟩ := hq
      obtain ⟨s1, s2⟩ := hs
      refine ⟨_, (pss_cons (ps_if (PW.pt (pw_or (pt_not (pt_val (pe_callB (kx_isi (K := K)) (by rfl) T.z_isinstance (by decide +kernel) (pa_cons (pv 1) (pa_cons (pe_bltn (v := .ty "tuple") (by rfl) T.z_tuple (by decide +kernel) rfl) pa_nil))))) (pw_or (pt_cmpR (kx_eqE (K := K) hr.units) (pv 1) (pe_tup pa_nil) (nomark _)) (pw_or1 (pt_not (pt_val (pe_callB (kx_isi (K := K)) (by rfl) T.z_isinstance (by decide +kernel) (pa_cons (pe_ix (kx_ix (K := K)) (pv 1) pe_int (fun _ _ => rfl)) (pa_cons (pe_bltn (v := .ty "str") (by rfl) T.z_str (by decide +kernel) rfl) pa_nil)))))))))
          (pss_one (ps_ret pe_bl))
          pss_nil)
      (pss_cons (ps_if (pt_cmpR op_ne (pe_callB (kx_len (K := K)) (by rfl) T.z_len PySem.boot_len (pa_cons (pv 1) pa_nil)) (kx_kget (K := K) (w := w) (C8.pe_gc (by rfl) T2.c_ACTION_SIZES) (pe_ix (kx_ix (K := K)) (pv 1) pe_int (fun _ _ => rfl)) pe_int ⟨rfl, rfl, rfl, rfl⟩) (nomark _))
          (pss_one (ps_ret pe_bl))
          pss_nil)
      (pss_cons (ps_match (pe_ix (kx_ix (K := K)) (pv 1) pe_int (fun _ _ => rfl))
          (pcs_cons (pss_one (ps_ret (pe_and (C8.pe_c c_is_whole_pictures hr (by decide) (by rfl) (pa_cons (pe_ix (kx_ix (K := K)) (pv 1) pe_int (fun _ _ => rfl)) (pa_cons pe_int pa_nil))) (pe_and (pe_cmp (pc_dnotin hu (pe_ix (kx_ix (K := K)) (pv 1) pe_int (fun _ _ => rfl)) (kx_slot (K := K) (pv 0))) rfl) (pe_one (C8.pe_c c_is_lot_of hr (by decide) (by rfl) (pa_cons (pv 0) (pa_cons (pe_ix (kx_ix (K := K)) (pv 1) pe_int (fun _ _ => rfl)) (pa_cons (pe_ix (kx_ix (K := K)) (pv 1) pe_int (fun _ _ => rfl)) pa_nil)))))))))
          (pcs_cons (pss_one (ps_ret (pe_and (C8.pe_c c_is_integer hr (by decide) (by rfl) (pa_cons (pe_ix (kx_ix (K := K)) (pv 1) pe_int (fun _ _ => rfl)) pa_nil)) (pe_and (pe_cmp (pc_din hu (pe_ix (kx_ix (K := K)) (pv 1) pe_int (fun _ _ => rfl)) (kx_slot (K := K) (pv 0))) rfl) (pe_one (C8.pe_c c_is_entry hr (by decide) (by rfl) (pa_cons (pe_ix (kx_ix (K := K)) (pv 1) pe_int (fun _ _ => rfl)) pa_nil)))))))
          pcs_nil)))
      (pss_cons (ps_if (PW.pt (pw_or (pt_not (pt_val (C8.pe_c c_is_integer hr (by decide) (by rfl) (pa_cons (pe_ix (kx_ix (K := K)) (pv 1) pe_int (fun _ _ => rfl)) pa_nil)))) (pw_or1 (pt_cmpR (kx_nin (K := K)) (pe_ix (kx_ix (K := K)) (pv 1) pe_int (fun _ _ => rfl)) (kx_slot (K := K) (pv 0)) (by rfl)))))
          (pss_one (ps_ret pe_bl))
          pss_nil)
      (pss_cons (ps_if (pt_cmpR op_eq (pe_ix (kx_ix (K := K)) (pv 1) pe_int (fun _ _ => rfl)) (C8.pe_gc (by rfl) T.c_PROMISE) (nomark _))
          (pss_one (ps_ret (pe_and (C8.pe_c c_is_whole_pictures hr (by decide) (by rfl) (pa_cons (pe_ix (kx_ix (K := K)) (pv 1) pe_int (fun _ _ => rfl)) (pa_cons pe_int pa_nil))) (pe_one (pe_cmpR op_gt (pe_ix (kx_ix (K := K)) (pv 1) pe_int (fun _ _ => rfl)) (pe_dget hu (kx_slot (K := K) (pv 0)) (pe_ix (kx_ix (K := K)) (pv 1) pe_int (fun _ _ => rfl)) (fun _ _ => rfl)) (nomark _))))))
          pss_nil)
      (pss_one (ps_ret (C8.pe_c c_is_vote_let hr (by decide) (by rfl) (pa_cons (pv 0) (pa_cons (pe_ix (kx_ix (K := K)) (pv 1) pe_int (fun _ _ => rfl)) (pa_cons (pe_ix (kx_ix (K := K)) (pv 1) pe_int (fun _ _ => rfl)) (pa_cons (pe_ix (kx_ix (K := K)) (pv 1) pe_int (fun _ _ => rfl)) pa_nil)))))))))))), ?_⟩
      walk_at "go"
      refine NewR.mk fun p1 H1 hn e hp1 => ?_
      refine k_eqE1 (sm_T e hx) (.inl (.inl hp1)) ?_
      walk_at "go"
      refine k_no rfl ?_
      walk_at "go"
      refine u_int s1.1 s1.2 ?_
      walk_at "go"
      refine q_di (pp.rw.monoR e) ?_
      rw [show (s.rw t).isSome = true from h1]
      walk_at "go"
      exact ⟨d, en, rfl, hd.mono e, s2, fun H2 e2 => q _ (e.trans e2)⟩
    | vote h t m =>
      obtain ⟨p, rfl, hx⟩ := ha
      obtain ⟨hq, hC⟩ := hq
      obtain ⟨s1, s2, s3⟩ := hs
      refine ⟨_, (pss_cons (ps_if (PW.pt (pw_or (pt_not (pt_val (pe_callB (kx_isi (K := K)) (by rfl) T.z_isinstance (by decide +kernel) (pa_cons (pv 1) (pa_cons (pe_bltn (v := .ty "tuple") (by rfl) T.z_tuple (by decide +kernel) rfl) pa_nil))))) (pw_or (pt_cmpR (kx_eqE (K := K) hr.units) (pv 1) (pe_tup pa_nil) (nomark _)) (pw_or1 (pt_not (pt_val (pe_callB (kx_isi (K := K)) (by rfl) T.z_isinstance (by decide +kernel) (pa_cons (pe_ix (kx_ix (K := K)) (pv 1) pe_int (fun _ _ => rfl)) (pa_cons (pe_bltn (v := .ty "str") (by rfl) T.z_str (by decide +kernel) rfl) pa_nil)))))))))
          (pss_one (ps_ret pe_bl))
          pss_nil)
      (pss_cons (ps_if (pt_cmpR op_ne (pe_callB (kx_len (K := K)) (by rfl) T.z_len PySem.boot_len (pa_cons (pv 1) pa_nil)) (kx_kget (K := K) (w := w) (C8.pe_gc (by rfl) T2.c_ACTION_SIZES) (pe_ix (kx_ix (K := K)) (pv 1) pe_int (fun _ _ => rfl)) pe_int ⟨rfl, rfl, rfl, rfl⟩) (nomark _))
          (pss_one (ps_ret pe_bl))
          pss_nil)
      (pss_cons (ps_match (pe_ix (kx_ix (K := K)) (pv 1) pe_int (fun _ _ => rfl))
          (pcs_cons (pss_one (ps_ret (pe_and (C8.pe_c c_is_whole_pictures hr (by decide) (by rfl) (pa_cons (pe_ix (kx_ix (K := K)) (pv 1) pe_int (fun _ _ => rfl)) (pa_cons pe_int pa_nil))) (pe_and (pe_cmp (pc_dnotin hu (pe_ix (kx_ix (K := K)) (pv 1) pe_int (fun _ _ => rfl)) (kx_slot (K := K) (pv 0))) rfl) (pe_one (C8.pe_c c_is_lot_of hr (by decide) (by rfl) (pa_cons (pv 0) (pa_cons (pe_ix (kx_ix (K := K)) (pv 1) pe_int (fun _ _ => rfl)) (pa_cons (pe_ix (kx_ix (K := K)) (pv 1) pe_int (fun _ _ => rfl)) pa_nil)))))))))
          (pcs_cons (pss_one (ps_ret (pe_and (C8.pe_c c_is_integer hr (by decide) (by rfl) (pa_cons (pe_ix (kx_ix (K := K)) (pv 1) pe_int (fun _ _ => rfl)) pa_nil)) (pe_and (pe_cmp (pc_din hu (pe_ix (kx_ix (K := K)) (pv 1) pe_int (fun _ _ => rfl)) (kx_slot (K := K) (pv 0))) rfl) (pe_one (C8.pe_c c_is_entry hr (by decide) (by rfl) (pa_cons (pe_ix (kx_ix (K := K)) (pv 1) pe_int (fun _ _ => rfl)) pa_nil)))))))
          pcs_nil)))
      (pss_cons (ps_if (PW.pt (pw_or (pt_not (pt_val (C8.pe_c c_is_integer hr (by decide) (by rfl) (pa_cons (pe_ix (kx_ix (K := K)) (pv 1) pe_int (fun _ _ => rfl)) pa_nil)))) (pw_or1 (pt_cmpR (kx_nin (K := K)) (pe_ix (kx_ix (K := K)) (pv 1) pe_int (fun _ _ => rfl)) (kx_slot (K := K) (pv 0)) (by rfl)))))
          (pss_one (ps_ret pe_bl))
          pss_nil)
      (pss_cons (ps_if (pt_cmpR op_eq (pe_ix (kx_ix (K := K)) (pv 1) pe_int (fun _ _ => rfl)) (C8.pe_gc (by rfl) T.c_PROMISE) (nomark _))
          (pss_one (ps_ret (pe_and (C8.pe_c c_is_whole_pictures hr (by decide) (by rfl) (pa_cons (pe_ix (kx_ix (K := K)) (pv 1) pe_int (fun _ _ => rfl)) (pa_cons pe_int pa_nil))) (pe_one (pe_cmpR op_gt (pe_ix (kx_ix (K := K)) (pv 1) pe_int (fun _ _ => rfl)) (pe_dget hu (kx_slot (K := K) (pv 0)) (pe_ix (kx_ix (K := K)) (pv 1) pe_int (fun _ _ => rfl)) (fun _ _ => rfl)) (nomark _))))))
          pss_nil)
      (pss_one (ps_ret (C8.pe_c c_is_vote_let hr (by decide) (by rfl) (pa_cons (pv 0) (pa_cons (pe_ix (kx_ix (K := K)) (pv 1) pe_int (fun _ _ => rfl)) (pa_cons (pe_ix (kx_ix (K := K)) (pv 1) pe_int (fun _ _ => rfl)) (pa_cons (pe_ix (kx_ix (K := K)) (pv 1) pe_int (fun _ _ => rfl)) pa_nil)))))))))))), ?_⟩
      walk_at "go"
      refine NewR.mk fun p1 H1 hn e hp1 => ?_
      refine k_eqE1 (sm_T e hx) (.inl (.inl hp1)) ?_
      walk_at "go"
      refine k_no rfl ?_
      walk_at "go"
      refine u_int s1.1 s1.2 ?_
      walk_at "go"
      exact ⟨v, s, n, h, t, m, b, rfl, hp.mono e, S, s2, s3, hq, q _ e⟩
end

/-! W8 -/
section
variable {P : Program} {w : World} {K : PySem.W.Frag} {mg : Str → Option Value} {base : Heap} {a : Adr}

/-! ### classes -/
structure Txt3 (K : PySem.W.Frag) (mg : Str → Option Value) (a : Adr) : Prop where
  c_KnownParts : ∃ u, mg "KnownParts" = some u ∧ RelV (.ref a.ck) u
  c_Picture : ∃ u, mg "Picture" = some u ∧ RelV (.ref a.cp) u
  iK : SlX.SIsi K a.ck
  iP : SlX.SIsi K a.cp
  kK : PySem.W.kitOne K (.ref a.ck) (.ref a.ck) = some true
  kP : PySem.W.kitOne K (.ref a.cp) (.ref a.cp) = some true
def DefM (K : PySem.W.Frag) (nm qual : Str) (st : Stmt) (g : Addr) (ps : List Str) : Prop := ∃ fd, C8.Fun K nm qual st g fd ∧ Binds K fd ps []
def DefI (K : PySem.W.Frag) (mg : Str → Option Value) (x : Str) (C : Addr) (qual : Str) (st : Stmt) (ps : List Str) (ds : List Value) : Prop := ∃ f fd, Mk K C f ∧ C8.Fun K "__init__" qual st f fd ∧ Binds K fd ps ds ∧ mg x = some (.ref C)
theorem metX {nm qual : Str} {st : Stmt} {N ps : List Str} {k : Nat} {sp : Sp} {g : Addr} (D : DefM K nm qual st g ps) (S : FnScope N ps (C8.fnScope st)) (len : ∀ vs H Q E, sp vs H Q E → vs.length = ps.length)
    (hbody : ∀ (f : Addr) (cdv : Value) (A : Around) (outer : List Env) (s : Shared) (H : Hp) (vs : List V) (Q : VK) (E : XK), Room k (A.deeper (envOfC qual (C8.fnScope st) s.heap.objs.size f cdv)) → sp vs H Q E →
      ∃ t, PSs (cxOf C8.CX0 P w K mg base N qual (C8.fnScope st) f cdv A outer s H E).nox (C8.fnBody st) t ∧ t { nx := fun _ H' => Q .non H', rt := Q } (start N vs) H) : FnR P w K mg base C8.CX0 (k + 1) g sp := by
  obtain ⟨fd, F, b⟩ := D
  exact ((C8.fn0 F S len (hbody g)).raw b .nil).imp fun vs H Q E h => by rw [List.append_nil]; exact h
theorem makX {x qual : Str} {C : Addr} {st : Stmt} {N ps : List Str} {ds : List Value} {dvs : List V} {k : Nat} {sp : Sp} (D : DefI K mg x C qual st ps ds) (S : FnScope N ps (C8.fnScope st)) (len : ∀ vs H Q E, sp vs H Q E → vs.length = ps.length)
    (hbody : ∀ (f : Addr) (cdv : Value) (A : Around) (outer : List Env) (s : Shared) (H : Hp) (vs : List V) (Q : VK) (E : XK), Room k (A.deeper (envOfC qual (C8.fnScope st) s.heap.objs.size f cdv)) → sp vs H Q E →
      ∃ t, PSs (cxOf C8.CX0 P w K mg base N qual (C8.fnScope st) f cdv A outer s H E).nox (C8.fnBody st) t ∧ t { nx := fun _ H' => Q .non H', rt := Q } (start N vs) H) (d : Vals dvs ds := by first | exact .nil | exact .cons rfl (.cons rfl (.cons rfl (.cons rfl .nil)))) : C8.Mak P w K mg base (k + 1) x C sp dvs := by
  obtain ⟨f, fd, M, F, b, hm⟩ := D
  exact ⟨f, fd, ps, ds, M, C8.fn0 F S len (hbody f), hm, b, d⟩
/-! ### what is frozen -/
def FzQ (v : V) (H : Hp) (Q : VK) : Prop := ∃ ds, FzAll ds (Q v) H
theorem kw_fz {σ : L2.St} {H : Hp} {te : TE} {Q : VK} (h : te σ H fun v H1 => FzQ v H1 Q) : tFz te σ H Q := h
theorem q_fz1 {v : V} {H : Hp} {Q : VK} {d : Addr} {kvs : List (Key × V)} (hd : H d = some (.dK kvs)) (q : ∀ o, Q v (upd H d (.frz o (.dK kvs)))) : FzQ v H Q := ⟨[d], _, hd, True.intro, q⟩
/-! ### a new thing beside the base -/
theorem grow {B H H' : Hp} {p x : Addr} {o : HO} (e : Same B H) (hx : B x = none) (hu : ∃ u, H x = some u) (hp : H p = none) (e' : Same H H') (h' : H' p = some o) : Same B (upd B p o) ∧ Same (upd B p o) H' ∧ upd B p o x = none := by
  have hb : B p = none := by
    cases h : B p with
    | none => rfl
    | some u => have := e _ _ h; rw [hp] at this; cases this
  refine ⟨sm_new hb, sm_put (e.trans e') h', ?_⟩
  have : x ≠ p := fun z => by
    obtain ⟨u, hu⟩ := hu
    rw [z, hp] at hu; cases hu
  rw [upd_ne this]; exact hx
def sp_order : Sp := fun vs H Q _ => ∃ (ad : Addr) (kvs : List (Key × V)) (ks : List Int), vs = [.ref ad] ∧ Rd H ad (.dK kvs) ∧ kvs.map (·.1) = ks.map Sum.inl ∧ ks.Nodup ∧ ks.length < 64 ∧
  ∀ (p : Addr) (o : Obj) (kvs' : List (Key × V)) (H' : Hp), H p = none → Same H H' → H' p = some (.frz o (.dK kvs')) → kvs'.Perm kvs → Q (.ref p) H'
abbrev s_in_order : Stmt := (top 57)
abbrev N_in_order : List Str := ["found", "key"]
theorem sc_in_order : FnScope N_in_order ["found"] (C8.fnScope s_in_order) := C8.fnScope_by (by decide +kernel)
theorem ok_in_order (D : DefX K mg "in_order" "in_order" s_in_order ["found"]) (T : Txt K mg a)   : C8.Cal P w K mg base 1 "in_order" sp_order [] :=
  calX D sc_in_order (fun vs H Q E h => by obtain ⟨ad, kvs, ks, rfl, hd, hk, hn, hl, q⟩ := h; rfl) fun f cdv A outer s H vs Q E hr h => by
    have hu := hu_of hr
    obtain ⟨ad, kvs, ks, rfl, hd, hk, hn, hl, q⟩ := h
    refine ⟨_, (pss_one (ps_ret (pe_fz (pe_dc (own := [("key", 1)]) rfl sc_in_order.nd (kx_list (K := K) (pe_callB (cx_sortDI rfl) (by rfl) T.z_sorted (by decide +kernel) (pa_cons (pv 0) pa_nil))) (blkOk_by (N := N_in_order) (sc := (C8.fnScope s_in_order)) (by decide +kernel)) (fun _ _ _ _ _ => (pg_name (i := 1) sc_in_order.nd rfl (.inl rfl))) (fun _ _ _ _ _ => pts_nil) (fun _ _ _ _ _ => (pv 1)) (fun _ _ _ _ _ => (pe_dget hu (pv 0) (pv 1) (fun _ _ => rfl))))))), ?_⟩
    refine kw_fz ?_
    walk_at "go"
    refine k_sortDI hd hk hl fun ys p H1 hp1 hs hn1 e hp => ?_
    walk_at "go"
    have hlen : ys.length = ks.length := hp1.length_eq
    have hyn : ys.Nodup := hp1.nodup_iff.mpr hn
    refine dc_obj walk_list ys (fun _ v x => valV kvs (Sum.inl x) = some v) (fun _ h => h) (by rw [List.length_map]) (by rw [List.length_map]; omega) hyn (fun _ e2 => .inl (sm_rd e2 (.inl hp))) (fun i x y B Ha Hb D hx eb bd hD eB yy Ky Kn ky => ?_) fun D H2 kvs' hD e2 hd2 hk2 hp2 => ?_
    · obtain ⟨rfl, hy⟩ := yy
      rw [List.getElem?_map, hx] at hy
      obtain rfl : V.int x = y := Option.some.inj hy
      have hxk : x ∈ ks := hp1.mem_iff.mp (List.mem_of_getElem? hx)
      have hm : (Sum.inl x : Key) ∈ kvs.map (·.1) := by rw [hk]; exact List.mem_map.mpr ⟨x, hxk, rfl⟩
      obtain ⟨pr, hpr, ep⟩ := List.mem_map.mp hm
      have nd : (kvs.map (·.1)).Nodup := by rw [hk]; exact List.Pairwise.map _ (fun a b h z => h (by cases z; rfl)) hn
      have hv := val_nodup nd pr hpr
      rw [ep] at hv
      walk_at "go"
      refine q_dk (sm_rd (e.trans (eb.trans eB)) hd) hv ?_
      exact ky _ B _ (Same.refl _) bd eB (Same.refl _) hv
    · refine q_fz1 hd2 fun o => ?_
      have e02 : Same H H2 := e.trans e2
      have hDH : H D = none := by
        cases h : H D with
        | none => rfl
        | some u => have := e _ _ h; rw [hD] at this; cases this
      refine q D o kvs' _ hDH (sm_mut e02 hDH) upd_same ?_
      have nd : (kvs.map (·.1)).Nodup := by rw [hk]; exact List.Pairwise.map _ (fun a b h z => h (by cases z; rfl)) hn
      have nd2 : (kvs'.map (·.1)).Nodup := by rw [hk2]; exact List.Pairwise.map _ (fun a b h z => h (by cases z; rfl)) hyn
      refine (List.perm_ext_iff_of_nodup (List.Pairwise.of_map _ (fun a b h z => h (by rw [z])) nd2) (List.Pairwise.of_map _ (fun a b h z => h (by rw [z])) nd)).mpr fun pr => ?_
      have one : ∀ pr ∈ kvs', ∃ x, x ∈ ys ∧ pr.1 = Sum.inl x ∧ valV kvs (Sum.inl x) = some pr.2 := by
        clear nd2 hd2 q hyn hs hp hp1 hlen
        revert hk2
        induction hp2 with
        | nil => intro _ pr h; cases h
        | cons h t ih =>
          intro hk2 pr hpr
          rw [List.map_cons, List.map_cons] at hk2
          obtain ⟨h1, h2⟩ := List.cons.inj hk2
          rcases List.mem_cons.mp hpr with rfl | hpr
          · exact ⟨_, List.mem_cons_self, h1, h⟩
          · obtain ⟨x, hx, e1, e2⟩ := ih h2 pr hpr
            exact ⟨x, List.mem_cons_of_mem _ hx, e1, e2⟩
      constructor
      · intro h
        obtain ⟨x, hx, e1, e2⟩ := one pr h
        have hm := valV_in e2
        obtain ⟨p2, hp2, e3⟩ := List.mem_map.mp hm
        have hv := val_nodup nd p2 hp2
        rw [e3, e2] at hv
        have : p2 = pr := by
          obtain ⟨a1, b1⟩ := pr
          obtain ⟨a2, b2⟩ := p2
          simp only at e1 e3 hv
          rw [e1, e3, Option.some.inj hv]
        rw [← this]; exact hp2
      · intro h
        have hv := val_nodup nd pr h
        have hm : pr.1 ∈ kvs.map (·.1) := List.mem_map.mpr ⟨pr, h, rfl⟩
        rw [hk] at hm
        obtain ⟨x, hx, e1⟩ := List.mem_map.mp hm
        have hm2 : pr.1 ∈ kvs'.map (·.1) := by rw [hk2]; exact List.mem_map.mpr ⟨x, hp1.mem_iff.mpr hx, e1⟩
        obtain ⟨p2, hp2, e3⟩ := List.mem_map.mp hm2
        obtain ⟨x2, _, e4, e5⟩ := one p2 hp2
        rw [← e4, e3, hv] at e5
        have : p2 = pr := by
          obtain ⟨a1, b1⟩ := pr
          obtain ⟨a2, b2⟩ := p2
          simp only at e3 e5
          rw [e3, Option.some.inj e5]
        rw [← this]; exact hp2
end

/-! W9 -/
section
variable {P : Program} {w : World} {K : PySem.W.Frag} {mg : Str → Option Value} {base : Heap} {a : Adr}

theorem cont_of_paired {α : Type} {R : V → α → Prop} {kvs : List (Key × V)} {L : List Int} {f : Pm.Dc α} {m : Nat} (hk : kvs.map (·.1) = L.map Sum.inl) (hp : Paired (fun (p : Key × V) x => ∃ y, f x = some y ∧ R p.2 y) kvs L) (hn : L.Nodup) (hm : ∀ i, (f i).isSome = true → i ∈ L) (hl : L.length ≤ m) : Cont R kvs f m := by
  have nd : (kvs.map (·.1)).Nodup := by rw [hk]; exact List.Pairwise.map _ (fun a b h z => h (by cases z; rfl)) hn
  have one : ∀ p ∈ kvs, ∃ x, p.1 = Sum.inl x ∧ ∃ y, f x = some y ∧ R p.2 y := by
    clear nd hm hl hn
    revert hk
    induction hp with
    | nil => intro _ p h; cases h
    | cons h t ih =>
      intro hk p hpr
      rw [List.map_cons, List.map_cons] at hk
      obtain ⟨h1, h2⟩ := List.cons.inj hk
      rcases List.mem_cons.mp hpr with rfl | hpr
      · exact ⟨_, h1, h⟩
      · exact ih h2 p hpr
  refine ⟨nd, fun p hp => by obtain ⟨x, e, _⟩ := one p hp; exact ⟨x, e⟩, ?_, fun i => ?_⟩
  · have := congrArg List.length hk
    simp only [List.length_map] at this
    omega
  · cases e : valV kvs (Sum.inl i : Key) with
    | none =>
      cases ef : f i with
      | none => exact True.intro
      | some y =>
        have hi := hm i (by rw [ef]; rfl)
        have h1 : (Sum.inl i : Key) ∈ kvs.map (·.1) := by rw [hk]; exact List.mem_map.mpr ⟨i, hi, rfl⟩
        obtain ⟨p, hp2, e2⟩ := List.mem_map.mp h1
        have h3 := val_nodup nd p hp2
        rw [e2, e] at h3
        cases h3
    | some v =>
      obtain ⟨p, hp2, e2⟩ := List.mem_map.mp (valV_in e)
      have h3 := val_nodup nd p hp2
      rw [e2, e] at h3
      obtain ⟨x, e4, y, e5, r⟩ := one p hp2
      rw [e2] at e4
      cases e4
      rw [e5, Option.some.inj h3]
      exact r
/-! ### slots are set -/
def SPut (K : PySem.W.Frag) (f : Str) (x y : V) (H : Hp) (R : Hp → Prop) : Prop := ∃ a C dx p vs i, x = .ref a ∧ SlX.Slt H a C dx vs ∧ SlX.SCls K C ∧ SlX.Slot1 K C f p i ∧ R (SlX.slH H a C dx (SlX.putS i y vs))
theorem kx_sput {X : Cx} {o value : Expr} {f : Str} {pos pos' : Pos} {ta tv : TE} (ha : PE X o ta) (hv : PE X value tv) (hK : X.K = K := by rfl) (hs : swapsWith value (some (.Attribute o f pos')) pos.line X.env = pure false := by rfl) : PS X (.Assign [.Attribute o f pos'] value pos) (SlX.sSl K ta tv f) := by
  subst hK; exact SlX.ps_sl ha hv hs
theorem kw_sput {σ : L2.St} {H : Hp} {D : Ends} {ta tv : TE} {f : Str} (h : tv σ H fun y H1 => ta σ H1 fun x H2 => SPut K f x y H2 (D.nx σ)) : SlX.sSl K ta tv f D σ H := h
theorem q_sput {f : Str} {x dx C p : Addr} {i : Nat} {y : V} {H : Hp} {R : Hp → Prop} {vs : List (Option V)} (hs : SlX.Slt H x C dx vs) (c : SlX.SCls K C) (t : SlX.Slot1 K C f p i) (q : R (SlX.slH H x C dx (SlX.putS i y vs))) : SPut K f (.ref x) y H R := ⟨x, C, dx, p, vs, i, rfl, hs, c, t, q⟩
/-- a new instance x beside the base -/
structure PS2 (C : Addr) (B H : Hp) (x dx : Addr) (vs : List (Option V)) : Prop where
  sm : Same B H
  bx : B x = none
  bd : B dx = none
  ne : dx ≠ x
  hx : H x = some (SlX.SlO x C dx vs)
  hd : H dx = some (.xd [])
section
variable {C : Addr} {B H H' : Hp} {x dx : Addr} {vs vs' : List (Option V)}
theorem PS2.slt (p : PS2 C B H x dx vs) : SlX.Slt H x C dx vs := .inr ⟨p.hx, p.hd⟩
theorem PS2.first (e : Same B H) (bx : B x = none) (bd : B dx = none) (ne : dx ≠ x) : PS2 C B (SlX.slH H x C dx vs) x dx vs :=
  ⟨sm_mut (sm_mut e bd) bx, bx, bd, ne, upd_same, by unfold SlX.slH; rw [upd_ne ne, upd_same]⟩
theorem PS2.set (p : PS2 C B H x dx vs) : PS2 C B (SlX.slH H x C dx vs') x dx vs' := PS2.first p.sm p.bx p.bd p.ne
theorem PS2.mono (p : PS2 C B H x dx vs) (e : Same H H') : PS2 C B H' x dx vs := ⟨p.sm.trans e, p.bx, p.bd, p.ne, e _ _ p.hx, e _ _ p.hd⟩
theorem PS2.grow (p : PS2 C B H x dx vs) {q : Addr} {o : HO} (hq : H q = none) (e : Same H H') (h' : H' q = some o) : PS2 C (upd B q o) H' x dx vs ∧ Same B (upd B q o) := by
  obtain ⟨g1, g2, g3⟩ := Hm.grow p.sm p.bx ⟨_, p.hx⟩ hq e h'
  obtain ⟨_, _, g4⟩ := Hm.grow p.sm p.bd ⟨_, p.hd⟩ hq e h'
  exact ⟨⟨g2, g3, g4, p.ne, e _ _ p.hx, e _ _ p.hd⟩, g1⟩
end
/-! ### raw parts -/
def RDc {α : Type} (R : Hp → V → α → Prop) (H : Hp) (v : V) (f : Pm.Dc α) (n : Nat) : Prop := ∃ a kvs, v = .ref a ∧ Rd H a (.dK kvs) ∧ Cont (R H) kvs f n
structure RParts (K : PySem.W.Frag) (H : Hp) (vc vp vr vf vv : V) (s : Pm.St) (n : Nat) : Prop where
  cir : CirAt K H vc s.C
  pr : RDc RI H vp s.pr 7
  rw : RDc (RowAt K) H vr s.rw n
  fs : RDc RI H vf s.fs n
  vt : RDc (fun H v f => RDc RI H v f n) H vv s.vt 7
theorem DcAt.raw {α : Type} {R : Hp → V → α → Prop} {H : Hp} {v : V} {f : Pm.Dc α} {n : Nat} (h : DcAt R H v f n) : RDc R H v f n := by
  obtain ⟨a, o, kvs, rfl, h, c⟩ := h
  exact ⟨a, kvs, rfl, .inr ⟨o, h⟩, c⟩
theorem RDc.mono {α : Type} {R : Hp → V → α → Prop} {f : Pm.Dc α} {H H' : Hp} {v : V} {n : Nat} (hR : ∀ {H H' : Hp} {v : V} {x : α}, Same H H' → R H v x → R H' v x) (e : Same H H') (h : RDc R H v f n) : RDc R H' v f n := by
  obtain ⟨a, kvs, rfl, h, c⟩ := h
  exact ⟨a, kvs, rfl, sm_rd e h, c.imp fun _ _ z => hR e z⟩
theorem RDc.monoI {f : Pm.Dc Int} {H H' : Hp} {v : V} {n : Nat} (e : Same H H') (h : RDc RI H v f n) : RDc RI H' v f n := RDc.mono (fun _ z => z) e h
theorem RParts.mono {H H' : Hp} {vc vp vr vf vv : V} {s : Pm.St} {n : Nat} (e : Same H H') (h : RParts K H vc vp vr vf vv s n) : RParts K H' vc vp vr vf vv s n :=
  ⟨h.cir.mono e, h.pr.monoI e, RDc.mono (fun e z => z.mono e) e h.rw, h.fs.monoI e, RDc.mono (fun e z => RDc.monoI e z) e h.vt⟩
theorem Parts.rawP {H : Hp} {vc vp vr vf vv : V} {s : Pm.St} {n : Nat} (h : Parts K H vc vp vr vf vv s n) : RParts K H vc vp vr vf vv s n :=
  ⟨h.cir, h.pr.raw, h.rw.raw, h.fs.raw, by
    obtain ⟨a, o, kvs, e, h2, c⟩ := h.vt
    exact ⟨a, kvs, e, .inr ⟨o, h2⟩, c.imp fun _ _ z => DcAt.raw z⟩⟩
/-! ### KnownParts -/
def sp_kinit (a : Adr) : Sp := fun vs H Q _ => ∃ B x dx vc vp vr vf vv, vs = [.ref x, vc, vp, vr, vf, vv] ∧ H = upd (upd B dx (.own x)) x (.ins a.ck dx []) ∧ B x = none ∧ B dx = none ∧ dx ≠ x ∧
  ∀ pt H', Same B H' → SlX.Slt H' x a.ck dx [some (.ref pt)] → SqT K H' pt [vc, vp, vr, vf, vv] → Q .non H'
abbrev s_KnownParts__init : Stmt := (L2.inClass (top 58) 1)
abbrev N_KnownParts__init : List Str := ["self", "circle", "promised", "rows", "firsts", "votes"]
theorem sc_KnownParts__init : FnScope N_KnownParts__init ["self", "circle", "promised", "rows", "firsts", "votes"] (C8.fnScope s_KnownParts__init) := C8.fnScope_by (by decide +kernel)
theorem ok_KnownParts__init (D : DefI K mg "KnownParts" a.ck "KnownParts.__init__" s_KnownParts__init ["self", "circle", "promised", "rows", "firsts", "votes"] []) (T : Txt K mg a)  (C : Cls K a) : C8.Mak P w K mg base 1 "KnownParts" a.ck (sp_kinit (K:=K) a) [] :=
  makX D sc_KnownParts__init (fun vs H Q E h => by obtain ⟨B, x, dx, vc, vp, vr, vf, vv, rfl, rfl, bx, bd, ne, q⟩ := h; rfl) fun f cdv A outer s H vs Q E hr h => by
    have hu := hu_of hr
    obtain ⟨B, x, dx, vc, vp, vr, vf, vv, rfl, rfl, bx, bd, ne, q⟩ := h
    refine ⟨_, (pss_one (kx_sput (K := K) (pv 0) (pe_tup (pa_cons (pv 1) (pa_cons (pv 2) (pa_cons (pv 3) (pa_cons (pv 4) (pa_cons (pv 5) pa_nil)))))))), ?_⟩
    obtain ⟨p, hp⟩ := C.k_parts
    with_reducible refine kw_sput ?_
    walk_at "go"
    refine NewR.mk fun pt H1 hn e hpt => ?_
    walk_at "go"
    have e0 : Same B (upd (upd B dx (.own x)) x (.ins a.ck dx [])) := sm_mut (sm_mut (Same.refl _) bd) bx
    have h1 : SlX.Slt H1 x a.ck dx [] := .inl ⟨e _ _ upd_same, rfl⟩
    refine q_sput h1 C.sK hp ?_
    have hb : B pt = none := by
      cases h : B pt with
      | none => rfl
      | some u => have := e0 _ _ h; rw [hn] at this; cases this
    have nx : pt ≠ x := fun z => by rw [z, upd_same] at hn; cases hn
    have nd : pt ≠ dx := fun z => by rw [z, upd_ne ne, upd_same] at hn; cases hn
    have P2 : PS2 a.ck B (SlX.slH H1 x a.ck dx [some (.ref pt)]) x dx [some (.ref pt)] := PS2.first (e0.trans e) bx bd ne
    refine q pt _ P2.sm P2.slt (.inl (.inl ?_))
    rw [SlX.slH_ne nx nd]; exact hpt
/-! ### Picture -/
def KpAt (K : PySem.W.Frag) (a : Adr) (H : Hp) (v vc vp vr vf vv : V) : Prop := ∃ k dk pt, v = .ref k ∧ SlX.Slt H k a.ck dk [some (.ref pt)] ∧ SqT K H pt [vc, vp, vr, vf, vv]
theorem KpAt.mono {H H' : Hp} {v vc vp vr vf vv : V} (e : Same H H') (h : KpAt K a H v vc vp vr vf vv) : KpAt K a H' v vc vp vr vf vv := by
  obtain ⟨k, dk, pt, rfl, h1, h2⟩ := h
  exact ⟨k, dk, pt, rfl, sm_slt e h1, sm_T e h2⟩
def sp_pinit (a : Adr) : Sp := fun vs H Q _ => ∃ B x dx v vc vp vr vf vv s n, vs = [.ref x, v, .non, .non, .non, .non] ∧ H = upd (upd B dx (.own x)) x (.ins a.cp dx []) ∧ B x = none ∧ B dx = none ∧ dx ≠ x ∧ KpAt K a B v vc vp vr vf vv ∧
  RParts K B vc vp vr vf vv s n ∧ n < 64 ∧ Pm.Circ s.C ∧ (∀ h, (s.vt h).isSome = true ↔ h ∈ s.C) ∧ ∀ H', Same B H' → PPic K a.cp H' (.ref x) s n → Q .non H'
theorem kx_isiSl {X : Cx} (u : Value) (hK : X.K = K := by rfl) : CallR X (.builtin "isinstance") (SlX.rIsiSl K u) := by subst hK; exact SlX.call_isiSl u
theorem q_isiSl {H : Hp} {Q : VK} {x C dx : Addr} {vs : List (Option V)} (hs : SlX.Slt H x C dx vs) (c : SlX.SCls K C) (i : SlX.SIsi K C) (k : PySem.W.kitOne K (.ref C) (.ref C) = some true) (q : Q (.bl true) H) : SlX.rIsiSl K (.ref C) [.ref x, .ref C] H Q :=
  ⟨x, C, dx, vs, .ref C, true, rfl, rfl, fun w h => h, hs, c, i, k, q⟩
theorem q_order {B H : Hp} {Q : VK} {E : XK} {α : Type} {R : Hp → V → α → Prop} {v : V} {f : Pm.Dc α} {n : Nat} (eB : Same B H) (h : RDc R B v f n) (hn : n < 64) (q : ∀ p o kvs' H', H p = none → Same H H' → H' p = some (.frz o (.dK kvs')) → Cont (R B) kvs' f n → Q (.ref p) H') : sp_order ([v] ++ []) H Q E := by
  obtain ⟨ad, kvs, rfl, h, c⟩ := h
  obtain ⟨ks, e1, e2, e3, e4⟩ := c.keys
  exact ⟨ad, kvs, ks, rfl, sm_rd eB h, e1, e2, by omega, fun p o kvs' H' h1 h2 h3 h4 => q p o kvs' H' h1 h2 h3 (c.perm h4)⟩
theorem q_own {H : Hp} {Q : VK} {v vc vp vr vf vv : V} (C : Cls K a) (h : KpAt K a H v vc vp vr vf vv) (q : ∀ pt, SqT K H pt [vc, vp, vr, vf, vv] → Q (.ref pt) H) : SlRd K v "own_parts" H Q := by
  obtain ⟨k, dk, pt, rfl, h1, h2⟩ := h
  obtain ⟨p, hp⟩ := C.k_parts
  exact ⟨k, _, dk, p, _, 0, .ref pt, rfl, h1, C.sK, hp, rfl, q pt h2⟩
abbrev s_Picture__init : Stmt := (L2.inClass (top 59) 1)
abbrev N_Picture__init : List Str := ["self", "circle", "promised", "rows", "firsts", "votes", "house"]
theorem sc_Picture__init : FnScope N_Picture__init ["self", "circle", "promised", "rows", "firsts", "votes"] (C8.fnScope s_Picture__init) := C8.fnScope_by (by decide +kernel)
theorem ok_Picture__init (D : DefI K mg "Picture" a.cp "Picture.__init__" s_Picture__init ["self", "circle", "promised", "rows", "firsts", "votes"] [.none, .none, .none, .none]) (T : Txt K mg a) (c_in_order : C8.Cal P w K mg base 1 "in_order" sp_order []) (C : Cls K a) (T3 : Txt3 K mg a) : C8.Mak P w K mg base 2 "Picture" a.cp (sp_pinit (K:=K) a) [.non, .non, .non, .non] :=
  makX D sc_Picture__init (fun vs H Q E h => by obtain ⟨B, x, dx, v, vc, vp, vr, vf, vv, s, n, rfl, rfl, bx, bd, ne, hk, rp, hn, hC, hvk, q⟩ := h; rfl) fun f cdv A outer s H vs Q E hr h => by
    have hu := hu_of hr
    obtain ⟨B, x, dx, v, vc, vp, vr, vf, vv, s, n, rfl, rfl, bx, bd, ne, hk, rp, hn, hC, hvk, q⟩ := h
    refine ⟨_, (pss_cons (ps_if (pt_val (pe_callB (kx_isiSl (K := K) (.ref a.ck)) (by rfl) T.z_isinstance (by decide +kernel) (pa_cons (pv 1) (pa_cons (C8.pe_gc (by rfl) T3.c_KnownParts) pa_nil))))
          (pss_one (ps_asg (kx_slot (K := K) (pv 1)) (kx_gtup (K := K) (n := 5) (by rfl) (pgs_cons (pg_name (i := 1) sc_Picture__init.nd rfl (.inl rfl)) (pgs_cons (pg_name (i := 2) sc_Picture__init.nd rfl (.inl rfl)) (pgs_cons (pg_name (i := 3) sc_Picture__init.nd rfl (.inl rfl)) (pgs_cons (pg_name (i := 4) sc_Picture__init.nd rfl (.inl rfl)) (pgs_cons (pg_name (i := 5) sc_Picture__init.nd rfl (.inr rfl)) pgs_nil))))))))
          pss_never)
      (pss_cons (kx_sput (K := K) (pv 0) (pv 1))
      (pss_cons (kx_sput (K := K) (pv 0) (C8.pe_c c_in_order hr (by decide) (by rfl) (pa_cons (pv 2) pa_nil)))
      (pss_cons (kx_sput (K := K) (pv 0) (C8.pe_c c_in_order hr (by decide) (by rfl) (pa_cons (pv 3) pa_nil)))
      (pss_cons (kx_sput (K := K) (pv 0) (C8.pe_c c_in_order hr (by decide) (by rfl) (pa_cons (pv 4) pa_nil)))
      (pss_one (kx_sput (K := K) (pv 0) (pe_fz (pe_dc (own := [("house", 6)]) rfl sc_Picture__init.nd (kx_tup (K := K) (pv 1)) (blkOk_by (N := N_Picture__init) (sc := (C8.fnScope s_Picture__init)) (by decide +kernel)) (fun _ _ _ _ _ => (pg_name (i := 6) sc_Picture__init.nd rfl (.inl rfl))) (fun _ _ _ _ _ => pts_nil) (fun _ _ _ _ _ => (pv 6)) (fun _ _ _ _ _ => (C8.pe_c c_in_order hr (by decide) (by rfl) (pa_cons (pe_dget hu (pv 5) (pv 6) (fun _ _ => rfl)) pa_nil)))))))))))), ?_⟩
    obtain ⟨p0, s0⟩ := C.p_circle
    obtain ⟨p1, s1⟩ := C.p_firsts
    obtain ⟨p2, s2⟩ := C.p_promised
    obtain ⟨p3, s3⟩ := C.p_rows
    obtain ⟨p4, s4⟩ := C.p_votes
    have e0 : Same B (upd (upd B dx (.own x)) x (.ins a.cp dx [])) := sm_mut (sm_mut (Same.refl _) bd) bx
    have hs0 : SlX.Slt (upd (upd B dx (.own x)) x (.ins a.cp dx [])) x a.cp dx [] := .inl ⟨upd_same, rfl⟩
    walk_at "go"
    obtain ⟨k, dk, pt, rfl, hk1, hk2⟩ := hk.mono e0
    refine q_isiSl hk1 C.sK T3.iK T3.kK ?_
    walk_at "go"
    refine q_own C ⟨k, dk, pt, rfl, hk1, hk2⟩ fun pt2 hpt2 => ?_
    walk_at "go"
    with_reducible refine kw_sput ?_
    walk_at "go"
    refine q_sput hs0 C.sP s0 ?_
    have P1 := PS2.first (vs := SlX.putS 0 vc []) e0 bx bd ne (C := a.cp)
    walk_at "go"
    with_reducible refine kw_sput ?_
    walk_at "go"
    refine q_order P1.sm rp.pr (by omega) fun q1 o1 k1 H1 hq1 e1 hq1' c1 => ?_
    obtain ⟨P2, b1⟩ := P1.grow hq1 e1 hq1'
    have d1 : DcAt RI (upd B q1 (.frz o1 (.dK k1))) (.ref q1) s.pr 7 := ⟨q1, o1, k1, rfl, upd_same, c1⟩
    walk_at "go"
    refine q_sput P2.slt C.sP s2 ?_
    replace P2 := P2.set (vs' := SlX.putS 2 (.ref q1) (SlX.putS 0 vc []))
    walk_at "go"
    with_reducible refine kw_sput ?_
    walk_at "go"
    refine q_order P2.sm (rp.mono b1).rw hn fun q2 o2 k2 H2 hq2 e2 hq2' c2 => ?_
    obtain ⟨P3, b2⟩ := P2.grow hq2 e2 hq2'
    have d2 : DcAt (RowAt K) (upd (upd B q1 (.frz o1 (.dK k1))) q2 (.frz o2 (.dK k2))) (.ref q2) s.rw n := ⟨q2, o2, k2, rfl, upd_same, c2.imp fun _ _ z => z.mono b2⟩
    walk_at "go"
    refine q_sput P3.slt C.sP s3 ?_
    replace P3 := P3.set (vs' := SlX.putS 3 (.ref q2) (SlX.putS 2 (.ref q1) (SlX.putS 0 vc [])))
    walk_at "go"
    with_reducible refine kw_sput ?_
    walk_at "go"
    refine q_order P3.sm (rp.mono (b1.trans b2)).fs hn fun q3 o3 k3 H3 hq3 e3 hq3' c3 => ?_
    obtain ⟨P4, b3⟩ := P3.grow hq3 e3 hq3'
    have d3 : DcAt RI (upd (upd (upd B q1 (.frz o1 (.dK k1))) q2 (.frz o2 (.dK k2))) q3 (.frz o3 (.dK k3))) (.ref q3) s.fs n := ⟨q3, o3, k3, rfl, upd_same, c3⟩
    walk_at "go"
    refine q_sput P4.slt C.sP s1 ?_
    replace P4 := P4.set (vs' := SlX.putS 1 (.ref q3) (SlX.putS 3 (.ref q2) (SlX.putS 2 (.ref q1) (SlX.putS 0 vc []))))
    have b13 := b1.trans (b2.trans b3)
    generalize hB4 : upd (upd (upd B q1 (.frz o1 (.dK k1))) q2 (.frz o2 (.dK k2))) q3 (.frz o3 (.dK k3)) = B4 at *
    generalize hH4 : SlX.slH H3 x a.cp dx (SlX.putS 1 (.ref q3) (SlX.putS 3 (.ref q2) (SlX.putS 2 (.ref q1) (SlX.putS 0 vc [])))) = H4 at *
    walk_at "go"
    with_reducible refine kw_sput ?_
    refine kw_fz ?_
    have rp4 := rp.mono b13
    obtain ⟨ac, rfl, hc⟩ := id rp4.cir
    walk_at "go"
    refine k_wT (sm_T P4.sm hc) ?_
    refine dc_obj walk_tup s.C (fun H v x => ∃ f, s.vt x = some f ∧ DcAt RI H v f n) (fun {H H' v x} e h => ?_) (by rw [List.length_map]) (by have := hC.le; rw [List.length_map]; omega) (Pm.up_nodup hC.up) (fun _ e2 => sm_T (P4.sm.trans e2) hc) (fun i y z B5 Ha Hb D hx eb bd5 hD eB yy Ky Kn ky => ?_) fun D H5 k5 hD e5 hD5 hk5 hp5 => ?_
    · obtain ⟨f, h1, h2⟩ := h
      exact ⟨f, h1, h2.monoI e⟩
    · obtain ⟨rfl, hy⟩ := yy
      rw [List.getElem?_map, hx] at hy
      obtain rfl : V.int y = z := Option.some.inj hy
      obtain ⟨f, hf⟩ := Option.isSome_iff_exists.mp ((hvk y).mpr (List.mem_of_getElem? hx))
      have eHa := P4.sm.trans (eb.trans eB)
      obtain ⟨av, kv, rfl, hv1, cv⟩ := id rp4.vt
      have rv := cv.val y
      rw [hf] at rv
      obtain ⟨u, hu1, hu2⟩ := rv.some_of
      walk_at "go"
      refine q_dk (sm_rd eHa hv1) hu1 ?_
      walk_at "go"
      refine q_order eHa hu2 hn fun q6 o6 k6 H6 hq6 e6 hq6' c6 => ?_
      obtain ⟨g1, g2, g3⟩ := grow eB bd5 hD hq6 e6 hq6'
      exact ky _ _ _ g1 g3 g2 e6 ⟨f, hf, q6, o6, k6, rfl, upd_same, c6⟩
    · refine q_fz1 hD5 fun o5 => ?_
      have e5' : Same H4 (upd H5 D (.frz o5 (.dK k5))) := sm_mut e5 hD
      obtain ⟨P5, b5⟩ := P4.grow hD e5' upd_same
      have cv : Cont (fun v f => DcAt RI H5 v f n) k5 s.vt 7 := cont_of_paired hk5 hp5 (Pm.up_nodup hC.up) (fun i h => (hvk i).mp h) hC.le
      walk_at "go"
      refine q_sput P5.slt C.sP s4 ?_
      have P6 := P5.set (vs' := SlX.putS 4 (.ref D) (SlX.putS 1 (.ref q3) (SlX.putS 3 (.ref q2) (SlX.putS 2 (.ref q1) (SlX.putS 0 (.ref ac) [])))))
      have e7 := P6.sm
      refine q _ (b13.trans (b5.trans e7)) ⟨x, dx, .ref ac, .ref q1, .ref q2, .ref q3, .ref D, rfl, P6.slt, ⟨ac, rfl, sm_T (b5.trans e7) hc⟩, d1.monoI (b2.trans (b3.trans (b5.trans e7))), d2.monoR (b3.trans (b5.trans e7)), d3.monoI (b5.trans e7), ?_⟩
      refine ⟨D, o5, k5, rfl, e7 _ _ upd_same, cv.imp fun v f z => ?_⟩
      obtain ⟨qv, ov, kv, rfl, hz, cz⟩ := z
      have P45 := P4.mono e5
      have n1 : qv ≠ x := fun z => by rw [z, P45.hx] at hz; cases hz
      have n2 : qv ≠ dx := fun z => by rw [z, P45.hd] at hz; cases hz
      have n3 : qv ≠ D := fun z => by rw [z, hD5] at hz; cases hz
      exact ⟨qv, ov, kv, rfl, by rw [SlX.slH_ne n1 n2, upd_ne n3]; exact hz, cz⟩
end

/-! W10 -/
section
variable {P : Program} {w : World} {K : PySem.W.Frag} {mg : Str → Option Value} {base : Heap} {a : Adr}

theorem paired_mapm {α β : Type} {F G : α → β → Prop} : ∀ {xs : List α} {ys : List β}, Paired F xs ys → (∀ x y, y ∈ ys → F x y → G x y) → Paired G xs ys
  | _, _, .nil, _ => .nil
  | _, _, .cons h t, g => .cons (g _ _ List.mem_cons_self h) (paired_mapm t fun x y hy => g x y (List.mem_cons_of_mem _ hy))
/-! ### making them -/
def MkR (C : Addr) (sp : Sp) (dvs : List V) (E : XK) (vs : List V) (H1 : Hp) (Q : VK) : Prop := ∀ x dx, H1 x = none → H1 dx = none → dx ≠ x → sp (.ref x :: (vs ++ dvs)) (upd (upd H1 dx (.own x)) x (.ins C dx [])) (fun v H2 => v = .non ∧ Q (.ref x) H2) E
theorem kw_make {σ : L2.St} {H : Hp} {C : Addr} {sp : Sp} {dvs : List V} {E : XK} {t : TA} {Q : VK} (h : t σ H fun vs H1 => MkR C sp dvs E vs H1 Q) : tMake C sp dvs E t σ H Q := h
theorem kw_makeL {σ : L2.St} {H : Hp} {i : Nat} {C : Addr} {sp : Sp} {dvs : List V} {E : XK} {t : TA} {Q : VK} (hs : σ[i]? = some (some (.ref C))) (h : t σ H fun vs H1 => MkR C sp dvs E vs H1 Q) : tMakeL i C sp dvs E t σ H Q := ⟨hs, h⟩
theorem kx_mkL {X : Cx} {k j i : Nat} {C : Addr} {x y : Str} {sp : Sp} {dvs : List V} {p pos : Pos} {e : Expr} {es : List Expr} {t : TA} (c : C8.Mak X.prog X.w X.K X.mg X.base k y C sp dvs) (hr : Room j X.A) (hk : k + 1 ≤ j) (hN : X.N[i]? = some x) (hv : Vis X.env.scope x) (ha : PA X (e :: es) t)
    (hdb : (x == ("__debug__" : Str)) = false := by decide) (hcd : (x == ("__classdict__" : Str)) = false := by decide) (he : starEach (e :: es) X.env = (false, eval e X.env) :: starEach es X.env := by rfl) (hpl : (backTo pos (starEach es X.env)).any (·.1) = false := by rfl) :
    PE X (.Call (.Name x p) (e :: es) [] pos) (tMakeL i C sp dvs C8.E0 t) := by
  obtain ⟨f, fd, ps, ds, M, F, hm, b, d⟩ := c.ex
  exact pe_makeL M F (hr.mono hk) hN hv b d C8.pass0 ha hdb hcd he hpl
theorem q_kmk {H : Hp} {Q : VK} {E : XK} {vc vp vr vf vv : V} (q : ∀ v H', Same H H' → KpAt K a H' v vc vp vr vf vv → Q v H') : MkR a.ck (sp_kinit (K := K) a) [] E [vc, vp, vr, vf, vv] H Q := fun x dx hx hd ne =>
  ⟨H, x, dx, vc, vp, vr, vf, vv, rfl, rfl, hx, hd, ne, fun pt H' e hs hp => ⟨rfl, q _ _ e ⟨x, dx, pt, rfl, hs, hp⟩⟩⟩
theorem q_pmk {H : Hp} {Q : VK} {E : XK} {v vc vp vr vf vv : V} {s : Pm.St} {n : Nat} (hk : KpAt K a H v vc vp vr vf vv) (rp : RParts K H vc vp vr vf vv s n) (hn : n < 64) (hC : Pm.Circ s.C) (hv : ∀ h, (s.vt h).isSome = true ↔ h ∈ s.C) (q : ∀ v H', Same H H' → PPic K a.cp H' v s n → Q v H') :
    MkR a.cp (sp_pinit (K := K) a) [.non, .non, .non, .non] E [v] H Q := fun x dx hx hd ne =>
  ⟨H, x, dx, v, vc, vp, vr, vf, vv, s, n, rfl, rfl, hx, hd, ne, hk, rp, hn, hC, hv, fun H' e p => ⟨rfl, q _ _ e p⟩⟩
/-! ### {**v, k: u} -/
def DsE (p q : Addr) (kvs : List (Key × V)) (y z : V) (H3 : Hp) (Q : VK) : Prop := ∃ k, y = kV k ∧ H3 q = some (.dK []) ∧ H3 p = some (.dK kvs) ∧ Q (.ref p) (upd (upd H3 q (.dK [(k, z)])) p (.dK (putK kvs k z)))
def DsR (p : Addr) (x : V) (σ : L2.St) (H1 : Hp) (tk tu : TE) (Q : VK) : Prop := ∃ a kvs, x = .ref a ∧ H1 p = some (.dK []) ∧ p ≠ a ∧ Rd H1 a (.dK kvs) ∧ kvs.length + 1 ≤ sizeLine ∧
  ∀ q, upd H1 p (.dK (mergeK [] kvs)) q = none → tk σ (upd (upd H1 p (.dK (mergeK [] kvs))) q (.dK [])) fun y H2 => tu σ H2 fun z H3 => DsE p q (mergeK [] kvs) y z H3 Q
theorem kw_ds {σ : L2.St} {H : Hp} {tv tk tu : TE} {Q : VK} (h : ∀ p, H p = none → tv σ (upd H p (.dK [])) fun x H1 => DsR p x σ H1 tk tu Q) : tDst2 tv tk tu σ H Q := h
theorem q_ds {α : Type} {R : V → α → Prop} {σ : L2.St} {H : Hp} {tk tu : TE} {Q : VK} {a p : Addr} {kvs : List (Key × V)} {f : Pm.Dc α} {n : Nat} (h : Rd H a (.dK kvs)) (c : Cont R kvs f n) (hn : n ≤ 1000) (hp : H p = none)
    (q : ∀ q H2, H q = none → Same H H2 → H2 p = some (.dK kvs) → H2 q = some (.dK []) → tk σ H2 fun y H3 => tu σ H3 fun z H4 => DsE p q kvs y z H4 Q) : DsR p (.ref a) σ (upd H p (.dK [])) tk tu Q := by
  have em : mergeK [] kvs = kvs := merge_nil c.nd
  refine ⟨a, kvs, rfl, upd_same, ?_, sm_rd (sm_new hp) h, ?_, fun q0 hq0 => ?_⟩
  · rintro rfl
    rcases h with h | ⟨o, h⟩ <;> rw [hp] at h <;> cases h
  · have := c.len
    rw [sizeLine_eq]; omega
  · rw [em] at hq0 ⊢
    have hne : q0 ≠ p := fun z => by rw [z, upd_same] at hq0; cases hq0
    have hq : H q0 = none := by rw [upd_ne hne, upd_ne hne] at hq0; exact hq0
    refine q q0 _ hq (sm_mut (sm_mut (sm_new hp) hp) hq) ?_ upd_same
    rw [upd_ne (Ne.symm hne), upd_same]
theorem q_dsE {α : Type} {R : Hp → V → α → Prop} {H3 B : Hp} {Q : VK} {p q : Addr} {kvs : List (Key × V)} {f : Pm.Dc α} {n m : Nat} {z : V} {t : Int} {y : α} (mono : ∀ {H H' : Hp} {v : V} {x : α}, Same H H' → R H v x → R H' v x)
    (c : Cont (R B) kvs f n) (hr : R B z y) (hnm : n + 1 ≤ m ∨ (n = m ∧ (f t).isSome = true)) (bp : B p = none) (bq : B q = none) (e : Same B H3) (h3 : H3 p = some (.dK kvs)) (h4 : H3 q = some (.dK []))
    (k : ∀ H', Same B H' → RDc R H' (.ref p) (Pm.up f t y) m → Q (.ref p) H') : DsE p q kvs (.int t) z H3 Q := by
  refine ⟨Sum.inl t, rfl, h4, h3, ?_⟩
  have e2 : Same B (upd (upd H3 q (.dK [(Sum.inl t, z)])) p (.dK (putK kvs (Sum.inl t) z))) := sm_mut (sm_mut e bq) bp
  refine k _ e2 ⟨p, _, rfl, .inl upd_same, ?_⟩
  rcases hnm with h | ⟨rfl, h⟩
  · exact (c.put hr h).imp fun _ _ z => mono e2 z
  · exact (c.over hr h).imp fun _ _ z => mono e2 z
/-! ### first -/
def sp_first (K : PySem.W.Frag) (a : Adr) : Sp := fun vs H Q _ => ∃ c C, vs = [.ref a.cp, .ref c] ∧ SqT K H c (C.map V.int) ∧ Pm.Circ C ∧ ∀ v H', Same H H' → PPic K a.cp H' v (Pm.first C) 0 → Q v H'
abbrev s_Picture_first : Stmt := (L2.inClass (top 59) 2)
abbrev N_Picture_first : List Str := ["cls", "circle", "promised", "house"]
theorem sc_Picture_first : FnScope N_Picture_first ["cls", "circle"] (C8.fnScope s_Picture_first) := C8.fnScope_by (by decide +kernel)
theorem ok_Picture_first {g : Addr} (D : DefM K "first" "Picture.first" s_Picture_first g ["cls", "circle"]) (T : Txt K mg a) (c_is_circle : C8.Cal P w K mg base 4 "is_circle" (sp_circle K) []) (k_KnownParts : C8.Mak P w K mg base 1 "KnownParts" a.ck (sp_kinit (K := K) a) []) (k_Picture : C8.Mak P w K mg base 2 "Picture" a.cp (sp_pinit (K := K) a) [.non, .non, .non, .non]) : FnR P w K mg base C8.CX0 5 g (sp_first K a) :=
  metX D sc_Picture_first (fun vs H Q E h => by obtain ⟨c, C, rfl, hc, hC, q⟩ := h; rfl) fun f cdv A outer s H vs Q E hr h => by
    have hu := hu_of hr
    obtain ⟨c, C, rfl, hc, hC, q⟩ := h
    refine ⟨_, (pss_cons (ps_if (pt_not (pt_val (C8.pe_c c_is_circle hr (by decide) (by rfl) (pa_cons (pv 1) pa_nil))))
          (pss_one ps_never)
          pss_nil)
      (pss_cons (ps_setDc (i := 2) (own := [("house", 3)]) rfl sc_Picture_first.nd rfl rfl (sw_trueD rfl rfl rfl (by decide +kernel)) (kx_tup (K := K) (pv 1)) (blkOk_by (N := N_Picture_first) (sc := (C8.fnScope s_Picture_first)) (by decide +kernel)) (fun _ _ _ _ _ => (pg_name (i := 3) sc_Picture_first.nd rfl (.inl rfl))) (fun _ _ _ _ _ => pts_nil) (fun _ _ _ _ _ => (pv 3)) (fun _ _ _ _ _ => (pe_un un_neg pe_int)))
      (pss_one (ps_ret (kx_mkL (i := 0) k_Picture hr (by decide) rfl (by first | exact .inl rfl | exact .inr rfl) (pa_cons (C8.pe_mk k_KnownParts hr (by decide) (by rfl) (pa_cons (pv 1) (pa_cons (pv 2) (pa_cons pe_dnewK (pa_cons pe_dnewK (pa_cons (pe_dc (own := [("house", 3)]) rfl sc_Picture_first.nd (kx_tup (K := K) (pv 1)) (blkOk_by (N := N_Picture_first) (sc := (C8.fnScope s_Picture_first)) (by decide +kernel)) (fun _ _ _ _ _ => (pg_name (i := 3) sc_Picture_first.nd rfl (.inl rfl))) (fun _ _ _ _ _ => pts_nil) (fun _ _ _ _ _ => (pv 3)) (fun _ _ _ _ _ => pe_dnewK)) pa_nil)))))) pa_nil)))))), ?_⟩
    have h7 := hC.le
    walk_at "go"
    refine ⟨c, C, rfl, hc, hC, fun H1 e1 => ?_⟩
    walk_at "go"
    refine dc_obj walk_tup C (fun _ v _ => v = .int (-1)) (fun _ h => h) (by rw [List.length_map]) (by rw [List.length_map]; omega) (Pm.up_nodup hC.up) (fun _ e2 => sm_T (e1.trans e2) hc) (fun i y z B Ha Hb D hx eb bd hD eB yy Ky Kn ky => ?_) fun D H2 k2 hD e2 hD2 hk2 hp2 => ?_
    · obtain ⟨rfl, hy⟩ := yy
      rw [List.getElem?_map, hx] at hy
      obtain rfl : V.int y = z := Option.some.inj hy
      walk_at "go"
      exact ky _ B _ (Same.refl _) bd eB (Same.refl _) rfl
    · walk_at "go"
      with_reducible refine kw_makeL (by with_unfolding_all rfl) ?_
      walk_at "go"
      with_reducible refine kw_make ?_
      walk_at "go"
      refine NewR.mk fun d3 H3 hn3 e3 hd3 => ?_
      walk_at "go"
      refine NewR.mk fun d4 H4 hn4 e4 hd4 => ?_
      walk_at "go"
      have e14 := e1.trans (e2.trans (e3.trans e4))
      refine dc_obj walk_tup C (fun H v _ => ∃ d, v = .ref d ∧ H d = some (.dK [])) (fun e h => ?_) (by rw [List.length_map]) (by rw [List.length_map]; omega) (Pm.up_nodup hC.up) (fun _ e5 => sm_T (e14.trans e5) hc) (fun i y z B Ha Hb D hx eb bd hD eB yy Ky Kn ky => ?_) fun D5 H5 k5 hD5 e5 hD6 hk5 hp5 => ?_
      · obtain ⟨d, rfl, h⟩ := h
        exact ⟨d, rfl, e _ _ h⟩
      · obtain ⟨rfl, hy⟩ := yy
        rw [List.getElem?_map, hx] at hy
        obtain rfl : V.int y = z := Option.some.inj hy
        walk_at "go"
        refine NewR.mk fun d6 H6 hn6 e6 hd6 => ?_
        obtain ⟨g1, g2, g3⟩ := grow eB bd hD hn6 e6 hd6
        exact ky _ _ _ g1 g3 g2 e6 ⟨d6, rfl, upd_same⟩
      · walk_at "go"
        refine q_kmk fun kv H7 e7 hkv => ?_
        walk_at "go"
        refine q_pmk hkv (s := Pm.first C) (n := 0) ?_ (by omega) hC (fun h => ?_) fun v H8 e8 hv => q v H8 (e14.trans (e5.trans (e7.trans e8))) hv
        · have hpr : Cont (RI H7) k2 (Pm.first C).pr 7 := cont_of_paired hk2 (paired_mapm hp2 fun p x hx h => ⟨-1, if_pos hx, h⟩) (Pm.up_nodup hC.up) (fun i h => ?_) h7
          · have hvt : Cont (fun v f => RDc RI H7 v f 0) k5 (Pm.first C).vt 7 := cont_of_paired hk5 (paired_mapm hp5 fun p x hx h => ?_) (Pm.up_nodup hC.up) (fun i h => ?_) h7
            · exact ⟨⟨c, rfl, sm_T (e14.trans (e5.trans e7)) hc⟩, ⟨D, k2, rfl, .inl (e7 _ _ (e5 _ _ (e4 _ _ (e3 _ _ hD2)))), hpr⟩, ⟨d3, [], rfl, .inl (e7 _ _ (e5 _ _ (e4 _ _ hd3))), .nil⟩, ⟨d4, [], rfl, .inl (e7 _ _ (e5 _ _ hd4)), .nil⟩, ⟨D5, k5, rfl, .inl (e7 _ _ hD6), hvt⟩⟩
            · obtain ⟨d, e9, hd⟩ := h
              exact ⟨fun _ => none, if_pos hx, d, [], e9, .inl (e7 _ _ hd), .nil⟩
            · replace h : (if i ∈ C then some (fun _ => none) else none : Option (Pm.Dc Int)).isSome = true := h
              split at h
              · assumption
              · cases h
          · replace h : (if i ∈ C then some (-1) else none : Option Int).isSome = true := h
            split at h
            · assumption
            · cases h
        · show (if h ∈ C then some (fun _ => none) else none : Option (Pm.Dc Int)).isSome = true ↔ h ∈ C
          split <;> simp_all
end

/-! W11 -/
section
variable {P : Program} {w : World} {K : PySem.W.Frag} {mg : Str → Option Value} {base : Heap} {a : Adr}

theorem RDc.more {α : Type} {R : Hp → V → α → Prop} {H : Hp} {v : V} {f : Pm.Dc α} {n m : Nat} (h : RDc R H v f n) (l : n ≤ m) : RDc R H v f m := by
  obtain ⟨a, kvs, rfl, e, c⟩ := h
  exact ⟨a, kvs, rfl, e, c.more l⟩
theorem RDc.vmore {H : Hp} {v : V} {f : Pm.Dc (Pm.Dc Int)} {n m k : Nat} (h : RDc (fun H v f => RDc RI H v f n) H v f k) (l : n ≤ m) : RDc (fun H v f => RDc RI H v f m) H v f k := by
  obtain ⟨a, kvs, rfl, e, c⟩ := h
  exact ⟨a, kvs, rfl, e, c.imp fun _ _ z => z.more l⟩
theorem monoRR {n : Nat} {H H' : Hp} {v : V} {x : Pm.Dc Int} (e : Same H H') (z : RDc RI H v x n) : RDc RI H' v x n := z.monoI e
/-- done: the next picture -/
def sp_done (K : PySem.W.Frag) (a : Adr) : Sp := fun vs H Q _ => ∃ v x s n act, vs = [v, x] ∧ PPic K a.cp H v s n ∧ Pm.Sound s ∧ n + 1 < 64 ∧ (∀ t r, s.rw t = some r → r.length ≤ 1000) ∧ ActAt K H x act ∧ Pm.Let s act ∧
  ∀ v' s' H', Pm.Step s act s' → Same H H' → PPic K a.cp H' v' s' (n + 1) → Q v' H'
abbrev s_done_in : Stmt := (top 78)
abbrev N_done_in : List Str := ["picture", "action", "circle", "promised", "rows", "firsts", "votes", "row"]
theorem sc_done_in : FnScope N_done_in ["picture", "action"] (C8.fnScope s_done_in) := C8.fnScope_by (by decide +kernel)
theorem ok_done_in (D : DefX K mg "done_in" "done_in" s_done_in ["picture", "action"]) (T : Txt K mg a) (c_parts_of : C8.Cal P w K mg base 1 "parts_of" (sp_parts K a) []) (c_told_row : C8.Cal P w K mg base 2 "told_row" (sp_told K a) []) (C : Cls K a) (k_KnownParts : C8.Mak P w K mg base 1 "KnownParts" a.ck (sp_kinit (K := K) a) []) (k_Picture : C8.Mak P w K mg base 2 "Picture" a.cp (sp_pinit (K := K) a) [.non, .non, .non, .non]) : C8.Cal P w K mg base 4 "done_in" (sp_done K a) [] :=
  calX D sc_done_in (fun vs H Q E h => by obtain ⟨v, x, s, n, act, rfl, hp, S, hn, hlen, ha, hl, q⟩ := h; rfl) fun f cdv A outer s H vs Q E hr h => by
    have hu := hu_of hr
    obtain ⟨v, x, s, n, act, rfl, hp, S, hn, hlen, ha, hl, q⟩ := h
    obtain ⟨vc, vf, vp, vr, vv, ps, pp⟩ := PSl.of hp
    obtain ⟨ap, op, kp, rfl, hdp, cp⟩ := id pp.pr
    obtain ⟨ar, or_, kr, rfl, hdr, cr⟩ := id pp.rw
    obtain ⟨af, of_, kf, rfl, hdf, cf⟩ := id pp.fs
    obtain ⟨av, ov, kv, rfl, hdv, cv⟩ := id pp.vt
    have fin : ∀ (σ : L2.St) (vp' vr' vf' vv' : V) (s' : Pm.St) (H2 : Hp), Pm.Step s act s' → Same H H2 → RParts K H2 vc vp' vr' vf' vv' s' (n + 1) →
        MkR a.ck (sp_kinit (K := K) a) [] C8.E0 [vc, vp', vr', vf', vv'] H2 (fun x H3 => tNil σ H3 fun xs H4 => MkR a.cp (sp_pinit (K := K) a) [.non, .non, .non, .non] C8.E0 (x :: xs) H4 Q) := fun σ vp' vr' vf' vv' s' H2 st e rp =>
      q_kmk fun kv H3 e3 hk => q_pmk hk (rp.mono e3) hn (st.sound S).circ (st.sound S).vtk fun v' H4 e4 hv => q v' s' H4 st (e.trans (e3.trans e4)) hv
    have raw := pp.rawP
    cases act with
    | promise h t =>
      obtain ⟨p0, rfl, hx⟩ := ha
      refine ⟨_, (pss_cons (ps_asg (C8.pe_c c_parts_of hr (by decide) (by rfl) (pa_cons (pv 0) pa_nil)) (kx_gtup (K := K) (n := 5) (by rfl) (pgs_cons (pg_name (i := 2) sc_done_in.nd rfl (.inl rfl)) (pgs_cons (pg_name (i := 3) sc_done_in.nd rfl (.inl rfl)) (pgs_cons (pg_name (i := 4) sc_done_in.nd rfl (.inl rfl)) (pgs_cons (pg_name (i := 5) sc_done_in.nd rfl (.inl rfl)) (pgs_cons (pg_name (i := 6) sc_done_in.nd rfl (.inl rfl)) pgs_nil)))))))
      (pss_cons (ps_match (pe_ix (kx_ix (K := K)) (pv 1) pe_int (fun _ _ => rfl))
          (pcs_cons (pss_one (ps_set (i := 3) sc_done_in.nd rfl (.inl rfl) (pe_dst2 (pv 3) (pe_ix (kx_ix (K := K)) (pv 1) pe_int (fun _ _ => rfl)) (pe_ix (kx_ix (K := K)) (pv 1) pe_int (fun _ _ => rfl)))))
          (pcs_cons (pss_cons (ps_set (i := 7) sc_done_in.nd rfl (.inl rfl) (C8.pe_c c_told_row hr (by decide) (by rfl) (pa_cons (pv 0) (pa_cons (pe_ix (kx_ix (K := K)) (pv 1) pe_int (fun _ _ => rfl)) (pa_cons (pe_ix (kx_ix (K := K)) (pv 1) pe_int (fun _ _ => rfl)) pa_nil)))))
            (pss_one (ps_par (i := 4) (j := 5) (by rfl) sc_done_in.nd rfl rfl (by decide) rfl rfl (pa_cons (pe_dst2 (pv 4) (pe_ix (kx_ix (K := K)) (pv 1) pe_int (fun _ _ => rfl)) (pv 7)) (pa_cons (pe_dst2 (pv 5) (pe_ix (kx_ix (K := K)) (pv 1) pe_int (fun _ _ => rfl)) (pe_callB (kx_len (K := K)) (by rfl) T.z_len PySem.boot_len (pa_cons (pv 7) pa_nil))) pa_nil)) (by rfl))))
          (pcs_cons (pss_one (ps_set (i := 4) sc_done_in.nd rfl (.inl rfl) (pe_dst2 (pv 4) (pe_ix (kx_ix (K := K)) (pv 1) pe_int (fun _ _ => rfl)) (pe_tup (kx_star (K := K) (pe_dget hu (pv 4) (pe_ix (kx_ix (K := K)) (pv 1) pe_int (fun _ _ => rfl)) (fun _ _ => rfl)) (pa_cons (pe_ix (kx_ix (K := K)) (pv 1) pe_int (fun _ _ => rfl)) pa_nil))))))
          (pcs_cons (pss_cons (ps_set (i := 3) sc_done_in.nd rfl (.inl rfl) (pe_dst2 (pv 3) (pe_ix (kx_ix (K := K)) (pv 1) pe_int (fun _ _ => rfl)) (pe_ix (kx_ix (K := K)) (pv 1) pe_int (fun _ _ => rfl))))
            (pss_one (ps_set (i := 6) sc_done_in.nd rfl (.inl rfl) (pe_dst2 (pv 6) (pe_ix (kx_ix (K := K)) (pv 1) pe_int (fun _ _ => rfl)) (pe_dst2 (pe_dget hu (pv 6) (pe_ix (kx_ix (K := K)) (pv 1) pe_int (fun _ _ => rfl)) (fun _ _ => rfl)) (pe_ix (kx_ix (K := K)) (pv 1) pe_int (fun _ _ => rfl)) (pe_ix (kx_ix (K := K)) (pv 1) pe_int (fun _ _ => rfl)))))))
          pcs_nil)))))
      (pss_one (ps_ret (C8.pe_mk k_Picture hr (by decide) (by rfl) (pa_cons (C8.pe_mk k_KnownParts hr (by decide) (by rfl) (pa_cons (pv 2) (pa_cons (pv 3) (pa_cons (pv 4) (pa_cons (pv 5) (pa_cons (pv 6) pa_nil)))))) pa_nil)))))), ?_⟩
      walk_at "go"
      refine ⟨v, _, _, _, _, _, rfl, ps, fun pt H1 hn1 e1 hpt => ?_⟩
      walk_at "go"
      with_reducible refine kw_ds fun p hp1 => ?_
      walk_at "go"
      refine q_ds (.inr ⟨op, e1 _ _ hdp⟩) cp (by omega) hp1 fun q0 H2 hq e2 h2p h2q => ?_
      walk_at "go"
      refine q_dsE (R := RI) (B := H1) (n := 7) (m := 7) (fun _ z => z) cp rfl (.inr ⟨rfl, ?_⟩) hp1 hq e2 h2p h2q fun H3 e3 rd => ?_
      · obtain ⟨p9, h9, _⟩ := hl; rw [h9]; rfl
      walk_at "go"
      with_reducible refine kw_make ?_
      walk_at "go"
      with_reducible refine kw_make ?_
      walk_at "go"
      have e03 := e1.trans e3
      have raw3 := raw.mono e03
      exact fin _ _ _ _ _ _ H3 (.promise hl) e03 ⟨raw3.cir, rd, raw3.rw.more (Nat.le_succ n), raw3.fs.more (Nat.le_succ n), raw3.vt.vmore (Nat.le_succ n)⟩
    | lead t lot =>
      obtain ⟨p0, l0, rfl, hx, hx2⟩ := ha
      refine ⟨_, (pss_cons (ps_asg (C8.pe_c c_parts_of hr (by decide) (by rfl) (pa_cons (pv 0) pa_nil)) (kx_gtup (K := K) (n := 5) (by rfl) (pgs_cons (pg_name (i := 2) sc_done_in.nd rfl (.inl rfl)) (pgs_cons (pg_name (i := 3) sc_done_in.nd rfl (.inl rfl)) (pgs_cons (pg_name (i := 4) sc_done_in.nd rfl (.inl rfl)) (pgs_cons (pg_name (i := 5) sc_done_in.nd rfl (.inl rfl)) (pgs_cons (pg_name (i := 6) sc_done_in.nd rfl (.inl rfl)) pgs_nil)))))))
      (pss_cons (ps_match (pe_ix (kx_ix (K := K)) (pv 1) pe_int (fun _ _ => rfl))
          (pcs_cons (pss_one (ps_set (i := 3) sc_done_in.nd rfl (.inl rfl) (pe_dst2 (pv 3) (pe_ix (kx_ix (K := K)) (pv 1) pe_int (fun _ _ => rfl)) (pe_ix (kx_ix (K := K)) (pv 1) pe_int (fun _ _ => rfl)))))
          (pcs_cons (pss_cons (ps_set (i := 7) sc_done_in.nd rfl (.inl rfl) (C8.pe_c c_told_row hr (by decide) (by rfl) (pa_cons (pv 0) (pa_cons (pe_ix (kx_ix (K := K)) (pv 1) pe_int (fun _ _ => rfl)) (pa_cons (pe_ix (kx_ix (K := K)) (pv 1) pe_int (fun _ _ => rfl)) pa_nil)))))
            (pss_one (ps_par (i := 4) (j := 5) (by rfl) sc_done_in.nd rfl rfl (by decide) rfl rfl (pa_cons (pe_dst2 (pv 4) (pe_ix (kx_ix (K := K)) (pv 1) pe_int (fun _ _ => rfl)) (pv 7)) (pa_cons (pe_dst2 (pv 5) (pe_ix (kx_ix (K := K)) (pv 1) pe_int (fun _ _ => rfl)) (pe_callB (kx_len (K := K)) (by rfl) T.z_len PySem.boot_len (pa_cons (pv 7) pa_nil))) pa_nil)) (by rfl))))
          (pcs_cons (pss_one (ps_set (i := 4) sc_done_in.nd rfl (.inl rfl) (pe_dst2 (pv 4) (pe_ix (kx_ix (K := K)) (pv 1) pe_int (fun _ _ => rfl)) (pe_tup (kx_star (K := K) (pe_dget hu (pv 4) (pe_ix (kx_ix (K := K)) (pv 1) pe_int (fun _ _ => rfl)) (fun _ _ => rfl)) (pa_cons (pe_ix (kx_ix (K := K)) (pv 1) pe_int (fun _ _ => rfl)) pa_nil))))))
          (pcs_cons (pss_cons (ps_set (i := 3) sc_done_in.nd rfl (.inl rfl) (pe_dst2 (pv 3) (pe_ix (kx_ix (K := K)) (pv 1) pe_int (fun _ _ => rfl)) (pe_ix (kx_ix (K := K)) (pv 1) pe_int (fun _ _ => rfl))))
            (pss_one (ps_set (i := 6) sc_done_in.nd rfl (.inl rfl) (pe_dst2 (pv 6) (pe_ix (kx_ix (K := K)) (pv 1) pe_int (fun _ _ => rfl)) (pe_dst2 (pe_dget hu (pv 6) (pe_ix (kx_ix (K := K)) (pv 1) pe_int (fun _ _ => rfl)) (fun _ _ => rfl)) (pe_ix (kx_ix (K := K)) (pv 1) pe_int (fun _ _ => rfl)) (pe_ix (kx_ix (K := K)) (pv 1) pe_int (fun _ _ => rfl)))))))
          pcs_nil)))))
      (pss_one (ps_ret (C8.pe_mk k_Picture hr (by decide) (by rfl) (pa_cons (C8.pe_mk k_KnownParts hr (by decide) (by rfl) (pa_cons (pv 2) (pa_cons (pv 3) (pa_cons (pv 4) (pa_cons (pv 5) (pa_cons (pv 6) pa_nil)))))) pa_nil)))))), ?_⟩
      walk_at "go"
      refine ⟨v, _, _, _, _, _, rfl, ps, fun pt H1 hn1 e1 hpt => ?_⟩
      walk_at "go"
      refine ⟨v, s, n, l0, lot, t, rfl, hp.mono e1, S, by omega, sm_T e1 hx2, hl.2.2.2.1, fun fv row H2 htold hfv e2 => ?_⟩
      walk_at "go"
      have e02 := e1.trans e2
      with_reducible refine kw_ds fun p hp1 => ?_
      walk_at "go"
      refine q_ds (.inr ⟨or_, e02 _ _ hdr⟩) cr (by omega) hp1 fun q0 H3 hq e3 h3p h3q => ?_
      walk_at "go"
      refine q_dsE (R := RowAt K) (B := H2) (n := n) (m := n + 1) (fun e z => z.mono e) (cr.imp fun _ _ z => z.mono e02) hfv (.inl (Nat.le_refl _)) hp1 hq e3 h3p h3q fun H4 e4 rd => ?_
      walk_at "go"
      have e04 := e02.trans e4
      obtain ⟨fa, fx, rfl, hfx, hfp⟩ := hfv.mono e4
      have hfl := Paired.length hfp
      with_reducible refine kw_ds fun p2 hp2 => ?_
      walk_at "go"
      refine q_ds (.inr ⟨of_, e04 _ _ hdf⟩) cf (by omega) hp2 fun q2 H5 hq2 e5 h5p h5q => ?_
      walk_at "go"
      rw [hfl]
      refine q_dsE (R := RI) (B := H4) (n := n) (m := n + 1) (fun _ z => z) cf rfl (.inl (Nat.le_refl _)) hp2 hq2 e5 h5p h5q fun H6 e6 rd2 => ?_
      walk_at "go"
      with_reducible refine kw_make ?_
      walk_at "go"
      with_reducible refine kw_make ?_
      walk_at "go"
      have e06 := e04.trans e6
      have raw6 := raw.mono e06
      exact fin _ _ _ _ _ _ H6 (.lead hl htold) e06 ⟨raw6.cir, raw6.pr, RDc.mono (fun e z => z.mono e) e6 rd, rd2, raw6.vt.vmore (Nat.le_succ n)⟩
    | append t en =>
      obtain ⟨p0, d0, rfl, hx, hd0⟩ := ha
      obtain ⟨r, hrt⟩ := Option.isSome_iff_exists.mp (show (s.rw t).isSome = true from hl)
      refine ⟨_, (pss_cons (ps_asg (C8.pe_c c_parts_of hr (by decide) (by rfl) (pa_cons (pv 0) pa_nil)) (kx_gtup (K := K) (n := 5) (by rfl) (pgs_cons (pg_name (i := 2) sc_done_in.nd rfl (.inl rfl)) (pgs_cons (pg_name (i := 3) sc_done_in.nd rfl (.inl rfl)) (pgs_cons (pg_name (i := 4) sc_done_in.nd rfl (.inl rfl)) (pgs_cons (pg_name (i := 5) sc_done_in.nd rfl (.inl rfl)) (pgs_cons (pg_name (i := 6) sc_done_in.nd rfl (.inl rfl)) pgs_nil)))))))
      (pss_cons (ps_match (pe_ix (kx_ix (K := K)) (pv 1) pe_int (fun _ _ => rfl))
          (pcs_cons (pss_one (ps_set (i := 3) sc_done_in.nd rfl (.inl rfl) (pe_dst2 (pv 3) (pe_ix (kx_ix (K := K)) (pv 1) pe_int (fun _ _ => rfl)) (pe_ix (kx_ix (K := K)) (pv 1) pe_int (fun _ _ => rfl)))))
          (pcs_cons (pss_cons (ps_set (i := 7) sc_done_in.nd rfl (.inl rfl) (C8.pe_c c_told_row hr (by decide) (by rfl) (pa_cons (pv 0) (pa_cons (pe_ix (kx_ix (K := K)) (pv 1) pe_int (fun _ _ => rfl)) (pa_cons (pe_ix (kx_ix (K := K)) (pv 1) pe_int (fun _ _ => rfl)) pa_nil)))))
            (pss_one (ps_par (i := 4) (j := 5) (by rfl) sc_done_in.nd rfl rfl (by decide) rfl rfl (pa_cons (pe_dst2 (pv 4) (pe_ix (kx_ix (K := K)) (pv 1) pe_int (fun _ _ => rfl)) (pv 7)) (pa_cons (pe_dst2 (pv 5) (pe_ix (kx_ix (K := K)) (pv 1) pe_int (fun _ _ => rfl)) (pe_callB (kx_len (K := K)) (by rfl) T.z_len PySem.boot_len (pa_cons (pv 7) pa_nil))) pa_nil)) (by rfl))))
          (pcs_cons (pss_one (ps_set (i := 4) sc_done_in.nd rfl (.inl rfl) (pe_dst2 (pv 4) (pe_ix (kx_ix (K := K)) (pv 1) pe_int (fun _ _ => rfl)) (pe_tup (kx_star (K := K) (pe_dget hu (pv 4) (pe_ix (kx_ix (K := K)) (pv 1) pe_int (fun _ _ => rfl)) (fun _ _ => rfl)) (pa_cons (pe_ix (kx_ix (K := K)) (pv 1) pe_int (fun _ _ => rfl)) pa_nil))))))
          (pcs_cons (pss_cons (ps_set (i := 3) sc_done_in.nd rfl (.inl rfl) (pe_dst2 (pv 3) (pe_ix (kx_ix (K := K)) (pv 1) pe_int (fun _ _ => rfl)) (pe_ix (kx_ix (K := K)) (pv 1) pe_int (fun _ _ => rfl))))
            (pss_one (ps_set (i := 6) sc_done_in.nd rfl (.inl rfl) (pe_dst2 (pv 6) (pe_ix (kx_ix (K := K)) (pv 1) pe_int (fun _ _ => rfl)) (pe_dst2 (pe_dget hu (pv 6) (pe_ix (kx_ix (K := K)) (pv 1) pe_int (fun _ _ => rfl)) (fun _ _ => rfl)) (pe_ix (kx_ix (K := K)) (pv 1) pe_int (fun _ _ => rfl)) (pe_ix (kx_ix (K := K)) (pv 1) pe_int (fun _ _ => rfl)))))))
          pcs_nil)))))
      (pss_one (ps_ret (C8.pe_mk k_Picture hr (by decide) (by rfl) (pa_cons (C8.pe_mk k_KnownParts hr (by decide) (by rfl) (pa_cons (pv 2) (pa_cons (pv 3) (pa_cons (pv 4) (pa_cons (pv 5) (pa_cons (pv 6) pa_nil)))))) pa_nil)))))), ?_⟩
      walk_at "go"
      refine ⟨v, _, _, _, _, _, rfl, ps, fun pt H1 hn1 e1 hpt => ?_⟩
      walk_at "go"
      with_reducible refine kw_ds fun p hp1 => ?_
      walk_at "go"
      refine q_ds (.inr ⟨or_, e1 _ _ hdr⟩) cr (by omega) hp1 fun q0 H2 hq e2 h2p h2q => ?_
      walk_at "go"
      have rv := cr.val t
      rw [hrt] at rv
      obtain ⟨w0, hw1, ra, rx, rfl, hrx, hrp⟩ := rv.some_of
      have hrl := Paired.length hrp
      have := hlen t r hrt
      refine q_dk (.inr ⟨or_, (e1.trans e2) _ _ hdr⟩) hw1 ?_
      walk_at "go"
      refine ⟨by rw [sizeLine_eq, List.length_append, hrl]; simp only [List.length_cons, List.length_nil]; omega, NewR.mk fun nr H3 hnr e3 hnr3 => ?_⟩
      obtain ⟨g1, g2, g3⟩ := grow e2 hp1 ⟨_, h2p⟩ hnr e3 hnr3
      obtain ⟨_, _, g4⟩ := grow e2 hq ⟨_, h2q⟩ hnr e3 hnr3
      have eB := e1.trans g1
      refine q_dsE (R := RowAt K) (B := upd H1 nr (.tup (rx ++ [d0]))) (n := n) (m := n) (y := r ++ [en]) (fun e z => z.mono e) (cr.imp fun _ _ z => z.mono eB) ⟨nr, rx ++ [d0], rfl, .inl (.inl upd_same), paired_snoc (Paired.mapP hrp fun _ _ z => z.mono eB) (hd0.mono eB)⟩ (.inr ⟨rfl, hl⟩) g3 g4 g2 (e3 _ _ h2p) (e3 _ _ h2q) fun H4 e4 rd => ?_
      walk_at "go"
      with_reducible refine kw_make ?_
      walk_at "go"
      with_reducible refine kw_make ?_
      walk_at "go"
      have e04 := eB.trans e4
      have raw4 := raw.mono e04
      refine fin _ _ _ _ _ _ H4 (.append (e := en) hl) e04 ⟨raw4.cir, raw4.pr, ?_, raw4.fs.more (Nat.le_succ n), raw4.vt.vmore (Nat.le_succ n)⟩
      show RDc (RowAt K) H4 _ (Pm.up s.rw t (((s.rw t).getD []) ++ [en])) (n + 1)
      rw [hrt]
      exact rd.more (Nat.le_succ n)
    | vote h t m =>
      obtain ⟨p0, rfl, hx⟩ := ha
      refine ⟨_, (pss_cons (ps_asg (C8.pe_c c_parts_of hr (by decide) (by rfl) (pa_cons (pv 0) pa_nil)) (kx_gtup (K := K) (n := 5) (by rfl) (pgs_cons (pg_name (i := 2) sc_done_in.nd rfl (.inl rfl)) (pgs_cons (pg_name (i := 3) sc_done_in.nd rfl (.inl rfl)) (pgs_cons (pg_name (i := 4) sc_done_in.nd rfl (.inl rfl)) (pgs_cons (pg_name (i := 5) sc_done_in.nd rfl (.inl rfl)) (pgs_cons (pg_name (i := 6) sc_done_in.nd rfl (.inl rfl)) pgs_nil)))))))
      (pss_cons (ps_match (pe_ix (kx_ix (K := K)) (pv 1) pe_int (fun _ _ => rfl))
          (pcs_cons (pss_one (ps_set (i := 3) sc_done_in.nd rfl (.inl rfl) (pe_dst2 (pv 3) (pe_ix (kx_ix (K := K)) (pv 1) pe_int (fun _ _ => rfl)) (pe_ix (kx_ix (K := K)) (pv 1) pe_int (fun _ _ => rfl)))))
          (pcs_cons (pss_cons (ps_set (i := 7) sc_done_in.nd rfl (.inl rfl) (C8.pe_c c_told_row hr (by decide) (by rfl) (pa_cons (pv 0) (pa_cons (pe_ix (kx_ix (K := K)) (pv 1) pe_int (fun _ _ => rfl)) (pa_cons (pe_ix (kx_ix (K := K)) (pv 1) pe_int (fun _ _ => rfl)) pa_nil)))))
            (pss_one (ps_par (i := 4) (j := 5) (by rfl) sc_done_in.nd rfl rfl (by decide) rfl rfl (pa_cons (pe_dst2 (pv 4) (pe_ix (kx_ix (K := K)) (pv 1) pe_int (fun _ _ => rfl)) (pv 7)) (pa_cons (pe_dst2 (pv 5) (pe_ix (kx_ix (K := K)) (pv 1) pe_int (fun _ _ => rfl)) (pe_callB (kx_len (K := K)) (by rfl) T.z_len PySem.boot_len (pa_cons (pv 7) pa_nil))) pa_nil)) (by rfl))))
          (pcs_cons (pss_one (ps_set (i := 4) sc_done_in.nd rfl (.inl rfl) (pe_dst2 (pv 4) (pe_ix (kx_ix (K := K)) (pv 1) pe_int (fun _ _ => rfl)) (pe_tup (kx_star (K := K) (pe_dget hu (pv 4) (pe_ix (kx_ix (K := K)) (pv 1) pe_int (fun _ _ => rfl)) (fun _ _ => rfl)) (pa_cons (pe_ix (kx_ix (K := K)) (pv 1) pe_int (fun _ _ => rfl)) pa_nil))))))
          (pcs_cons (pss_cons (ps_set (i := 3) sc_done_in.nd rfl (.inl rfl) (pe_dst2 (pv 3) (pe_ix (kx_ix (K := K)) (pv 1) pe_int (fun _ _ => rfl)) (pe_ix (kx_ix (K := K)) (pv 1) pe_int (fun _ _ => rfl))))
            (pss_one (ps_set (i := 6) sc_done_in.nd rfl (.inl rfl) (pe_dst2 (pv 6) (pe_ix (kx_ix (K := K)) (pv 1) pe_int (fun _ _ => rfl)) (pe_dst2 (pe_dget hu (pv 6) (pe_ix (kx_ix (K := K)) (pv 1) pe_int (fun _ _ => rfl)) (fun _ _ => rfl)) (pe_ix (kx_ix (K := K)) (pv 1) pe_int (fun _ _ => rfl)) (pe_ix (kx_ix (K := K)) (pv 1) pe_int (fun _ _ => rfl)))))))
          pcs_nil)))))
      (pss_one (ps_ret (C8.pe_mk k_Picture hr (by decide) (by rfl) (pa_cons (C8.pe_mk k_KnownParts hr (by decide) (by rfl) (pa_cons (pv 2) (pa_cons (pv 3) (pa_cons (pv 4) (pa_cons (pv 5) (pa_cons (pv 6) pa_nil)))))) pa_nil)))))), ?_⟩
      walk_at "go"
      refine ⟨v, _, _, _, _, _, rfl, ps, fun pt H1 hn1 e1 hpt => ?_⟩
      walk_at "go"
      have hl2 := hl
      obtain ⟨p9, r9, f9, h9, h91, h92, _⟩ := hl2
      have hC : h ∈ s.C := (S.prk h).mp (by rw [h9]; rfl)
      obtain ⟨fh, hfh⟩ := vote_dict S hC
      with_reducible refine kw_ds fun p hp1 => ?_
      walk_at "go"
      refine q_ds (.inr ⟨op, e1 _ _ hdp⟩) cp (by omega) hp1 fun q0 H2 hq e2 h2p h2q => ?_
      walk_at "go"
      refine q_dsE (R := RI) (B := H1) (n := 7) (m := 7) (fun _ z => z) cp rfl (.inr ⟨rfl, by rw [h9]; rfl⟩) hp1 hq e2 h2p h2q fun H3 e3 rd => ?_
      walk_at "go"
      have e03 := e1.trans e3
      with_reducible refine kw_ds fun p2 hp2 => ?_
      walk_at "go"
      refine q_ds (.inr ⟨ov, e03 _ _ hdv⟩) cv (by omega) hp2 fun q2 H4 hq2 e4 h4p h4q => ?_
      walk_at "go"
      have e04 := e03.trans e4
      have rv := cv.val h
      rw [hfh] at rv
      obtain ⟨w0, hw1, au, ou, ku, rfl, hdu, cu⟩ := rv.some_of
      with_reducible refine kw_ds fun p3 hp3 => ?_
      have es : Same H4 (upd H4 p3 (.dK [])) := sm_new hp3
      walk_at "go"
      refine q_dk (sm_rd (sm_new hp3) (.inr ⟨ov, e04 _ _ hdv⟩)) hw1 ?_
      refine q_ds (.inr ⟨ou, e04 _ _ hdu⟩) cu (by omega) hp3 fun q3 H5 hq3 e5 h5p h5q => ?_
      walk_at "go"
      refine q_dsE (R := RI) (B := H4) (n := n) (m := n + 1) (fun _ z => z) cu rfl (.inl (Nat.le_refl _)) hp3 hq3 e5 h5p h5q fun H6 e6 rd6 => ?_
      obtain ⟨_, k6, z6, hr6, c6⟩ := rd6
      cases z6
      have hu6 : ∃ u6, H6 p3 = some u6 ∧ Rd (upd H3 p3 u6) p3 (.dK k6) := by
        rcases hr6 with h | ⟨o, h⟩
        · exact ⟨_, h, .inl upd_same⟩
        · exact ⟨_, h, .inr ⟨o, upd_same⟩⟩
      obtain ⟨u6, hu6, hr7⟩ := hu6
      obtain ⟨g1, g2, g3⟩ := grow e4 hp2 ⟨_, h4p⟩ hp3 e6 hu6
      obtain ⟨_, _, g4⟩ := grow e4 hq2 ⟨_, h4q⟩ hp3 e6 hu6
      have eB := e03.trans g1
      refine q_dsE (R := fun H v f => RDc RI H v f (n + 1)) (B := upd H3 p3 u6) (n := 7) (m := 7) (y := Pm.up fh t m) monoRR (cv.imp fun _ _ z => (z.raw.monoI eB).more (Nat.le_succ n)) ⟨p3, k6, rfl, hr7, c6⟩ (.inr ⟨rfl, by rw [hfh]; rfl⟩) g3 g4 g2 (e6 _ _ h4p) (e6 _ _ h4q) fun H7 e7 rd7 => ?_
      walk_at "go"
      with_reducible refine kw_make ?_
      walk_at "go"
      with_reducible refine kw_make ?_
      walk_at "go"
      have e37 := g1.trans e7
      have e07 := e03.trans e37
      have raw7 := raw.mono e07
      refine fin _ _ _ _ _ _ H7 (.vote hl) e07 ⟨raw7.cir, rd.monoI e37, raw7.rw.more (Nat.le_succ n), raw7.fs.more (Nat.le_succ n), ?_⟩
      show RDc _ H7 _ (Pm.up s.vt h (Pm.up ((s.vt h).getD fun _ => none) t m)) 7
      rw [hfh]
      exact rd7
end

/-! W12 -/
section
variable {P : Program} {w : World} {K : PySem.W.Frag} {mg : Str → Option Value} {base : Heap} {a : Adr}

/-! ### methods -/
def MthX (P : Program) (w : World) (K : PySem.W.Frag) (mg : Str → Option Value) (base : Heap) (k : Nat) (C : Addr) (m : Str) (sp : Sp) : Prop := ∃ g, Meth K C m g ∧ FnR P w K mg base C8.CX0 k g sp
def PrpX (P : Program) (w : World) (K : PySem.W.Frag) (mg : Str → Option Value) (base : Heap) (k : Nat) (C : Addr) (m : Str) (sp : Sp) : Prop := ∃ p g, PySem.W.findIn K (.ref C) m = some (some (.ref p)) ∧ PySem.W.specialIn K (.ref p) "__get__" = some (some (.builtin "property.__get__")) ∧
  PySem.W.takesIn K (.ref p) = some true ∧ (∃ rest, PySem.W.recIn K p "property" = some (.ref g :: rest)) ∧ FnR P w K mg base C8.CX0 k g sp
def ClmX (P : Program) (w : World) (K : PySem.W.Frag) (mg : Str → Option Value) (base : Heap) (k : Nat) (C : Addr) (m : Str) (sp : Sp) : Prop := ∃ mc p g, ClX.CRead K C mc ∧ ClX.CMet K C mc m p g ∧ FnR P w K mg base C8.CX0 k g sp
def OwnX (P : Program) (w : World) (K : PySem.W.Frag) (mg : Str → Option Value) (base : Heap) (k : Nat) (C : Addr) (sp : Sp) : Prop := ∃ g, PySem.W.findIn K (.ref C) "__eq__" = some (some (.ref g)) ∧ PySem.W.isFn K (.ref g) = true ∧ PySem.W.notFirst K C (.ref C) = true ∧ FnR P w K mg base C8.CX0 k g sp
section
variable {X : Cx} {o e : Expr} {es : List Expr} {ta : TE} {t : TA} {C : Addr} {m : Str} {k j : Nat} {sp : Sp} {pos apos : Pos}
theorem kx_meth (c : SlX.SCls X.K C) (M : MthX X.prog X.w X.K X.mg X.base k C m sp) (hr : Room j X.A) (hk : k ≤ j) (he : PE X o ta) (ha : PA X (e :: es) t) {pl : Sem Bool}
    (hst : starEach (e :: es) X.env = (false, eval e X.env) :: starEach es X.env := by rfl) (hpl : (backTo pos (starEach es X.env)).any (·.1) = false := by rfl)
    (ht : eval (.Call (.Attribute o m apos) (e :: es) [] pos) X.env = (do
      let ov ← eval o X.env
      standAt apos.atName
      let (f, first) ← holding [ov] (getMethod ov m pl)
      callWith pos f first (backTo pos (starEach (e :: es) X.env)) (backToKw pos (keywordEach [] X.env))) := by rfl) :
    PE X (.Call (.Attribute o m apos) (e :: es) [] pos) (SlX.tMethSl C sp C8.E0 ta t) := by
  obtain ⟨g, hm, F⟩ := M
  exact SlX.pe_methSl he c hm F (hr.mono hk) C8.pass0 ha hst hpl ht
theorem kx_meth0 (c : SlX.SCls X.K C) (M : MthX X.prog X.w X.K X.mg X.base k C m sp) (hr : Room j X.A) (hk : k ≤ j) (he : PE X o ta) {pl : Sem Bool}
    (ht : eval (.Call (.Attribute o m apos) [] [] pos) X.env = (do
      let ov ← eval o X.env
      standAt apos.atName
      let (f, first) ← holding [ov] (getMethod ov m pl)
      callWith pos f first (backTo pos (starEach [] X.env)) (backToKw pos (keywordEach [] X.env))) := by rfl) :
    PE X (.Call (.Attribute o m apos) [] [] pos) (SlX.tMethSl C sp C8.E0 ta tNil) := by
  obtain ⟨g, hm, F⟩ := M
  exact SlX.pe_methSl0 he c hm F (hr.mono hk) C8.pass0 ht
theorem kx_prop (c : SlX.SCls X.K C) (M : PrpX X.prog X.w X.K X.mg X.base k C m sp) (hr : Room j X.A) (hk : k + 1 ≤ j) (he : PE X o ta) (hb : attributeBase o m X.env (eval o X.env) = eval o X.env := by rfl) : PE X (.Attribute o m pos) (SlX.tPropSl C sp C8.E0 ta) := by
  obtain ⟨p, g, h1, h2, h3, h4, F⟩ := M
  exact SlX.pe_propSl he c h1 h2 h3 h4 F (hr.mono hk) (fun _ _ _ _ h => h.elim) hb
theorem kx_clm (M : ClmX X.prog X.w X.K X.mg X.base k C m sp) (hr : Room j X.A) (hk : k ≤ j) (he : PE X o ta) (ha : PA X (e :: es) t) {pl : Sem Bool}
    (hst : starEach (e :: es) X.env = (false, eval e X.env) :: starEach es X.env := by rfl) (hpl : (backTo pos (starEach es X.env)).any (·.1) = false := by rfl)
    (ht : eval (.Call (.Attribute o m apos) (e :: es) [] pos) X.env = (do
      let ov ← eval o X.env
      standAt apos.atName
      let (f, first) ← holding [ov] (getMethod ov m pl)
      callWith pos f first (backTo pos (starEach (e :: es) X.env)) (backToKw pos (keywordEach [] X.env))) := by rfl) :
    PE X (.Call (.Attribute o m apos) (e :: es) [] pos) (ClX.tCMeth C sp C8.E0 ta t) := by
  obtain ⟨mc, p, g, h1, h2, F⟩ := M
  exact ClX.pe_cmeth he h1 h2 F (hr.mono hk) C8.pass0 ha hst hpl ht
theorem ox_own (M : OwnX X.prog X.w X.K X.mg X.base k C sp) (hr : Room j X.A) (hk : k ≤ j) : OpR X (compareOp .Eq) (SlX.rOwn X.K C sp C8.E0) := by
  obtain ⟨g, h1, h2, h3, F⟩ := M
  exact SlX.op_own (fun _ _ => rfl) h1 h2 F (hr.mono hk) C8.pass0
end
/-! ### {**v} -/
def D1R (p : Addr) (x : V) (H1 : Hp) (Q : VK) : Prop := ∃ a kvs, x = .ref a ∧ H1 p = some (.dK []) ∧ p ≠ a ∧ Rd H1 a (.dK kvs) ∧ kvs.length ≤ sizeLine ∧ Q (.ref p) (upd H1 p (.dK (mergeK [] kvs)))
theorem kw_ds1 {σ : L2.St} {H : Hp} {tv : TE} {Q : VK} (h : ∀ p, H p = none → tv σ (upd H p (.dK [])) fun x H1 => D1R p x H1 Q) : tDst1 tv σ H Q := h
theorem q_ds1 {α : Type} {R : Hp → V → α → Prop} {H : Hp} {Q : VK} {p : Addr} {v : V} {f : Pm.Dc α} {n : Nat} (mono : ∀ {H H' : Hp} {v : V} {x : α}, Same H H' → R H v x → R H' v x) (h : DcAt R H v f n) (hn : n ≤ 1000) (hp : H p = none)
    (q : ∀ H', Same H H' → (∃ kvs, H' p = some (.dK kvs)) → RDc R H' (.ref p) f n → Q (.ref p) H') : D1R p v (upd H p (.dK [])) Q := by
  obtain ⟨a, o, kvs, rfl, h, c⟩ := h
  have em : mergeK [] kvs = kvs := merge_nil c.nd
  have e : Same H (upd (upd H p (.dK [])) p (.dK (mergeK [] kvs))) := sm_mut (sm_new hp) hp
  refine ⟨a, kvs, rfl, upd_same, fun z => ?_, .inr ⟨o, (sm_new hp) _ _ h⟩, by have := c.len; rw [sizeLine_eq]; omega, q _ e ⟨_, upd_same⟩ ⟨p, kvs, rfl, .inl ?_, c.imp fun _ _ z => mono e z⟩⟩
  · rw [← z, hp] at h; cases h
  · rw [upd_same, em]
def sp_promised (K : PySem.W.Frag) (a : Adr) : Sp := fun vs H Q _ => ∃ x s n, vs = [x] ∧ PPic K a.cp H x s n ∧ n ≤ 1000 ∧ ∀ v H', Same H H' → RDc RI H' v s.pr 7 → Q v H'
def sp_firsts (K : PySem.W.Frag) (a : Adr) : Sp := fun vs H Q _ => ∃ x s n, vs = [x] ∧ PPic K a.cp H x s n ∧ n ≤ 1000 ∧ ∀ v H', Same H H' → RDc RI H' v s.fs n → Q v H'
def sp_rows (K : PySem.W.Frag) (a : Adr) : Sp := fun vs H Q _ => ∃ x s n, vs = [x] ∧ PPic K a.cp H x s n ∧ n ≤ 1000 ∧ ∀ v H', Same H H' → RDc (RowAt K) H' v s.rw n → Q v H'
def sp_votes (K : PySem.W.Frag) (a : Adr) : Sp := fun vs H Q _ => ∃ x s n, vs = [x] ∧ PPic K a.cp H x s n ∧ n ≤ 1000 ∧ ∀ v H', Same H H' → RDc (fun H v f => RDc RI H v f n) H' v s.vt 7 → Q v H'
def sp_cir (K : PySem.W.Frag) (a : Adr) : Sp := fun vs H Q _ => ∃ x s n, vs = [x] ∧ PPic K a.cp H x s n ∧ ∀ v, CirAt K H v s.C → Q v H
abbrev s_Picture_circle : Stmt := (L2.inClass (top 59) 3)
abbrev N_Picture_circle : List Str := ["self"]
theorem sc_Picture_circle : FnScope N_Picture_circle ["self"] (C8.fnScope s_Picture_circle) := C8.fnScope_by (by decide +kernel)
theorem ok_Picture_circle {g : Addr} (D : DefM K "circle" "Picture.circle" s_Picture_circle g ["self"]) (T : Txt K mg a)  (C : Cls K a) : FnR P w K mg base C8.CX0 1 g (sp_cir K a) :=
  metX D sc_Picture_circle (fun vs H Q E h => by obtain ⟨x, s, n, rfl, h, q⟩ := h; rfl) fun f cdv A outer s H vs Q E hr h => by
    have hu := hu_of hr
    obtain ⟨x, s, n, rfl, h, q⟩ := h
    refine ⟨_, (pss_one (ps_ret (kx_slot (K := K) (pv 0)))), ?_⟩
    obtain ⟨vc, vf, vp, vr, vv, ps, pp⟩ := PSl.of h
    walk_at "go"
    exact q _ pp.cir
abbrev s_Picture_promised : Stmt := (L2.inClass (top 59) 4)
abbrev N_Picture_promised : List Str := ["self"]
theorem sc_Picture_promised : FnScope N_Picture_promised ["self"] (C8.fnScope s_Picture_promised) := C8.fnScope_by (by decide +kernel)
theorem ok_Picture_promised {g : Addr} (D : DefM K "promised" "Picture.promised" s_Picture_promised g ["self"]) (T : Txt K mg a)  (C : Cls K a) : FnR P w K mg base C8.CX0 1 g (sp_promised K a) :=
  metX D sc_Picture_promised (fun vs H Q E h => by obtain ⟨x, s, n, rfl, h, hn, q⟩ := h; rfl) fun f cdv A outer s H vs Q E hr h => by
    have hu := hu_of hr
    obtain ⟨x, s, n, rfl, h, hn, q⟩ := h
    refine ⟨_, (pss_one (ps_ret (pe_dst1 (kx_slot (K := K) (pv 0))))), ?_⟩
    obtain ⟨vc, vf, vp, vr, vv, ps, pp⟩ := PSl.of h
    walk_at "go"
    with_reducible refine kw_ds1 fun p hp => ?_
    have es : Same H (upd H p (.dK [])) := sm_new hp
    walk_at "go"
    exact q_ds1 (fun _ z => z) pp.pr (by omega) hp fun H' e _ rd => q _ _ e rd
abbrev s_Picture_firsts : Stmt := (L2.inClass (top 59) 6)
abbrev N_Picture_firsts : List Str := ["self"]
theorem sc_Picture_firsts : FnScope N_Picture_firsts ["self"] (C8.fnScope s_Picture_firsts) := C8.fnScope_by (by decide +kernel)
theorem ok_Picture_firsts {g : Addr} (D : DefM K "firsts" "Picture.firsts" s_Picture_firsts g ["self"]) (T : Txt K mg a)  (C : Cls K a) : FnR P w K mg base C8.CX0 1 g (sp_firsts K a) :=
  metX D sc_Picture_firsts (fun vs H Q E h => by obtain ⟨x, s, n, rfl, h, hn, q⟩ := h; rfl) fun f cdv A outer s H vs Q E hr h => by
    have hu := hu_of hr
    obtain ⟨x, s, n, rfl, h, hn, q⟩ := h
    refine ⟨_, (pss_one (ps_ret (pe_dst1 (kx_slot (K := K) (pv 0))))), ?_⟩
    obtain ⟨vc, vf, vp, vr, vv, ps, pp⟩ := PSl.of h
    walk_at "go"
    with_reducible refine kw_ds1 fun p hp => ?_
    have es : Same H (upd H p (.dK [])) := sm_new hp
    walk_at "go"
    exact q_ds1 (fun _ z => z) pp.fs (by omega) hp fun H' e _ rd => q _ _ e rd
abbrev s_Picture_rows : Stmt := (L2.inClass (top 59) 5)
abbrev N_Picture_rows : List Str := ["self"]
theorem sc_Picture_rows : FnScope N_Picture_rows ["self"] (C8.fnScope s_Picture_rows) := C8.fnScope_by (by decide +kernel)
theorem ok_Picture_rows {g : Addr} (D : DefM K "rows" "Picture.rows" s_Picture_rows g ["self"]) (T : Txt K mg a)  (C : Cls K a) : FnR P w K mg base C8.CX0 1 g (sp_rows K a) :=
  metX D sc_Picture_rows (fun vs H Q E h => by obtain ⟨x, s, n, rfl, h, hn, q⟩ := h; rfl) fun f cdv A outer s H vs Q E hr h => by
    have hu := hu_of hr
    obtain ⟨x, s, n, rfl, h, hn, q⟩ := h
    refine ⟨_, (pss_one (ps_ret (pe_dst1 (kx_slot (K := K) (pv 0))))), ?_⟩
    obtain ⟨vc, vf, vp, vr, vv, ps, pp⟩ := PSl.of h
    walk_at "go"
    with_reducible refine kw_ds1 fun p hp => ?_
    have es : Same H (upd H p (.dK [])) := sm_new hp
    walk_at "go"
    exact q_ds1 (fun e z => z.mono e) pp.rw (by omega) hp fun H' e _ rd => q _ _ e rd
abbrev s_Picture_votes : Stmt := (L2.inClass (top 59) 7)
abbrev N_Picture_votes : List Str := ["self", "house", "found"]
theorem sc_Picture_votes : FnScope N_Picture_votes ["self"] (C8.fnScope s_Picture_votes) := C8.fnScope_by (by decide +kernel)
theorem ok_Picture_votes {g : Addr} (D : DefM K "votes" "Picture.votes" s_Picture_votes g ["self"]) (T : Txt K mg a)  (C : Cls K a) : FnR P w K mg base C8.CX0 1 g (sp_votes K a) :=
  metX D sc_Picture_votes (fun vs H Q E h => by obtain ⟨x, s, n, rfl, h, hn, q⟩ := h; rfl) fun f cdv A outer s H vs Q E hr h => by
    have hu := hu_of hr
    obtain ⟨x, s, n, rfl, h, hn, q⟩ := h
    refine ⟨_, (pss_one (ps_ret (pe_dc (own := [("house", 1), ("found", 2)]) rfl sc_Picture_votes.nd (pi_items (kx_slot (K := K) (pv 0))) (blkOk_by (N := N_Picture_votes) (sc := (C8.fnScope s_Picture_votes)) (by decide +kernel)) (fun _ _ _ _ _ => (kx_gtup (K := K) (n := 2) (by rfl) (pgs_cons (pg_name (i := 1) sc_Picture_votes.nd rfl (.inl rfl)) (pgs_cons (pg_name (i := 2) sc_Picture_votes.nd rfl (.inl rfl)) pgs_nil)))) (fun _ _ _ _ _ => pts_nil) (fun _ _ _ _ _ => (pv 1)) (fun _ _ _ _ _ => (pe_dst1 (pv 2)))))), ?_⟩
    obtain ⟨vc, vf, vp, vr, vv, ps, pp⟩ := PSl.of h
    obtain ⟨av, o, kvs, er, hd, ct⟩ := id pp.vt
    subst er
    obtain ⟨ks, hk, hkn, hki, hkl⟩ := ct.keys
    have hlen : ks.length = kvs.length := by
      have := congrArg List.length hk
      simp only [List.length_map] at this
      exact this.symm
    walk_at "go"
    refine k_wI hd ?_
    refine dc_obj walk_items ks (fun H v x => ∃ f, s.vt x = some f ∧ RDc RI H v f n) (fun e h => ?_) hlen (by omega) hkn (fun _ e => e _ _ hd) (fun i y z B Ha Hb D hx eb bd hD eB yy Ky Kn ky => ?_) fun D H2 k2 hD e2 hD2 hk2 hp2 => ?_
    · obtain ⟨f, h1, h2⟩ := h
      exact ⟨f, h1, h2.monoI e⟩
    · obtain ⟨T1, t, f, u, rfl, hT, rfl, hki2, hft, hu2⟩ := y_itemC ct yy
      have ety : t = y := by
        have h1 : (kvs.map (·.1))[i]? = some (Sum.inl t) := by rw [List.getElem?_map, hki2]; rfl
        rw [hk, List.getElem?_map, hx] at h1
        cases h1; rfl
      subst ety
      have eT : Same Ha (upd Ha T1 (.tup [.int t, u])) := sm_new hT
      have hT2 : upd Ha T1 (.tup [.int t, u]) T1 = some (.tup [.int t, u]) := upd_same
      walk_at "go"
      with_reducible refine kw_ds1 fun p hp => ?_
      walk_at "go"
      refine q_ds1 (fun _ z => z) (hu2.monoI (eb.trans (eB.trans eT))) hn hp fun H3 e3 hp3 rd => ?_
      obtain ⟨k3, hp3⟩ := hp3
      obtain ⟨u1, hu1⟩ := hD
      obtain ⟨g1, g2, g3⟩ := grow (eB.trans eT) bd ⟨_, eT _ _ hu1⟩ hp e3 hp3
      refine ky _ _ _ g1 g3 g2 (eT.trans e3) ⟨f, hft, ?_⟩
      obtain ⟨_, k4, z4, h4, c4⟩ := rd
      cases z4
      rcases h4 with h4 | ⟨o4, h4⟩
      · rw [hp3] at h4
        cases h4
        exact ⟨p, k3, rfl, .inl upd_same, c4⟩
      · rw [hp3] at h4; cases h4
    · refine q _ H2 e2 ⟨D, k2, rfl, .inl hD2, cont_of_paired hk2 hp2 hkn (fun i h => (hki i).mpr h) (by have := ct.len; omega)⟩
abbrev s_Picture_is_let : Stmt := (L2.inClass (top 59) 8)
abbrev N_Picture_is_let : List Str := ["self", "value"]
theorem sc_Picture_is_let : FnScope N_Picture_is_let ["self", "value"] (C8.fnScope s_Picture_is_let) := C8.fnScope_by (by decide +kernel)
theorem ok_Picture_is_let {g : Addr} (D : DefM K "is_let" "Picture.is_let" s_Picture_is_let g ["self", "value"]) (T : Txt K mg a) (c_is_let_in : C8.Cal P w K mg base 7 "is_let_in" (sp_let K a) [])  : FnR P w K mg base C8.CX0 8 g (sp_let K a) :=
  metX D sc_Picture_is_let (fun vs H Q E h => by obtain ⟨v, s, n, x, act, b, rfl, hp, S, ha, hs, hq, q⟩ := h; rfl) fun f cdv A outer s H vs Q E hr h => by
    have hu := hu_of hr
    obtain ⟨v, s, n, x, act, b, rfl, hp, S, ha, hs, hq, q⟩ := h
    refine ⟨_, (pss_one (ps_ret (C8.pe_c c_is_let_in hr (by decide) (by rfl) (pa_cons (pv 0) (pa_cons (pv 1) pa_nil))))), ?_⟩
    walk_at "go"
    exact ⟨v, s, n, x, act, b, rfl, hp, S, ha, hs, hq, q⟩
def sp_mdone (K : PySem.W.Frag) (a : Adr) : Sp := fun vs H Q _ => ∃ v x s n act, vs = [v, x] ∧ PPic K a.cp H v s n ∧ Pm.Sound s ∧ n + 1 < 64 ∧ (∀ t r, s.rw t = some r → r.length ≤ 1000) ∧ ActAt K H x act ∧ ASmall act ∧ Pm.Let s act ∧
  ∀ v' s' H', Pm.Step s act s' → Same H H' → PPic K a.cp H' v' s' (n + 1) → Q v' H'
theorem letQ_of {s : Pm.St} (S : Pm.Sound s) {act : Pm.Act} (h : Pm.Let s act) : LetQ s act true := by
  cases act with
  | vote h0 t m =>
    have h2 := h
    obtain ⟨p, r, f, hp, _⟩ := h2
    exact ⟨.inl ⟨rfl, h⟩, (S.prk h0).mp (by rw [hp]; rfl)⟩
  | promise h0 t => exact ⟨rfl, h⟩
  | lead t lot => exact ⟨rfl, h⟩
  | append t e => exact ⟨rfl, h⟩
abbrev s_Picture_done : Stmt := (L2.inClass (top 59) 9)
abbrev N_Picture_done : List Str := ["self", "action"]
theorem sc_Picture_done : FnScope N_Picture_done ["self", "action"] (C8.fnScope s_Picture_done) := C8.fnScope_by (by decide +kernel)
theorem ok_Picture_done {g : Addr} (D : DefM K "done" "Picture.done" s_Picture_done g ["self", "action"]) (T : Txt K mg a) (c_done_in : C8.Cal P w K mg base 4 "done_in" (sp_done K a) []) (c_is_let_in : C8.Cal P w K mg base 7 "is_let_in" (sp_let K a) [])  : FnR P w K mg base C8.CX0 8 g (sp_mdone K a) :=
  metX D sc_Picture_done (fun vs H Q E h => by obtain ⟨v, x, s, n, act, rfl, hp, S, hn, hlen, ha, hs, hl, q⟩ := h; rfl) fun f cdv A outer s H vs Q E hr h => by
    have hu := hu_of hr
    obtain ⟨v, x, s, n, act, rfl, hp, S, hn, hlen, ha, hs, hl, q⟩ := h
    refine ⟨_, (pss_cons (ps_if (pt_not (pt_val (C8.pe_c c_is_let_in hr (by decide) (by rfl) (pa_cons (pv 0) (pa_cons (pv 1) pa_nil)))))
          (pss_one ps_never)
          pss_nil)
      (pss_one (ps_ret (C8.pe_c c_done_in hr (by decide) (by rfl) (pa_cons (pv 0) (pa_cons (pv 1) pa_nil)))))), ?_⟩
    walk_at "go"
    refine ⟨v, s, n, x, act, true, rfl, hp, S, ha, hs, letQ_of S hl, fun H1 e1 => ?_⟩
    walk_at "go"
    exact ⟨v, x, s, n, act, rfl, hp.mono e1, S, hn, hlen, ha.mono e1, hl, fun v' s' H' st e hv => q v' s' H' st (e1.trans e) hv⟩
abbrev s_Picture_fault : Stmt := (L2.inClass (top 59) 12)
abbrev N_Picture_fault : List Str := ["self"]
theorem sc_Picture_fault : FnScope N_Picture_fault ["self"] (C8.fnScope s_Picture_fault) := C8.fnScope_by (by decide +kernel)
theorem ok_Picture_fault {g : Addr} (D : DefM K "fault" "Picture.fault" s_Picture_fault g ["self"]) (T : Txt K mg a) (c_fault_of : C8.Cal P w K mg base 4 "fault_of" (sp_fault K a) [])  : FnR P w K mg base C8.CX0 5 g (sp_fault K a) :=
  metX D sc_Picture_fault (fun vs H Q E h => by obtain ⟨v, s, n, rfl, h, S, hn50, q⟩ := h; rfl) fun f cdv A outer s H vs Q E hr h => by
    have hu := hu_of hr
    obtain ⟨v, s, n, rfl, h, S, hn50, q⟩ := h
    refine ⟨_, (pss_one (ps_ret (C8.pe_c c_fault_of hr (by decide) (by rfl) (pa_cons (pv 0) pa_nil)))), ?_⟩
    walk_at "go"
    exact ⟨v, s, n, rfl, h, S, hn50, q⟩
abbrev s_Picture_row : Stmt := (L2.inClass (top 59) 13)
abbrev N_Picture_row : List Str := ["self"]
theorem sc_Picture_row : FnScope N_Picture_row ["self"] (C8.fnScope s_Picture_row) := C8.fnScope_by (by decide +kernel)
theorem ok_Picture_row {g : Addr} (D : DefM K "row" "Picture.row" s_Picture_row g ["self"]) (T : Txt K mg a) (c_chosen_row_in : C8.Cal P w K mg base 3 "chosen_row_in" (sp_chrow K a) []) (c_fault_of : C8.Cal P w K mg base 4 "fault_of" (sp_fault K a) [])  : FnR P w K mg base C8.CX0 5 g (sp_chrow K a) :=
  metX D sc_Picture_row (fun vs H Q E h => by obtain ⟨v, s, n, rfl, h, S, hn50, q⟩ := h; rfl) fun f cdv A outer s H vs Q E hr h => by
    have hu := hu_of hr
    obtain ⟨v, s, n, rfl, h, S, hn50, q⟩ := h
    refine ⟨_, (pss_cons (ps_if (pt_cmpR ox_notN (C8.pe_c c_fault_of hr (by decide) (by rfl) (pa_cons (pv 0) pa_nil)) pe_non (nomark _))
          (pss_one ps_never)
          pss_nil)
      (pss_one (ps_ret (C8.pe_c c_chosen_row_in hr (by decide) (by rfl) (pa_cons (pv 0) pa_nil))))), ?_⟩
    walk_at "go"
    refine ⟨v, s, n, rfl, h, S, hn50, fun H1 e1 => ?_⟩
    walk_at "go"
    exact ⟨v, s, n, rfl, h.mono e1, S, hn50, fun fv row H' c r e => q fv row H' c r (e1.trans e)⟩
theorem eqr_dict {α : Type} {R R' : Hp → V → α → Prop} {H : Hp} {v w : V} {f : Pm.Dc α} {n m k : Nat} (hR : ∀ x y z, R H x z → R' H y z → EqV3 K H k x y) (h : RDc R H v f n) (g : RDc R' H w f m) : EqV3 K H (k + 1) v w := by
  obtain ⟨a, ks, rfl, ha, c⟩ := h
  obtain ⟨b, ls, rfl, hb, d⟩ := g
  refine .inr (.inr (.inr (.inr ⟨a, b, ks, ls, rfl, rfl, ha, hb, cont_len c d, fun p hp => ?_⟩)))
  obtain ⟨i, hi, e⟩ := List.getElem_of_mem hp
  obtain ⟨t, x, e1, e2, r⟩ := c.item (i := i) (k := p.1) (v := p.2) (by rw [List.getElem?_eq_getElem hi, e])
  have r2 := d.val t
  rw [e2] at r2
  obtain ⟨u, hu, r2⟩ := r2.some_of
  exact ⟨u, by rw [e1]; exact hu, hR _ _ _ r r2⟩
theorem eqr_I {H : Hp} {v w : V} {n m k : Nat} {f : Pm.Dc Int} (h : RDc RI H v f n) (g : RDc RI H w f m) : EqV3 K H (k + 2) v w := eqr_dict (k := k + 1) (fun x y z hx hy => by cases hx; cases hy; exact eq_flat rfl) h g
theorem eqr_R {H : Hp} {v w : V} {n m k : Nat} {f : Pm.Dc (List Pm.En)} (h : RDc (RowAt K) H v f n) (g : RDc (RowAt K) H w f m) : EqV3 K H (k + 6) v w := eqr_dict (k := k + 5) (fun _ _ _ h g => eq_row h g) h g
theorem eqr_V {H : Hp} {v w : V} {i j n m k : Nat} {f : Pm.Dc (Pm.Dc Int)} (h : RDc (fun H v f => RDc RI H v f i) H v f n) (g : RDc (fun H v f => RDc RI H v f j) H w f m) : EqV3 K H (k + 3) v w := eqr_dict (k := k + 2) (fun _ _ _ h g => eqr_I h g) h g
def sp_eq (K : PySem.W.Frag) (a : Adr) : Sp := fun vs H Q _ => ∃ x y s n m, vs = [x, y] ∧ PPic K a.cp H x s n ∧ PPic K a.cp H y s m ∧ ∀ H', Same H H' → Q (.bl true) H'
theorem k_eq3 {H : Hp} {Q : VK} {p q : Addr} {xs ys : List V} (h1 : SqT K H p xs) (h2 : SqT K H q ys) (hp : Paired (EqV3 K H 12) xs ys) (k : Q (.bl true) H) : rEq3 K (.ref p) (.ref q) H Q := ⟨.inr (.inl ⟨p, q, xs, ys, rfl, rfl, h1, h2, hp⟩), k⟩
abbrev s_Picture__eq : Stmt := (L2.inClass (top 59) 14)
abbrev N_Picture__eq : List Str := ["self", "other"]
theorem sc_Picture__eq : FnScope N_Picture__eq ["self", "other"] (C8.fnScope s_Picture__eq) := C8.fnScope_by (by decide +kernel)
theorem ok_Picture__eq {g : Addr} (D : DefM K "__eq__" "Picture.__eq__" s_Picture__eq g ["self", "other"]) (T : Txt K mg a) (c_parts_of : C8.Cal P w K mg base 1 "parts_of" (sp_parts K a) []) (C : Cls K a) (T3 : Txt3 K mg a) : FnR P w K mg base C8.CX0 2 g (sp_eq K a) :=
  metX D sc_Picture__eq (fun vs H Q E h => by obtain ⟨x, y, s, n, m, rfl, hx, hy, q⟩ := h; rfl) fun f cdv A outer s H vs Q E hr h => by
    have hu := hu_of hr
    obtain ⟨x, y, s, n, m, rfl, hx, hy, q⟩ := h
    refine ⟨_, (pss_one (ps_ret (pe_and (pe_callB (kx_isiSl (K := K) (.ref a.cp)) (by rfl) T.z_isinstance (by decide +kernel) (pa_cons (pv 1) (pa_cons (C8.pe_gc (by rfl) T3.c_Picture) pa_nil))) (pe_one (pe_cmpR (kx_eq3 (K := K) hr.units) (C8.pe_c c_parts_of hr (by decide) (by rfl) (pa_cons (pv 0) pa_nil)) (C8.pe_c c_parts_of hr (by decide) (by rfl) (pa_cons (pv 1) pa_nil)) (nomark _)))))), ?_⟩
    obtain ⟨vc, vf, vp, vr, vv, ps, pp⟩ := PSl.of hx
    obtain ⟨wc, wf, wp, wr, wv, ps2, pp2⟩ := PSl.of hy
    obtain ⟨ya, yd, _, _, _, _, _, rfl, hsy, _⟩ := id hy
    walk_at "go"
    refine q_isiSl hsy C.sP T3.iP T3.kP ?_
    walk_at "go"
    refine ⟨_, _, _, _, _, _, rfl, ps, fun p1 H1 hn1 e1 hp1 => ?_⟩
    walk_at "go"
    refine ⟨_, _, _, _, _, _, rfl, ps2.mono e1, fun p2 H2 hn2 e2 hp2 => ?_⟩
    have e12 := e1.trans e2
    have pa := pp.mono e12
    have pb := pp2.mono e12
    refine k_eq3 (.inl (.inl (e2 _ _ hp1))) (.inl (.inl hp2)) (.cons (eq_cir (n := 10) pa.cir pb.cir) (.cons (eqr_I (k := 10) pa.rawP.pr pb.rawP.pr) (.cons (eqr_R (k := 6) pa.rawP.rw pb.rawP.rw) (.cons (eqr_I (k := 10) pa.rawP.fs pb.rawP.fs) (.cons (eqr_V (k := 9) pa.rawP.vt pb.rawP.vt) .nil))))) ?_
    exact q _ e12
end

/-! W20 -/
section
variable {P : Program} {w : World} {K : PySem.W.Frag} {mg : Str → Option Value} {base : Heap} {a : Adr}

/-! ### the law's own picture -/
def LSl (K : PySem.W.Frag) (H : Hp) (v vc vp vr vf vv : V) : Prop := ∃ p, v = .ref p ∧ SqT K H p [vc, vp, vr, vf, vv]
theorem LPic.open {H : Hp} {v : V} {s : Pm.St} {n : Nat} (h : LPic K H v s n) : ∃ p vc vp vr vf vv, v = .ref p ∧ SqT K H p [vc, vp, vr, vf, vv] ∧ Parts K H vc vp vr vf vv s n := h
def WRg (vs : List V) (H : Hp) (R : It → Hp → Prop) : Prop := ∃ (i j c : Int) (n : Nat), vs = [.int i, .int j, .int c] ∧ RgC i j c n ∧ R (Itc i c n) H
theorem kw_rng3 {σ : L2.St} {H : Hp} {ta : TA} {R : It → Hp → Prop} (h : ta σ H fun vs H1 => WRg vs H1 R) : iRng3 ta σ H R := h
theorem q_rg {H : Hp} {R : It → Hp → Prop} {n : Nat} (hn : n ≤ 1000) (q : R (Itc (n : Int) (-1) n) H) : WRg [.int n, .int 0, .int (-1)] H R :=
  ⟨n, 0, -1, n, rfl, by have := RgC.neg (i := (n : Int)) (j := 0) (by omega) (by omega) (by omega) (by omega); rw [show ((n : Int) - 0).toNat = n by omega] at this; exact this, q⟩
def sp_more (K : PySem.W.Frag) : Sp := fun vs H Q _ => ∃ c xs m, vs = [.ref c, .int m] ∧ SqT K H c xs ∧ Q (.bl (decide (2 * m > (xs.length : Int)))) H
abbrev s_law_pi_more : Stmt := (top 85)
abbrev N_law_pi_more : List Str := ["_law_circle", "_law_many"]
theorem sc_law_pi_more : FnScope N_law_pi_more ["_law_circle", "_law_many"] (C8.fnScope s_law_pi_more) := C8.fnScope_by (by decide +kernel)
theorem ok_law_pi_more (D : DefX K mg "_law_pi_more" "_law_pi_more" s_law_pi_more ["_law_circle", "_law_many"]) (T : Txt K mg a)   : C8.Cal P w K mg base 1 "_law_pi_more" (sp_more K) [] :=
  calX D sc_law_pi_more (fun vs H Q E h => by obtain ⟨c, xs, m, rfl, hc, q⟩ := h; rfl) fun f cdv A outer s H vs Q E hr h => by
    have hu := hu_of hr
    obtain ⟨c, xs, m, rfl, hc, q⟩ := h
    refine ⟨_, (pss_one (ps_ret (pe_cmpR op_gt (pe_op op_mul pe_int (pv 1)) (pe_callB (kx_len (K := K)) (by rfl) T.z_len PySem.boot_len (pa_cons (pv 0) pa_nil)) (nomark _)))), ?_⟩
    walk_at "go"
    exact q
theorem more_dec {C L : List Int} {m : Int} (h : m = (L.length : Int)) : decide (2 * m > (C.length : Int)) = true ↔ Pm.more C L := by
  rw [decide_eq_true_iff]; unfold Pm.more; omega
def sp_pchosen (K : PySem.W.Frag) : Sp := fun vs H Q _ => ∃ v s n t r, vs = [v, .int t] ∧ LPic K H v s n ∧ Pm.Sound s ∧ s.rw t = some r ∧ r.length ≤ 1000 ∧ ∀ c H', Pm.Grt (s.Chs t) r.length c → Same H H' → Q (.int c) H'
abbrev s_law_pi_chosen : Stmt := (top 87)
abbrev N_law_pi_chosen : List Str := ["_law_picture", "_law_term", "_law_circle", "_law_votes", "_law_many", "_law_house"]
theorem sc_law_pi_chosen : FnScope N_law_pi_chosen ["_law_picture", "_law_term"] (C8.fnScope s_law_pi_chosen) := C8.fnScope_by (by decide +kernel)
theorem ok_law_pi_chosen (D : DefX K mg "_law_pi_chosen" "_law_pi_chosen" s_law_pi_chosen ["_law_picture", "_law_term"]) (T : Txt K mg a) (c_law_pi_more : C8.Cal P w K mg base 1 "_law_pi_more" (sp_more K) [])  : C8.Cal P w K mg base 2 "_law_pi_chosen" (sp_pchosen K) [] :=
  calX D sc_law_pi_chosen (fun vs H Q E h => by obtain ⟨v, s, n, t, r, rfl, h, S, hr2, hlen, q⟩ := h; rfl) fun f cdv A outer s H vs Q E hr h => by
    have hu := hu_of hr
    obtain ⟨v, s, n, t, r, rfl, h, S, hr2, hlen, q⟩ := h
    refine ⟨_, (pss_cons (ps_asg (pe_tup (pa_cons (pe_ix (kx_ix (K := K)) (pv 0) pe_int (fun _ _ => rfl)) (pa_cons (pe_ix (kx_ix (K := K)) (pv 0) pe_int (fun _ _ => rfl)) pa_nil))) (kx_gtup (K := K) (n := 2) (by rfl) (pgs_cons (pg_name (i := 2) sc_law_pi_chosen.nd rfl (.inl rfl)) (pgs_cons (pg_name (i := 3) sc_law_pi_chosen.nd rfl (.inr rfl)) pgs_nil))))
      (pss_cons (ps_for PassesOwn.never rfl (pi_range3 (by rfl) T.z_range (pa_cons (pe_callB (kx_len (K := K)) (by rfl) T.z_len PySem.boot_len (pa_cons (pe_dget hu (pe_ix (kx_ix (K := K)) (pv 0) pe_int (fun _ _ => rfl)) (pv 1) (fun _ _ => rfl)) pa_nil)) (pa_cons pe_int (pa_cons (pe_un un_neg pe_int) pa_nil)))) (pg_name (i := 4) sc_law_pi_chosen.nd rfl (.inr rfl))
          (pss_one (ps_if (pt_val (C8.pe_c c_law_pi_more hr (by decide) (by rfl) (pa_cons (pv 2) (pa_cons (pe_callB (kx_len (K := K)) (by rfl) T.z_len PySem.boot_len (pa_cons (pe_lc (own := [("_law_house", 5)]) rfl sc_law_pi_chosen.nd (kx_tup (K := K) (pv 2)) (blkOk_by (N := N_law_pi_chosen) (sc := (C8.fnScope s_law_pi_chosen)) (by decide +kernel)) (fun _ _ _ _ _ => (pg_name (i := 5) sc_law_pi_chosen.nd rfl (.inl rfl))) (fun _ _ _ _ _ => (pts_one (pt_cmpR op_ge (pe_dget2 hu (pe_dget hu (pv 3) (pv 5) (fun _ _ => rfl)) (pv 1) pe_int ⟨rfl, rfl, rfl, rfl⟩) (pv 4) (nomark _)))) (fun _ _ _ _ _ => (pv 5))) pa_nil)) pa_nil))))
            (pss_one (ps_ret (pv 4)))
            pss_nil)))
      (pss_one (ps_ret pe_int)))), ?_⟩
    obtain ⟨p, vc, vp, vr, vf, vv, rfl, hp, pp⟩ := h.open
    obtain ⟨ac, rfl, hc⟩ := id pp.cir
    have h7 := S.circ.le
    walk_at "go"
    refine NewR.mk fun p2 H1 hn1 e1 hp2 => ?_
    walk_at "go"
    with_reducible refine kw_rng3 ?_
    walk_at "go"
    refine q_dg (pp.rw.monoR e1) hr2 fun u hu2 => ?_
    obtain ⟨ad, xs, rfl, hx, hxl, _⟩ := row_len hu2
    walk_at "go"
    rw [hxl]
    refine q_rg hlen ?_
    refine for_go walk_rangeC (fun i σ' H' => (∃ x y, σ' = [some (.ref p), some (.int t), some (.ref ac), some vv, x, y]) ∧ Same H H' ∧ ∀ m : Int, (r.length : Int) - i < m → m ≤ r.length → ¬ s.Chs t m) ⟨⟨_, _, rfl⟩, e1, fun m h1 h2 => by omega⟩ (fun _ _ _ _ _ => True.intro) (fun i x σ' Ha Hb hi hp y => ?_) fun σ' H' hp => ?_
    · obtain ⟨⟨x1, x2, rfl⟩, e, hno⟩ := hp
      obtain ⟨rfl, rfl⟩ := y
      walk_at "go"
      refine lc_val walk_tup s.C (fun h => decide ((r.length : Int) + i * -1 ≤ s.vn h t)) (fun h => .int h) (by rw [List.length_map]) (by rw [List.length_map]; omega) (fun _ e2 => sm_T (e.trans e2) hc) (fun j x y Hc Hd hx e2 yy Ky Kn ky kn => ?_) fun D H2 hD e2 hl => ?_
      · obtain ⟨rfl, hy⟩ := yy
        rw [List.getElem?_map, hx] at hy
        obtain rfl : V.int x = y := Option.some.inj hy
        obtain ⟨f, hf⟩ := vote_dict S (List.mem_of_getElem? hx)
        walk_at "go"
        refine q_dg (pp.vt.monoD (e.trans e2)) hf fun u hu2 => ?_
        refine q_g2 hu2 (by rfl) fun o ho => ?_
        rw [vn_of hf ho]
        walk_at "go"
        refine k_iteD (fun hle => ?_) fun hle => ?_
        · walk_at "go"
          exact ky _ (Same.refl _) (decide_eq_true hle)
        · exact kn _ (Same.refl _) (decide_eq_false hle)
      · walk_at "go"
        refine ⟨ac, s.C.map V.int, _, rfl, sm_T (e.trans e2) hc, ?_⟩
        have hm : decide (2 * (((s.C.filter fun h => decide ((r.length : Int) + i * -1 ≤ s.vn h t)).map fun h => V.int h).length : Int) > ((s.C.map V.int).length : Int)) = true ↔ s.Chs t ((r.length : Int) + i * -1) := by
          rw [List.length_map, List.length_map]
          exact more_dec rfl
        walk_at "go"
        refine k_ite (fun hy => ?_) fun hy => ?_
        · walk_at "go"
          exact q _ _ ⟨by omega, by omega, hm.mp hy, fun m m0 ml hc => by
            by_cases z : m ≤ (r.length : Int) + i * -1
            · exact z
            · exact absurd hc (hno m (by omega) ml)⟩ (e.trans e2)
        · walk_at "go"
          refine ⟨⟨_, _, rfl⟩, e.trans e2, fun m h1 h2 => ?_⟩
          by_cases z : m = (r.length : Int) + i * -1
          · rw [z]
            intro hc
            rw [hm.mpr hc] at hy; cases hy
          · exact hno m (by omega) h2
    · obtain ⟨⟨x1, x2, rfl⟩, e, hno⟩ := hp
      walk_at "go"
      exact q 0 H' ⟨Int.le_refl _, by omega, Pm.chs_zero S t, fun m m0 ml hc => by
        by_cases z : m = 0
        · omega
        · exact absurd hc (hno m (by omega) ml)⟩ e
def sp_popen (K : PySem.W.Frag) : Sp := fun vs H Q _ => ∃ v s n t r, vs = [v, .int t] ∧ LPic K H v s n ∧ Pm.Sound s ∧ s.rw t = some r ∧ r.length ≤ 1000 ∧ ∀ c H', Pm.Grt (s.Opn t) r.length c → Same H H' → Q (.int c) H'
abbrev s_law_pi_open : Stmt := (top 88)
abbrev N_law_pi_open : List Str := ["_law_picture", "_law_term", "_law_circle", "_law_promised", "_law_votes", "_law_many", "_law_lot", "_law_house"]
theorem sc_law_pi_open : FnScope N_law_pi_open ["_law_picture", "_law_term"] (C8.fnScope s_law_pi_open) := C8.fnScope_by (by decide +kernel)
theorem ok_law_pi_open (D : DefX K mg "_law_pi_open" "_law_pi_open" s_law_pi_open ["_law_picture", "_law_term"]) (T : Txt K mg a) (c_law_pi_more : C8.Cal P w K mg base 1 "_law_pi_more" (sp_more K) [])  : C8.Cal P w K mg base 2 "_law_pi_open" (sp_popen K) [] :=
  calX D sc_law_pi_open (fun vs H Q E h => by obtain ⟨v, s, n, t, r, rfl, h, S, hr2, hlen, q⟩ := h; rfl) fun f cdv A outer s H vs Q E hr h => by
    have hu := hu_of hr
    obtain ⟨v, s, n, t, r, rfl, h, S, hr2, hlen, q⟩ := h
    refine ⟨_, (pss_cons (ps_asg (pe_tup (pa_cons (pe_ix (kx_ix (K := K)) (pv 0) pe_int (fun _ _ => rfl)) (pa_cons (pe_ix (kx_ix (K := K)) (pv 0) pe_int (fun _ _ => rfl)) (pa_cons (pe_ix (kx_ix (K := K)) (pv 0) pe_int (fun _ _ => rfl)) pa_nil)))) (kx_gtup (K := K) (n := 3) (by rfl) (pgs_cons (pg_name (i := 2) sc_law_pi_open.nd rfl (.inl rfl)) (pgs_cons (pg_name (i := 3) sc_law_pi_open.nd rfl (.inr rfl)) (pgs_cons (pg_name (i := 4) sc_law_pi_open.nd rfl (.inr rfl)) pgs_nil)))))
      (pss_cons (ps_for PassesOwn.never rfl (pi_range3 (by rfl) T.z_range (pa_cons (pe_callB (kx_len (K := K)) (by rfl) T.z_len PySem.boot_len (pa_cons (pe_dget hu (pe_ix (kx_ix (K := K)) (pv 0) pe_int (fun _ _ => rfl)) (pv 1) (fun _ _ => rfl)) pa_nil)) (pa_cons pe_int (pa_cons (pe_un un_neg pe_int) pa_nil)))) (pg_name (i := 5) sc_law_pi_open.nd rfl (.inr rfl))
          (pss_cons (ps_setLc (i := 6) (own := [("_law_house", 7)]) rfl sc_law_pi_open.nd rfl rfl (sw_true rfl rfl rfl (by decide +kernel)) (kx_tup (K := K) (pv 2)) (blkOk_by (N := N_law_pi_open) (sc := (C8.fnScope s_law_pi_open)) (by decide +kernel)) (fun _ _ _ _ _ => (pg_name (i := 7) sc_law_pi_open.nd rfl (.inl rfl))) (fun _ _ _ _ _ => (pts_one (PW.pt (pw_or (pt_cmpR op_ge (pe_dget2 hu (pe_dget hu (pv 4) (pv 7) (fun _ _ => rfl)) (pv 1) pe_int ⟨rfl, rfl, rfl, rfl⟩) (pv 5) (nomark _)) (pw_or1 (pt_cmpR op_le (pe_dget hu (pv 3) (pv 7) (fun _ _ => rfl)) (pv 1) (nomark _))))))) (fun _ _ _ _ _ => (pv 7)))
          (pss_one (ps_if (pt_val (C8.pe_c c_law_pi_more hr (by decide) (by rfl) (pa_cons (pv 2) (pa_cons (pe_callB (kx_len (K := K)) (by rfl) T.z_len PySem.boot_len (pa_cons (pv 6) pa_nil)) pa_nil))))
            (pss_one (ps_ret (pv 5)))
            pss_nil))))
      (pss_one (ps_ret pe_int)))), ?_⟩
    obtain ⟨p, vc, vp, vr, vf, vv, rfl, hp, pp⟩ := h.open
    obtain ⟨ac, rfl, hc⟩ := id pp.cir
    have h7 := S.circ.le
    walk_at "go"
    refine NewR.mk fun p2 H1 hn1 e1 hp2 => ?_
    walk_at "go"
    with_reducible refine kw_rng3 ?_
    walk_at "go"
    refine q_dg (pp.rw.monoR e1) hr2 fun u hu2 => ?_
    obtain ⟨ad, xs, rfl, hx, hxl, _⟩ := row_len hu2
    walk_at "go"
    rw [hxl]
    refine q_rg hlen ?_
    refine for_go walk_rangeC (fun i σ' H' => (∃ x y z, σ' = [some (.ref p), some (.int t), some (.ref ac), some vp, some vv, x, y, z]) ∧ Same H H' ∧ ∀ m : Int, (r.length : Int) - i < m → m ≤ r.length → ¬ s.Opn t m) ⟨⟨_, _, _, rfl⟩, e1, fun m h1 h2 => by omega⟩ (fun _ _ _ _ _ => True.intro) (fun i x σ' Ha Hb hi hp y => ?_) fun σ' H' hp => ?_
    · obtain ⟨⟨x1, x2, x3, rfl⟩, e, hno⟩ := hp
      obtain ⟨rfl, rfl⟩ := y
      walk_at "go"
      refine lc_val walk_tup s.C (fun h => decide ((r.length : Int) + i * -1 ≤ s.vn h t ∨ s.pg h ≤ t)) (fun h => .int h) (by rw [List.length_map]) (by rw [List.length_map]; omega) (fun _ e2 => sm_T (e.trans e2) hc) (fun j x y Hc Hd hx e2 yy Ky Kn ky kn => ?_) fun D H2 hD e2 hl => ?_
      · obtain ⟨rfl, hy⟩ := yy
        rw [List.getElem?_map, hx] at hy
        obtain rfl : V.int x = y := Option.some.inj hy
        have hxC := List.mem_of_getElem? hx
        obtain ⟨f, hf⟩ := vote_dict S hxC
        obtain ⟨p0, hp0⟩ := prom_val S hxC
        have hpg := Pm.pg_of hp0
        walk_at "go"
        refine q_dg (pp.vt.monoD (e.trans e2)) hf fun u hu2 => ?_
        refine q_g2 hu2 (by rfl) fun o ho => ?_
        rw [vn_of hf ho]
        walk_at "go"
        refine k_iteD (fun hle => ?_) fun hle => ?_
        · walk_at "go"
          exact ky _ (Same.refl _) (decide_eq_true (.inl hle))
        · walk_at "go"
          refine q_dg (pp.pr.monoI (e.trans e2)) hp0 fun w hw => ?_
          obtain rfl : w = .int p0 := hw
          walk_at "go"
          refine k_iteD (fun hle2 => ?_) fun hle2 => ?_
          · walk_at "go"
            exact ky _ (Same.refl _) (decide_eq_true (.inr (by rw [hpg]; exact hle2)))
          · exact kn _ (Same.refl _) (decide_eq_false (by rw [hpg]; rintro (z | z) <;> omega))
      · walk_at "go"
        refine ⟨ac, s.C.map V.int, _, rfl, sm_T (e.trans e2) hc, ?_⟩
        have hm : decide (2 * (((s.C.filter fun h => decide ((r.length : Int) + i * -1 ≤ s.vn h t ∨ s.pg h ≤ t)).map fun h => V.int h).length : Int) > ((s.C.map V.int).length : Int)) = true ↔ s.Opn t ((r.length : Int) + i * -1) := by
          rw [List.length_map, List.length_map]
          exact more_dec rfl
        walk_at "go"
        refine k_ite (fun hy => ?_) fun hy => ?_
        · walk_at "go"
          exact q _ _ ⟨by omega, by omega, hm.mp hy, fun m m0 ml hc => by
            by_cases z : m ≤ (r.length : Int) + i * -1
            · exact z
            · exact absurd hc (hno m (by omega) ml)⟩ (e.trans e2)
        · walk_at "go"
          refine ⟨⟨_, _, _, rfl⟩, e.trans e2, fun m h1 h2 => ?_⟩
          by_cases z : m = (r.length : Int) + i * -1
          · rw [z]
            intro hc
            rw [hm.mpr hc] at hy; cases hy
          · exact hno m (by omega) h2
    · obtain ⟨⟨x1, x2, x3, rfl⟩, e, hno⟩ := hp
      walk_at "go"
      exact q 0 H' ⟨Int.le_refl _, by omega, Pm.chs_opn (Pm.chs_zero S t), fun m m0 ml hc => by
        by_cases z : m = 0
        · omega
        · exact absurd hc (hno m (by omega) ml)⟩ e
end

/-! W21 -/
section
variable {P : Program} {w : World} {K : PySem.W.Frag} {mg : Str → Option Value} {base : Heap} {a : Adr}

/-- no fault, told so -/
def sp_lfault (K : PySem.W.Frag) : Sp := fun vs H Q _ => ∃ v s n, vs = [v] ∧ LPic K H v s n ∧ Pm.Sound s ∧ n < 64 ∧ (∀ t r, s.rw t = some r → r.length ≤ 1000) ∧ ∀ H', Same H H' → Q .non H'
/-- a dict's keys, sorted -/
theorem q_sortD {α : Type} {R : Hp → V → α → Prop} {H : Hp} {Q : VK} {v : V} {f : Pm.Dc α} {n : Nat} (h : DcAt R H v f n) (hn : n < 64) (q : ∀ (ys : List Int) (p : Addr) (H' : Hp), ys.Pairwise (· ≤ ·) → ys.Nodup → (∀ t, t ∈ ys ↔ (f t).isSome = true) → ys.length ≤ n → H p = none → Same H H' → H' p = some (.lst (ys.map V.int)) → Q (.ref p) H') : rSortDI [v] H Q := by
  obtain ⟨a, o, kvs, rfl, h, c⟩ := h
  obtain ⟨ks, e1, e2, e3, e4⟩ := c.keys
  exact k_sortDI (.inr ⟨o, h⟩) e1 (by omega) fun ys p H' h1 h2 h3 h4 h5 => q ys p H' h2 (h1.nodup_iff.mpr e2) (fun t => (h1.mem_iff).trans (e3 t)) (by rw [h1.length_eq]; exact e4) h3 h4 h5
abbrev s_law_pi_vote_fault : Stmt := (top 89)
abbrev N_law_pi_vote_fault : List Str := ["_law_picture", "_law_circle", "_law_promised", "_law_rows", "_law_firsts", "_law_votes", "_law_house", "_law_term", "_law_above"]
theorem sc_law_pi_vote_fault : FnScope N_law_pi_vote_fault ["_law_picture"] (C8.fnScope s_law_pi_vote_fault) := C8.fnScope_by (by decide +kernel)
theorem ok_law_pi_vote_fault (D : DefX K mg "_law_pi_vote_fault" "_law_pi_vote_fault" s_law_pi_vote_fault ["_law_picture"]) (T : Txt K mg a)   : C8.Cal P w K mg base 1 "_law_pi_vote_fault" (sp_lfault K) [] :=
  calX D sc_law_pi_vote_fault (fun vs H Q E h => by obtain ⟨v, s, n, rfl, h, S, hn, hlen, q⟩ := h; rfl) fun f cdv A outer s H vs Q E hr h => by
    have hu := hu_of hr
    obtain ⟨v, s, n, rfl, h, S, hn, hlen, q⟩ := h
    refine ⟨_, (pss_cons (ps_asg (pv 0) (kx_gtup (K := K) (n := 5) (by rfl) (pgs_cons (pg_name (i := 1) sc_law_pi_vote_fault.nd rfl (.inl rfl)) (pgs_cons (pg_name (i := 2) sc_law_pi_vote_fault.nd rfl (.inr rfl)) (pgs_cons (pg_name (i := 3) sc_law_pi_vote_fault.nd rfl (.inl rfl)) (pgs_cons (pg_name (i := 4) sc_law_pi_vote_fault.nd rfl (.inl rfl)) (pgs_cons (pg_name (i := 5) sc_law_pi_vote_fault.nd rfl (.inl rfl)) pgs_nil)))))))
      (pss_cons (ps_for PassesOwn.never rfl (kx_tup (K := K) (pv 1)) (pg_name (i := 6) sc_law_pi_vote_fault.nd rfl (.inr rfl))
          (pss_one (ps_for PassesOwn.never rfl (kx_list (K := K) (pe_callB (cx_sortDI rfl) (by rfl) T.z_sorted (by decide +kernel) (pa_cons (pe_dget hu (pv 5) (pv 6) (fun _ _ => rfl)) pa_nil))) (pg_name (i := 7) sc_law_pi_vote_fault.nd rfl (.inl rfl))
            (pss_one (ps_if (PW.pt (pw_or (pt_cmp (pc_dnotin hu (pv 7) (pv 3)) rfl) (pw_or1 (pt_not (pt_chain op_le op_le (pe_dget hu (pv 4) (pv 7) (fun _ _ => rfl)) (pe_dget hu (pe_dget hu (pv 5) (pv 6) (fun _ _ => rfl)) (pv 7) (fun _ _ => rfl)) (pe_callB (kx_len (K := K)) (by rfl) T.z_len PySem.boot_len (pa_cons (pe_dget hu (pv 3) (pv 7) (fun _ _ => rfl)) pa_nil)))))))
              (pss_one (ps_ret (pe_tup (pa_cons pe_str (pa_cons (pv 6) (pa_cons (pv 7) pa_nil))))))
              pss_nil)))))
      (pss_cons (ps_for PassesOwn.never rfl (kx_tup (K := K) (pv 1)) (pg_name (i := 6) sc_law_pi_vote_fault.nd rfl (.inr rfl))
          (pss_cons (ps_setLc (i := 8) (own := [("_law_term", 7)]) rfl sc_law_pi_vote_fault.nd rfl rfl (sw_true rfl rfl rfl (by decide +kernel)) (kx_list (K := K) (pe_callB (cx_sortDI rfl) (by rfl) T.z_sorted (by decide +kernel) (pa_cons (pe_dget hu (pv 5) (pv 6) (fun _ _ => rfl)) pa_nil))) (blkOk_by (N := N_law_pi_vote_fault) (sc := (C8.fnScope s_law_pi_vote_fault)) (by decide +kernel)) (fun _ _ _ _ _ => (pg_name (i := 7) sc_law_pi_vote_fault.nd rfl (.inl rfl))) (fun _ _ _ _ _ => (pts_one (pt_cmpR op_gt (pv 7) (pe_dget hu (pv 2) (pv 6) (fun _ _ => rfl)) (nomark _)))) (fun _ _ _ _ _ => (pv 7)))
          (pss_one (ps_if (pt_cmpR (kx_neE (K := K) hr.units) (pv 8) (pe_lst pa_nil) (nomark _))
            (pss_one (ps_ret (pe_tup (pa_cons pe_str (pa_cons (pv 6) (pa_cons (pe_ix (kx_ixL (K := K)) (pv 8) pe_int (fun _ _ => rfl)) pa_nil))))))
            pss_nil))))
      (pss_one (ps_ret pe_non))))), ?_⟩
    obtain ⟨p, vc, vp, vr, vf, vv, rfl, hp, pp⟩ := h.open
    obtain ⟨ac, rfl, hc⟩ := id pp.cir
    have h7 := S.circ.le
    walk_at "go"
    refine for_go walk_tup (fun i σ' H' => (∃ x y z, σ' = [some (.ref p), some (.ref ac), some vp, some vr, some vf, some vv, x, y, z]) ∧ Same H H') ⟨⟨_, _, _, rfl⟩, Same.refl _⟩ (fun i σ' H' _ hp => sm_T hp.2 hc) (fun i x σ' Ha Hb hi hp2 y => ?_) fun σ' H' hp2 => ?_
    · obtain ⟨⟨x1, x2, x3, rfl⟩, e⟩ := hp2
      obtain ⟨rfl, hy⟩ := y
      rw [List.getElem?_map] at hy
      obtain ⟨c, hcx, rfl⟩ := Option.map_eq_some_iff.mp hy
      have hcC := List.mem_of_getElem? hcx
      obtain ⟨f, hf⟩ := vote_dict S hcC
      walk_at "go"
      refine q_dg (pp.vt.monoD e) hf fun u hu2 => ?_
      walk_at "go"
      refine q_sortD hu2 hn fun ys l H1 hs hnd hys hyl hl1 e1 hl => ?_
      walk_at "go"
      refine for_go walk_list (fun i σ' H' => (∃ y z, σ' = [some (.ref p), some (.ref ac), some vp, some vr, some vf, some vv, some (.int c), y, z]) ∧ Same H1 H') ⟨⟨_, _, rfl⟩, Same.refl _⟩ (fun i σ' H' _ hp => .inl (.inl (hp.2 _ _ hl))) (fun i2 x2 σ2 Hc Hd hi2 hp3 y2 => ?_) fun σ' H' hp3 => ?_
      · obtain ⟨⟨x4, x5, rfl⟩, e2⟩ := hp3
        obtain ⟨rfl, hy2⟩ := y2
        rw [List.getElem?_map] at hy2
        obtain ⟨t, htx, rfl⟩ := Option.map_eq_some_iff.mp hy2
        obtain ⟨m, hm⟩ := Option.isSome_iff_exists.mp ((hys t).mp (List.mem_of_getElem? htx))
        obtain ⟨r, fi, hr1, hr3, hr4, hr5⟩ := S.votes c t m ((vg_of hf t).trans hm)
        have e02 := e.trans (e1.trans e2)
        walk_at "go"
        refine q_dn (pp.rw.monoR e02) ?_
        rw [hr1]
        refine k_bl ?_
        refine k_no rfl ?_
        walk_at "go"
        refine q_dg (pp.fs.monoI e02) hr3 fun w hw => ?_
        obtain rfl : w = .int fi := hw
        walk_at "go"
        refine q_dg (pp.vt.monoD e02) hf fun u hu3 => ?_
        walk_at "go"
        refine q_dg hu3 hm fun w hw => ?_
        obtain rfl : w = .int m := hw
        walk_at "go"
        refine q_dg (pp.rw.monoR e02) hr1 fun w hw => ?_
        obtain ⟨ra, rx, rfl, hrx, hrl, _⟩ := row_len hw
        walk_at "go"
        exact ⟨⟨_, _, rfl⟩, e2⟩
      · obtain ⟨⟨x4, x5, rfl⟩, e2⟩ := hp3
        exact ⟨⟨_, _, _, rfl⟩, e.trans (e1.trans e2)⟩
    · obtain ⟨⟨x1, x2, x3, rfl⟩, e⟩ := hp2
      walk_at "go"
      refine for_go walk_tup (fun i σ' H' => (∃ x y z, σ' = [some (.ref p), some (.ref ac), some vp, some vr, some vf, some vv, x, y, z]) ∧ Same H H') ⟨⟨_, _, _, rfl⟩, e⟩ (fun i σ' H' _ hp => sm_T hp.2 hc) (fun i x σ' Ha Hb hi hp2 y => ?_) fun σ' H' hp2 => ?_
      · obtain ⟨⟨x1, x2, x3, rfl⟩, e⟩ := hp2
        obtain ⟨rfl, hy⟩ := y
        rw [List.getElem?_map] at hy
        obtain ⟨c, hcx, rfl⟩ := Option.map_eq_some_iff.mp hy
        have hcC := List.mem_of_getElem? hcx
        obtain ⟨f, hf⟩ := vote_dict S hcC
        obtain ⟨p0, hp0⟩ := prom_val S hcC
        walk_at "go"
        refine q_dg (pp.vt.monoD e) hf fun u hu2 => ?_
        walk_at "go"
        refine q_sortD hu2 hn fun ys l H1 hs hnd hys hyl hl1 e1 hl => ?_
        walk_at "go"
        have e01 := e.trans e1
        refine lc_val walk_list ys (fun _ => false) (fun _ => .non) (by rw [List.length_map]) (by rw [List.length_map]; omega) (fun _ e2 => .inl (.inl (e2 _ _ hl))) (fun j x y Hc Hd hx e2 yy Ky Kn ky kn => ?_) fun D H2 hD e2 hl2 => ?_
        · obtain ⟨rfl, hy⟩ := yy
          rw [List.getElem?_map, hx] at hy
          obtain rfl : V.int x = y := Option.some.inj hy
          obtain ⟨m, hm⟩ := Option.isSome_iff_exists.mp ((hys x).mp (List.mem_of_getElem? hx))
          have := S.proms c x m ((vg_of hf x).trans hm)
          rw [Pm.pg_of hp0] at this
          walk_at "go"
          refine q_dg (pp.pr.monoI (e01.trans e2)) hp0 fun w hw => ?_
          obtain rfl : w = .int p0 := hw
          walk_at "go"
          exact kn _ (Same.refl _) rfl
        · rw [List.filter_eq_nil_iff.mpr (fun _ _ => by simp)] at hl2
          walk_at "go"
          refine NewR.mk fun p4 H4 hn4 e4 hp4 => ?_
          have hp5 := e4 _ _ hl2
          refine k_neEL (.inl (.inl hp5)) (.inl (.inl hp4)) ?_
          walk_at "go"
          refine k_no rfl ?_
          walk_at "go"
          exact ⟨⟨_, _, _, rfl⟩, e01.trans (e2.trans e4)⟩
      · obtain ⟨⟨x1, x2, x3, rfl⟩, e⟩ := hp2
        walk_at "go"
        exact q H' e
def sp_lrow (K : PySem.W.Frag) : Sp := fun vs H Q _ => ∃ v s n, vs = [v] ∧ LPic K H v s n ∧ Pm.Sound s ∧ n < 64 ∧ (∀ t r, s.rw t = some r → r.length ≤ 1000) ∧ ∀ fv row H', Pm.ChRow s row → RowAt K H' fv row → Same H H' → Q fv H'
abbrev s_law_pi_row : Stmt := (top 91)
abbrev N_law_pi_row : List Str := ["_law_picture", "_law_found", "_law_term", "_law_row"]
theorem sc_law_pi_row : FnScope N_law_pi_row ["_law_picture"] (C8.fnScope s_law_pi_row) := C8.fnScope_by (by decide +kernel)
theorem ok_law_pi_row (D : DefX K mg "_law_pi_row" "_law_pi_row" s_law_pi_row ["_law_picture"]) (T : Txt K mg a) (c_law_pi_chosen : C8.Cal P w K mg base 2 "_law_pi_chosen" (sp_pchosen K) [])  : C8.Cal P w K mg base 3 "_law_pi_row" (sp_lrow K) [] :=
  calX D sc_law_pi_row (fun vs H Q E h => by obtain ⟨v, s, n, rfl, h, S, hn, hlen, q⟩ := h; rfl) fun f cdv A outer s H vs Q E hr h => by
    have hu := hu_of hr
    obtain ⟨v, s, n, rfl, h, S, hn, hlen, q⟩ := h
    refine ⟨_, (pss_cons (ps_set (i := 1) sc_law_pi_row.nd rfl (.inl rfl) (pe_tup pa_nil))
      (pss_cons (ps_for PassesOwn.never rfl (kx_list (K := K) (pe_callB (cx_sortDI rfl) (by rfl) T.z_sorted (by decide +kernel) (pa_cons (pe_ix (kx_ix (K := K)) (pv 0) pe_int (fun _ _ => rfl)) pa_nil))) (pg_name (i := 2) sc_law_pi_row.nd rfl (.inl rfl))
          (pss_cons (ps_set (i := 3) sc_law_pi_row.nd rfl (.inl rfl) (pe_slice (kx_slT (K := K)) (pe_dget hu (pe_ix (kx_ix (K := K)) (pv 0) pe_int (fun _ _ => rfl)) (pv 2) (fun _ _ => rfl)) po_none (po_some (C8.pe_c c_law_pi_chosen hr (by decide) (by rfl) (pa_cons (pv 0) (pa_cons (pv 2) pa_nil))))))
          (pss_one (ps_set (i := 1) sc_law_pi_row.nd rfl (.inl rfl) (pe_ifExp (pt_cmpR op_gt (pe_callB (kx_len (K := K)) (by rfl) T.z_len PySem.boot_len (pa_cons (pv 3) pa_nil)) (pe_callB (kx_len (K := K)) (by rfl) T.z_len PySem.boot_len (pa_cons (pv 1) pa_nil)) (nomark _)) (pv 3) (pv 1))))))
      (pss_one (ps_ret (pv 1))))), ?_⟩
    obtain ⟨p, vc, vp, vr, vf, vv, rfl, hp, pp⟩ := h.open
    walk_at "go"
    refine NewR.mk fun l0 H1 hn1 e1 hl0 => ?_
    walk_at "go"
    refine q_sortD (pp.rw.monoR e1) hn fun ys l H2 hs hnd hys hyl hl1 e2 hl => ?_
    have e12 := e1.trans e2
    walk_at "go"
    refine for_go walk_list (fun i σ' H' => (∃ fv x y row, σ' = [some (.ref p), some fv, x, y] ∧ RowAt K H' fv row ∧ (row = [] ∨ ∃ t r m, s.rw t = some r ∧ 0 ≤ m ∧ m ≤ (r.length : Int) ∧ s.Chs t m ∧ row = r.take m.toNat) ∧
        ∀ j, j < i → ∀ t r m, ys[j]? = some t → s.rw t = some r → 0 ≤ m → m ≤ (r.length : Int) → s.Chs t m → m ≤ (row.length : Int)) ∧ Same H2 H')
      ⟨⟨.ref l0, _, _, [], rfl, ⟨l0, [], rfl, .inl (.inl (e2 _ _ hl0)), .nil⟩, .inl rfl, fun j hj => absurd hj (Nat.not_lt_zero _)⟩, Same.refl _⟩ (fun i σ' H' _ hp => .inl (.inl (hp.2 _ _ hl))) (fun i x σ' Ha Hb hi hp2 y => ?_) fun σ' H' hp2 => ?_
    · obtain ⟨⟨fv, x1, x2, row, rfl, hrow, his, hall⟩, e⟩ := hp2
      obtain ⟨rfl, hy⟩ := y
      rw [List.getElem?_map] at hy
      obtain ⟨t, htx, rfl⟩ := Option.map_eq_some_iff.mp hy
      obtain ⟨r, hrt⟩ := Option.isSome_iff_exists.mp ((hys t).mp (List.mem_of_getElem? htx))
      have e0 := e12.trans e
      walk_at "go"
      refine q_dg (pp.rw.monoR e0) hrt fun w hw => ?_
      walk_at "go"
      refine ⟨.ref p, s, n, t, r, rfl, h.mono e0, S, hrt, hlen t r hrt, fun c H3 hc e3 => ?_⟩
      obtain ⟨ra, rx, rfl, hrx, hrp⟩ := hw.mono e3
      walk_at "go"
      refine k_slT hrx fun p3 H4 e4 hp3 => ?_
      rw [cut_to hc.1] at hp3
      have hl3 : (rx.take c.toNat).length = (r.take c.toNat).length := by rw [List.length_take, List.length_take, Paired.length hrp]
      have hrl := Pm.take_self hc.1 hc.2.1
      obtain ⟨fa, fx, rfl, hfx, hfp⟩ := hrow.mono (e3.trans e4)
      have hfl := Paired.length hfp
      walk_at "go"
      have all2 : ∀ row2 : List Pm.En, row.length ≤ row2.length → c ≤ (row2.length : Int) → ∀ j, j < i + 1 → ∀ t r m, ys[j]? = some t → s.rw t = some r → 0 ≤ m → m ≤ (r.length : Int) → s.Chs t m → m ≤ (row2.length : Int) := fun row2 l1 l2 j hj t2 r2 m hk2 hr2 m0 ml pm => by
        rcases Nat.lt_or_ge j i with z | z
        · have := hall j z t2 r2 m hk2 hr2 m0 ml pm
          omega
        · have : j = i := by omega
          subst this
          rw [htx] at hk2
          cases hk2
          rw [hrt] at hr2
          cases hr2
          have := hc.2.2.2 m m0 ml pm
          omega
      refine k_iteD (fun hle => ?_) fun hle => ?_
      · walk_at "go"
        refine ⟨⟨_, _, _, r.take c.toNat, rfl, ⟨p3, _, rfl, hp3, paired_take _ (Paired.mapP hrp fun _ _ z => z.mono e4)⟩, .inr ⟨t, r, c, hrt, hc.1, hc.2.1, hc.2.2.1, rfl⟩, all2 _ (by omega) (by omega)⟩, e.trans (e3.trans e4)⟩
      · walk_at "go"
        exact ⟨⟨_, _, _, row, rfl, ⟨fa, fx, rfl, hfx, hfp⟩, his, all2 _ (Nat.le_refl _) (by omega)⟩, e.trans (e3.trans e4)⟩
    · obtain ⟨⟨fv, x1, x2, row, rfl, hrow, his, hall⟩, e⟩ := hp2
      walk_at "go"
      refine q fv row H' (Pm.chrow_of S his fun t r m hr m0 ml pm => ?_) hrow (e12.trans e)
      obtain ⟨j, hj, ej⟩ := List.getElem_of_mem ((hys t).mpr (by rw [hr]; rfl))
      exact hall j (by rw [List.length_map]; exact hj) t r m (by rw [List.getElem?_eq_getElem hj, ej]) hr m0 ml pm
end

/-! W22 -/
section
variable {P : Program} {w : World} {K : PySem.W.Frag} {mg : Str → Option Value} {base : Heap} {a : Adr}

/-- all but one thing -/
def cut (H : Hp) (d : Addr) : Hp := fun a => if a = d then none else H a
theorem cut_at {H : Hp} {d : Addr} : cut H d d = none := if_pos rfl
theorem cut_ne {H : Hp} {d x : Addr} (h : x ≠ d) : cut H d x = H x := if_neg h
theorem cut_le {H : Hp} {d : Addr} : Same (cut H d) H := fun x u h => by
  by_cases e : x = d
  · subst e; rw [cut_at] at h; cases h
  · rw [cut_ne e] at h; exact h
theorem cut_of {B H : Hp} {d : Addr} (e : Same B H) (h : B d = none) : Same B (cut H d) := fun x u hx => by
  by_cases z : x = d
  · subst z; rw [h] at hx; cases hx
  · rw [cut_ne z]; exact e _ _ hx
theorem cut_upd {H : Hp} {d : Addr} {o : HO} : Same (cut H d) (upd H d o) := sm_mut cut_le cut_at
theorem cut_T {H : Hp} {d x : Addr} {xs ys : List V} (h : SqT K H x xs) (hd : H d = some (.lst ys)) : SqT K (cut H d) x xs := by
  rcases h with (h | ⟨o, h⟩) | h
  · have : x ≠ d := fun z => by rw [z, hd] at h; cases h
    exact .inl (.inl (by rw [cut_ne this]; exact h))
  · have : x ≠ d := fun z => by rw [z, hd] at h; cases h
    exact .inl (.inr ⟨o, by rw [cut_ne this]; exact h⟩)
  · exact .inr h
theorem paired_append {α β : Type} {F : α → β → Prop} : ∀ {a c : List α} {b d : List β}, Paired F a b → Paired F c d → Paired F (a ++ c) (b ++ d)
  | _, _, _, _, .nil, h => h
  | _, _, _, _, .cons h t, h' => .cons h (paired_append t h')
def sp_lbest (K : PySem.W.Frag) : Sp := fun vs H Q _ => ∃ v s n l lot t, vs = [v, .ref l, .int t] ∧ LPic K H v s n ∧ Pm.Sound s ∧ n ≤ 1000 ∧ SqT K H l (lot.map V.int) ∧ lot.length ≤ 100 ∧ (∀ h ∈ lot, h ∈ s.C) ∧
  ∀ fv row H', Pm.Told s lot t row → RowAt K H' fv row → Same H H' → Q fv H'
/-- the pairs of a lot of houses below a term -/
def PairsOf (s : Pm.St) (L : List Int) (t : Int) (ps : List (Int × Int)) : Prop := ∀ t' m', (t', m') ∈ ps ↔ t' < t ∧ ∃ h ∈ L, s.vg h t' = some m'
theorem k_eqELn {H : Hp} {Q : VK} {a b : Addr} {xs : List V} (h1 : H a = some (.lst xs)) (h2 : H b = some (.lst [])) (q : Q (.bl xs.isEmpty) H) : rEqE K id (.ref a) (.ref b) H Q := k_eqEL (.inl (.inl h1)) (.inl (.inl h2)) q
abbrev s_law_pi_best : Stmt := (top 92)
abbrev N_law_pi_best : List Str := ["_law_picture", "_law_lot", "_law_term", "_law_some", "_law_house", "_law_led", "_law_many"]
theorem sc_law_pi_best : FnScope N_law_pi_best ["_law_picture", "_law_lot", "_law_term"] (C8.fnScope s_law_pi_best) := C8.fnScope_by (by decide +kernel)
theorem ok_law_pi_best (D : DefX K mg "_law_pi_best" "_law_pi_best" s_law_pi_best ["_law_picture", "_law_lot", "_law_term"]) (T : Txt K mg a)   : C8.Cal P w K mg base 1 "_law_pi_best" (sp_lbest K) [] :=
  calX D sc_law_pi_best (fun vs H Q E h => by obtain ⟨v, s, n, l, lot, t, rfl, h, S, hn, hl, hlot, hC, q⟩ := h; rfl) fun f cdv A outer s H vs Q E hr h => by
    have hu := hu_of hr
    obtain ⟨v, s, n, l, lot, t, rfl, h, S, hn, hl, hlot, hC, q⟩ := h
    refine ⟨_, (pss_cons (ps_set (i := 3) sc_law_pi_best.nd rfl (.inl rfl) (pe_lst pa_nil))
      (pss_cons (ps_for PassesOwn.never rfl (kx_tup (K := K) (pv 1)) (pg_name (i := 4) sc_law_pi_best.nd rfl (.inl rfl))
          (pss_one (ps_expr (kx_bm (K := K) PySem.F.plainAttrs_list PySem.F.slot_list_extend PySem.F.type_list_extend mt_extend (pv 3) (pa_cons (pe_lc (own := [("_law_led", 5), ("_law_many", 6)]) rfl sc_law_pi_best.nd (pi_items (pe_dget hu (pe_ix (kx_ix (K := K)) (pv 0) pe_int (fun _ _ => rfl)) (pv 4) (fun _ _ => rfl))) (blkOk_by (N := N_law_pi_best) (sc := (C8.fnScope s_law_pi_best)) (by decide +kernel)) (fun _ _ _ _ _ => (kx_gtup (K := K) (n := 2) (by rfl) (pgs_cons (pg_name (i := 5) sc_law_pi_best.nd rfl (.inl rfl)) (pgs_cons (pg_name (i := 6) sc_law_pi_best.nd rfl (.inl rfl)) pgs_nil)))) (fun _ _ _ _ _ => (pts_one (pt_cmpR op_lt (pv 5) (pv 2) (nomark _)))) (fun _ _ _ _ _ => (pe_tup (pa_cons (pv 5) (pa_cons (pv 6) pa_nil))))) pa_nil)))))
      (pss_cons (ps_if (pt_cmpR (kx_eqE (K := K) hr.units) (pv 3) (pe_lst pa_nil) (nomark _))
          (pss_one (ps_ret (pe_tup pa_nil)))
          pss_nil)
      (pss_cons (ps_asg (pe_callB (kx_maxP (K := K) rfl hr.units) (by rfl) T.z_max (by decide +kernel) (pa_cons (pv 3) pa_nil)) (kx_gtup (K := K) (n := 2) (by rfl) (pgs_cons (pg_name (i := 5) sc_law_pi_best.nd rfl (.inl rfl)) (pgs_cons (pg_name (i := 6) sc_law_pi_best.nd rfl (.inl rfl)) pgs_nil))))
      (pss_one (ps_ret (pe_slice (kx_slT (K := K)) (pe_dget hu (pe_ix (kx_ix (K := K)) (pv 0) pe_int (fun _ _ => rfl)) (pv 5) (fun _ _ => rfl)) po_none (po_some (pv 6))))))))), ?_⟩
    obtain ⟨p, vc, vp, vr, vf, vv, rfl, hp, pp⟩ := h.open
    walk_at "go"
    refine NewR.mk fun sl H1 hn1 e1 hsl => ?_
    walk_at "go"
    refine for_go walk_tup (fun i σ' H' => (∃ x y z, σ' = [some (.ref p), some (.ref l), some (.int t), some (.ref sl), x, y, z]) ∧ ∃ B ys ps, Same H B ∧ B sl = none ∧ Same B H' ∧ H' sl = some (.lst ys) ∧ Paired (IsP K B) ys ps ∧ PairsOf s (lot.take i) t ps ∧ ys.length ≤ i * n)
      ⟨⟨_, _, _, rfl⟩, H, [], [], Same.refl _, hn1, e1, hsl, .nil, fun t' m' => ⟨fun h => (nomatch h), fun h => by obtain ⟨_, h, hh, _⟩ := h; cases hh⟩, by simp⟩ (fun i σ' H' _ hp2 => by obtain ⟨_, B, ys, ps, e, _, e', _⟩ := hp2; exact sm_T (e.trans e') hl) (fun i x σ' Ha Hb hi hp2 y => ?_) fun σ' H' hp2 => ?_
    · obtain ⟨⟨x1, x2, x3, rfl⟩, B, ys, ps, eB, bs, e, hys, hpd, hpo, hyl⟩ := hp2
      obtain ⟨rfl, hy⟩ := y
      rw [List.length_map] at hi
      rw [List.getElem?_map] at hy
      obtain ⟨c, hcx, rfl⟩ := Option.map_eq_some_iff.mp hy
      have hcC := hC c (List.mem_of_getElem? hcx)
      obtain ⟨f, hf⟩ := vote_dict S hcC
      walk_at "go"
      refine ⟨ty_lst hys, ?_⟩
      walk_at "go"
      refine q_dg (pp.vt.monoD (eB.trans e)) hf fun u hu2 => ?_
      obtain ⟨au, o, kvs, rfl, hd, ct⟩ := hu2
      walk_at "go"
      refine k_wI hd ?_
      refine lc_obj walk_items kvs (fun kv => match kv.1 with | .inl i => decide (i < t) | _ => false) (fun H v kv => ∃ i m, kv = (Sum.inl i, .int m) ∧ IsP K H v (i, m)) (fun {H H' v x} e z => ?_) rfl (by have := ct.len; omega) (fun _ e2 => e2 _ _ hd) (fun i x y B5 Hc Hd D hx eb bd hD eB5 yy Ky Kn ky kn => ?_) fun D H2 zs hD e2 hl2 hps => ?_
      · obtain ⟨i, m, e1, tt, e2, e3⟩ := z
        exact ⟨i, m, e1, tt, e2, sm_T e e3⟩
      · obtain ⟨T1, t1, m1, _, rfl, hT, rfl, hk, hft, rfl⟩ := y_itemC ct yy
        rw [hx] at hk
        obtain rfl := Option.some.inj hk
        have eT : Same Hc (upd Hc T1 (.tup [.int t1, .int m1])) := sm_new hT
        have hT2 : upd Hc T1 (.tup [.int t1, .int m1]) T1 = some (.tup [.int t1, .int m1]) := upd_same
        walk_at "go"
        refine k_iteD (fun hle => ?_) fun hle => ?_
        · walk_at "go"
          refine NewR.mk fun p2 H6 hp2 e6 hp6 => ?_
          obtain ⟨u1, hu1⟩ := hD
          obtain ⟨g1, g2, g3⟩ := grow eB5 bd ⟨_, hu1⟩ hT eT hT2
          obtain ⟨g4, g5, g6⟩ := grow g2 g3 ⟨_, eT _ _ hu1⟩ hp2 e6 hp6
          exact ky _ _ _ (g1.trans g4) g6 g5 (eT.trans e6) (decide_eq_true hle) ⟨t1, m1, rfl, p2, rfl, .inl (.inl upd_same)⟩
        · walk_at "go"
          exact kn _ eT (decide_eq_false hle)
      · have hzl : zs.length ≤ n := by
          have g1 := Paired.length hps
          have g2 := List.length_filter_le (fun kv : Key × V => match kv.1 with | .inl i => decide (i < t) | _ => false) kvs
          have g3 := ct.len
          omega
        have hin : i * n ≤ 100 * 1000 := Nat.mul_le_mul (by omega) hn
        walk_at "go"
        have hys2 := e2 _ _ hys
        refine k_ext hys2 hl2 (by rw [sizeLine_eq]; omega) ?_
        have key : ∀ (ys : List V) (ks : List (Key × V)), Paired (fun v (kv : Key × V) => ∃ i m, kv = (Sum.inl i, .int m) ∧ IsP K H2 v (i, m)) ys ks → ∃ zs : List (Int × Int), Paired (IsP K (cut H2 sl)) ys zs ∧ ks = zs.map fun z => (Sum.inl z.1, V.int z.2) := by
          intro ys ks hp
          induction hp with
          | nil => exact ⟨[], .nil, rfl⟩
          | cons h t ih =>
            obtain ⟨i, m, rfl, tt, e5, e6⟩ := h
            obtain ⟨zs, h1, h2⟩ := ih
            exact ⟨(i, m) :: zs, .cons ⟨tt, e5, cut_T e6 hys2⟩ h1, by rw [h2]; rfl⟩
        obtain ⟨qs, hq1, hq2⟩ := key zs _ hps
        have eB2 : Same B (cut H2 sl) := cut_of (e.trans e2) bs
        refine ⟨⟨_, _, _, rfl⟩, cut H2 sl, ys ++ zs, ps ++ qs, eB.trans eB2, cut_at, cut_upd, upd_same, paired_append (Paired.mapP hpd fun _ _ z => by obtain ⟨tt, e9, e10⟩ := z; exact ⟨tt, e9, sm_T eB2 e10⟩) hq1, fun t' m' => ?_, ?_⟩
        · have hm : (t', m') ∈ qs ↔ t' < t ∧ s.vg c t' = some m' := by
            have hm : (t', m') ∈ qs ↔ ((Sum.inl t' : Key), V.int m') ∈ qs.map fun z => ((Sum.inl z.1 : Key), V.int z.2) := by
              constructor
              · intro h; exact List.mem_map.mpr ⟨_, h, rfl⟩
              · intro h
                obtain ⟨z, hz, e⟩ := List.mem_map.mp h
                obtain ⟨z1, z2⟩ := z
                cases e; exact hz
            rw [hm, ← hq2, List.mem_filter, vg_of hf t']
            constructor
            · rintro ⟨g1, g2⟩
              obtain ⟨j, hj, ej⟩ := List.getElem_of_mem g1
              obtain ⟨t2, x2, e7, e8, e9⟩ := ct.item (i := j) (k := Sum.inl t') (v := V.int m') (by rw [List.getElem?_eq_getElem hj, ej])
              cases e7
              cases e9
              exact ⟨of_decide_eq_true g2, e8⟩
            · rintro ⟨g1, g2⟩
              obtain ⟨j, v2, hj, e9⟩ := ct.at g2
              cases e9
              exact ⟨List.mem_of_getElem? hj, decide_eq_true g1⟩
          rw [List.mem_append, hpo, hm, List.take_add_one, hcx]
          constructor
          · rintro (⟨g1, h9, g2, g3⟩ | ⟨g1, g2⟩)
            · exact ⟨g1, h9, List.mem_append_left _ g2, g3⟩
            · exact ⟨g1, c, List.mem_append_right _ List.mem_cons_self, g2⟩
          · rintro ⟨g1, h9, g2, g3⟩
            rcases List.mem_append.mp g2 with g2 | g2
            · exact .inl ⟨g1, h9, g2, g3⟩
            · obtain rfl : h9 = c := by simpa using g2
              exact .inr ⟨g1, g3⟩
        · rw [List.length_append, Nat.add_mul]; omega
    · obtain ⟨⟨x1, x2, x3, rfl⟩, B, ys, ps, eB, bs, e, hys, hpd, hpo, hyl⟩ := hp2
      rw [List.length_map, List.take_length] at hpo
      walk_at "go"
      refine NewR.mk fun p4 H4 hn4 e4 hp4 => ?_
      refine k_eqELn (e4 _ _ hys) hp4 ?_
      walk_at "go"
      refine k_ite (fun hem => ?_) fun hem => ?_
      · obtain rfl : ys = [] := by cases ys with | nil => rfl | cons _ _ => cases hem
        cases hpd
        walk_at "go"
        refine NewR.mk fun p5 H5 hn5 e5 hp5 => ?_
        refine q _ [] H5 (.none fun h hh t' ht => ?_) ⟨p5, [], rfl, .inl (.inl hp5), .nil⟩ (eB.trans (e.trans (e4.trans e5)))
        cases hv : s.vg h t' with
        | none => rfl
        | some m' => exact absurd ((hpo t' m').mpr ⟨ht, h, hh, hv⟩) (by simp)
      · walk_at "go"
        have e04 := eB.trans (e.trans e4)
        refine ⟨sl, ys, ps, rfl, .inl (.inl (e4 _ _ hys)), Paired.mapP hpd fun _ _ z => by obtain ⟨tt, e9, e10⟩ := z; exact ⟨tt, e9, sm_T (e.trans e4) e10⟩, fun z => ?_, fun t3 p3 hp3 hmax h3 => ?_⟩
        · subst z
          cases hpd
          cases hem
        · obtain ⟨led, m⟩ := p3
          obtain ⟨hlt, h0, hh0, hv⟩ := (hpo led m).mp hp3
          obtain ⟨r, f, hr1, hr3, hr4, hr5⟩ := S.votes h0 led m hv
          have hf0 := S.firsts led r f hr1 hr3
          walk_at "go"
          refine q_dg (pp.rw.monoR e04) hr1 fun w hw => ?_
          obtain ⟨ra, rx, rfl, hrx, hrp⟩ := hw
          walk_at "go"
          refine k_slT hrx fun p6 H6 e6 hp6 => ?_
          rw [cut_to (by omega)] at hp6
          refine q _ _ H6 (.some hh0 hlt hv hr1 fun h' hh' t' m' ht' hv' => ?_) ⟨p6, _, rfl, hp6, paired_take _ (Paired.mapP hrp fun _ _ z => z.mono e6)⟩ (e04.trans e6)
          have := hmax _ ((hpo t' m').mpr ⟨ht', h', hh', hv'⟩)
          unfold plt at this
          simp only at this
          omega
end

/-! W23 -/
section
variable {P : Program} {w : World} {K : PySem.W.Frag} {mg : Str → Option Value} {base : Heap} {a : Adr}

abbrev s_law_pi_fault : Stmt := (top 90)
abbrev N_law_pi_fault : List Str := ["_law_picture", "_law_circle", "_law_promised", "_law_rows", "_law_firsts", "_law_votes", "_law_found", "_law_terms", "_law_long", "_law_few", "_law_term", "_law_many", "_law_later", "_law_house"]
theorem sc_law_pi_fault : FnScope N_law_pi_fault ["_law_picture"] (C8.fnScope s_law_pi_fault) := C8.fnScope_by (by decide +kernel)
theorem ok_law_pi_fault (D : DefX K mg "_law_pi_fault" "_law_pi_fault" s_law_pi_fault ["_law_picture"]) (T : Txt K mg a) (c_law_pi_more : C8.Cal P w K mg base 1 "_law_pi_more" (sp_more K) []) (c_law_pi_open : C8.Cal P w K mg base 2 "_law_pi_open" (sp_popen K) []) (c_law_pi_vote_fault : C8.Cal P w K mg base 1 "_law_pi_vote_fault" (sp_lfault K) [])  : C8.Cal P w K mg base 3 "_law_pi_fault" (sp_lfault K) [] :=
  calX D sc_law_pi_fault (fun vs H Q E h => by obtain ⟨v, s, n, rfl, h, S, hn, hlen, q⟩ := h; rfl) fun f cdv A outer s H vs Q E hr h => by
    have hu := hu_of hr
    obtain ⟨v, s, n, rfl, h, S, hn, hlen, q⟩ := h
    refine ⟨_, (pss_cons (ps_asg (pv 0) (kx_gtup (K := K) (n := 5) (by rfl) (pgs_cons (pg_name (i := 1) sc_law_pi_fault.nd rfl (.inr rfl)) (pgs_cons (pg_name (i := 2) sc_law_pi_fault.nd rfl (.inr rfl)) (pgs_cons (pg_name (i := 3) sc_law_pi_fault.nd rfl (.inr rfl)) (pgs_cons (pg_name (i := 4) sc_law_pi_fault.nd rfl (.inr rfl)) (pgs_cons (pg_name (i := 5) sc_law_pi_fault.nd rfl (.inl rfl)) pgs_nil)))))))
      (pss_cons (ps_set (i := 6) sc_law_pi_fault.nd rfl (.inl rfl) (C8.pe_c c_law_pi_vote_fault hr (by decide) (by rfl) (pa_cons (pv 0) pa_nil)))
      (pss_cons (ps_if (pt_cmpR ox_notN (pv 6) pe_non (nomark _))
          (pss_one (ps_ret (pv 6)))
          pss_nil)
      (pss_cons (ps_set (i := 7) sc_law_pi_fault.nd rfl (.inl rfl) (pe_callB (cx_sortDI rfl) (by rfl) T.z_sorted (by decide +kernel) (pa_cons (pv 3) pa_nil)))
      (pss_cons (ps_setLc (i := 8) (own := [("_law_term", 10)]) rfl sc_law_pi_fault.nd rfl rfl (sw_true rfl rfl rfl (by decide +kernel)) (kx_list (K := K) (pv 7)) (blkOk_by (N := N_law_pi_fault) (sc := (C8.fnScope s_law_pi_fault)) (by decide +kernel)) (fun _ _ _ _ _ => (pg_name (i := 10) sc_law_pi_fault.nd rfl (.inl rfl))) (fun _ _ _ _ _ => (pts_one (pt_cmpR op_gt (pe_dget hu (pv 4) (pv 10) (fun _ _ => rfl)) (pe_callB (kx_len (K := K)) (by rfl) T.z_len PySem.boot_len (pa_cons (pe_dget hu (pv 3) (pv 10) (fun _ _ => rfl)) pa_nil)) (nomark _)))) (fun _ _ _ _ _ => (pv 10)))
      (pss_cons (ps_if (pt_cmpR (kx_neE (K := K) hr.units) (pv 8) (pe_lst pa_nil) (nomark _))
          (pss_one (ps_ret (pe_tup (pa_cons pe_str (pa_cons (pe_ix (kx_ixL (K := K)) (pv 8) pe_int (fun _ _ => rfl)) pa_nil)))))
          pss_nil)
      (pss_cons (ps_setLc (i := 9) (own := [("_law_term", 10)]) rfl sc_law_pi_fault.nd rfl rfl (sw_true rfl rfl rfl (by decide +kernel)) (kx_list (K := K) (pv 7)) (blkOk_by (N := N_law_pi_fault) (sc := (C8.fnScope s_law_pi_fault)) (by decide +kernel)) (fun _ _ _ _ _ => (pg_name (i := 10) sc_law_pi_fault.nd rfl (.inr rfl))) (fun _ _ _ _ _ => (pts_one (pt_not (pt_val (C8.pe_c c_law_pi_more hr (by decide) (by rfl) (pa_cons (pv 1) (pa_cons (pe_callB (kx_len (K := K)) (by rfl) T.z_len PySem.boot_len (pa_cons (pe_lc (own := [("_law_house", 13)]) rfl sc_law_pi_fault.nd (kx_tup (K := K) (pv 1)) (blkOk_by (N := N_law_pi_fault) (sc := { kind := .function, names := [(".0", .local), ("_law_term", .cell), ("_law_pi_more", .globalImplicit), ("len", .globalImplicit), ("_law_circle", .cell), ("_law_promised", .cell)], isGenerator := false, isCoroutine := false }) (by decide +kernel)) (fun _ _ _ _ _ => (pg_name (i := 13) sc_law_pi_fault.nd rfl (.inl rfl))) (fun _ _ _ _ _ => (pts_one (pt_cmpR op_ge (pe_dget hu (pv 2) (pv 13) (fun _ _ => rfl)) (pv 10) (nomark _)))) (fun _ _ _ _ _ => (pv 13))) pa_nil)) pa_nil))))))) (fun _ _ _ _ _ => (pv 10)))
      (pss_cons (ps_if (pt_cmpR (kx_neE (K := K) hr.units) (pv 9) (pe_lst pa_nil) (nomark _))
          (pss_one (ps_ret (pe_tup (pa_cons pe_str (pa_cons (pe_ix (kx_ixL (K := K)) (pv 9) pe_int (fun _ _ => rfl)) pa_nil)))))
          pss_nil)
      (pss_cons (ps_for PassesOwn.never rfl (kx_list (K := K) (pv 7)) (pg_name (i := 10) sc_law_pi_fault.nd rfl (.inl rfl))
          (pss_cons (ps_set (i := 11) sc_law_pi_fault.nd rfl (.inl rfl) (C8.pe_c c_law_pi_open hr (by decide) (by rfl) (pa_cons (pv 0) (pa_cons (pv 10) pa_nil))))
          (pss_one (ps_for PassesOwn.never rfl (kx_list (K := K) (pv 7)) (pg_name (i := 12) sc_law_pi_fault.nd rfl (.inl rfl))
            (pss_one (ps_if (PW.pt (pw_and (pt_cmpR op_gt (pv 12) (pv 10) (nomark _)) (pw_and1 (PW.pt (pw_or (pt_cmpR op_gt (pv 11) (pe_dget hu (pv 4) (pv 12) (fun _ _ => rfl)) (nomark _)) (pw_or1 (pt_cmpR (kx_ne3 (K := K) hr.units) (pe_slice (kx_slT (K := K)) (pe_dget hu (pv 3) (pv 12) (fun _ _ => rfl)) po_none (po_some (pv 11))) (pe_slice (kx_slT (K := K)) (pe_dget hu (pv 3) (pv 10) (fun _ _ => rfl)) po_none (po_some (pv 11))) (nomark _))))))))
              (pss_one (ps_ret (pe_tup (pa_cons pe_str (pa_cons (pv 10) (pa_cons (pv 12) pa_nil))))))
              pss_nil))))))
      (pss_one (ps_ret pe_non))))))))))), ?_⟩
    obtain ⟨p, vc, vp, vr, vf, vv, rfl, hp, pp⟩ := h.open
    obtain ⟨ac, rfl, hc⟩ := id pp.cir
    have h7 := S.circ.le
    walk_at "go"
    refine ⟨.ref p, s, n, rfl, h, S, hn, hlen, fun H1 e1 => ?_⟩
    walk_at "go"
    refine q_sortD (pp.rw.monoR e1) hn fun ys l H2 hs hnd hys hyl hl1 e2 hl => ?_
    have e12 := e1.trans e2
    walk_at "go"
    refine lc_val walk_list ys (fun _ => false) (fun _ => .non) (by rw [List.length_map]) (by rw [List.length_map]; omega) (fun _ e3 => .inl (.inl (e3 _ _ hl))) (fun j x y Hc Hd hx e3 yy Ky Kn ky kn => ?_) fun D H3 hD e3 hl3 => ?_
    · obtain ⟨rfl, hy⟩ := yy
      rw [List.getElem?_map, hx] at hy
      obtain rfl : V.int x = y := Option.some.inj hy
      obtain ⟨r, hrt⟩ := Option.isSome_iff_exists.mp ((hys x).mp (List.mem_of_getElem? hx))
      obtain ⟨f, hf⟩ := Option.isSome_iff_exists.mp (show (s.fs x).isSome = true by rw [S.fsk, hrt]; rfl)
      have hfl := S.firsts x r f hrt hf
      have e0 := e12.trans e3
      walk_at "go"
      refine q_dg (pp.fs.monoI e0) hf fun w hw => ?_
      obtain rfl : w = .int f := hw
      walk_at "go"
      refine q_dg (pp.rw.monoR e0) hrt fun w hw => ?_
      obtain ⟨ra, rx, rfl, hrx, hrl, _⟩ := row_len hw
      walk_at "go"
      exact kn _ (Same.refl _) rfl
    · rw [List.filter_eq_nil_iff.mpr (fun _ _ => by simp)] at hl3
      walk_at "go"
      refine NewR.mk fun p4 H4 hn4 e4 hp4 => ?_
      have hp5 := e4 _ _ hl3
      refine k_neEL (.inl (.inl hp5)) (.inl (.inl hp4)) ?_
      walk_at "go"
      refine k_no rfl ?_
      have e14 := e12.trans (e3.trans e4)
      walk_at "go"
      refine k_wL (.inl (.inl ((e3.trans e4) _ _ hl))) ?_
      refine lc_val walk_list ys (fun _ => false) (fun _ => .non) (by rw [List.length_map]) (by rw [List.length_map]; omega) (fun _ e5 => .inl (.inl ((e3.trans (e4.trans e5)) _ _ hl))) (fun j x y Hc Hd hx e5 yy Ky Kn ky kn => ?_) fun D6 H6 hD6 e6 hl6 => ?_
      · obtain ⟨rfl, hy⟩ := yy
        rw [List.getElem?_map, hx] at hy
        obtain rfl : V.int x = y := Option.some.inj hy
        obtain ⟨r, hrt⟩ := Option.isSome_iff_exists.mp ((hys x).mp (List.mem_of_getElem? hx))
        have e0 := e14.trans e5
        walk_at "go"
        refine lc_val walk_tup s.C (fun h => decide (x ≤ s.pg h)) (fun h => .int h) (by rw [List.length_map]) (by rw [List.length_map]; omega) (fun _ e7 => sm_T (e0.trans e7) hc) (fun j x2 y2 Hc Hd hx2 e7 yy2 Ky2 Kn2 ky2 kn2 => ?_) fun D7 H7 hD7 e7 hl7 => ?_
        · obtain ⟨rfl, hy2⟩ := yy2
          rw [List.getElem?_map, hx2] at hy2
          obtain rfl : V.int x2 = y2 := Option.some.inj hy2
          obtain ⟨p0, hpv⟩ := prom_val S (List.mem_of_getElem? hx2)
          rw [Pm.pg_of hpv] at ky2 kn2
          walk_at "go"
          refine q_dg (pp.pr.monoI (e0.trans e7)) hpv fun w hw => ?_
          obtain rfl : w = .int p0 := hw
          walk_at "go"
          refine k_iteD (fun hle => ?_) fun hle => ?_
          · walk_at "go"
            exact ky2 _ (Same.refl _) (decide_eq_true hle)
          · exact kn2 _ (Same.refl _) (decide_eq_false hle)
        · walk_at "go"
          have hlt := S.lots x r hrt
          unfold Pm.more at hlt
          refine ⟨ac, s.C.map V.int, _, rfl, sm_T (e0.trans e7) hc, ?_⟩
          rw [decide_eq_true (by simp only [List.length_map]; omega)]
          walk_at "go"
          exact kn _ e7 rfl
      · rw [List.filter_eq_nil_iff.mpr (fun _ _ => by simp)] at hl6
        walk_at "go"
        refine NewR.mk fun p8 H8 hn8 e8 hp8 => ?_
        have hp9 := e8 _ _ hl6
        refine k_neEL (.inl (.inl hp9)) (.inl (.inl hp8)) ?_
        walk_at "go"
        refine k_no rfl ?_
        have e28 := e3.trans (e4.trans (e6.trans e8))
        walk_at "go"
        refine for_go walk_list (fun i σ' H' => (∃ x y z w, σ' = [some (.ref p), some (.ref ac), some vp, some vr, some vf, some vv, some .non, some (.ref l), some (.ref D), some (.ref D6), x, y, z, w]) ∧ Same H2 H') ⟨⟨_, _, _, _, rfl⟩, e28⟩ (fun i σ' H' _ hp => .inl (.inl (hp.2 _ _ hl))) (fun i x σ' Ha Hb hi hp2 y => ?_) fun σ' H' hp2 => ?_
        · obtain ⟨⟨x1, x2, x3, x4, rfl⟩, e⟩ := hp2
          obtain ⟨rfl, hy⟩ := y
          rw [List.getElem?_map] at hy
          obtain ⟨t, htx, rfl⟩ := Option.map_eq_some_iff.mp hy
          obtain ⟨r, hrt⟩ := Option.isSome_iff_exists.mp ((hys t).mp (List.mem_of_getElem? htx))
          have e0 := e12.trans e
          walk_at "go"
          refine ⟨.ref p, s, n, t, r, rfl, h.mono e0, S, hrt, hlen t r hrt, fun c Hc hcg ec => ?_⟩
          walk_at "go"
          refine for_go walk_list (fun i σ' H' => (∃ z w, σ' = [some (.ref p), some (.ref ac), some vp, some vr, some vf, some vv, some .non, some (.ref l), some (.ref D), some (.ref D6), some (.int t), some (.int c), z, w]) ∧ Same H2 H') ⟨⟨_, _, rfl⟩, e.trans ec⟩ (fun i σ' H' _ hp => .inl (.inl (hp.2 _ _ hl))) (fun i2 x2 σ2 Hd He hi2 hp3 y2 => ?_) fun σ' H' hp3 => ?_
          · obtain ⟨⟨x5, x6, rfl⟩, e9⟩ := hp3
            obtain ⟨rfl, hy2⟩ := y2
            rw [List.getElem?_map] at hy2
            obtain ⟨t2, htx2, rfl⟩ := Option.map_eq_some_iff.mp hy2
            obtain ⟨r2, hrt2⟩ := Option.isSome_iff_exists.mp ((hys t2).mp (List.mem_of_getElem? htx2))
            have e10 := e12.trans e9
            walk_at "go"
            refine k_iteD (fun hlt => ?_) fun hlt => ?_
            · obtain ⟨f, hf⟩ := Option.isSome_iff_exists.mp (show (s.fs t2).isSome = true by rw [S.fsk, hrt2]; rfl)
              have hch := S.chosen t t2 r r2 f hrt hrt2 hf hlt c hcg.1 hcg.2.1 hcg.2.2.1
              walk_at "go"
              refine q_dg (pp.fs.monoI e10) hf fun w hw => ?_
              obtain rfl : w = .int f := hw
              walk_at "go"
              refine q_dg (pp.rw.monoR e10) hrt2 fun w hw => ?_
              obtain ⟨sa, sx, rfl, hsx, hsp⟩ := hw
              walk_at "go"
              refine k_slT hsx fun p3 H3 e3 hp3 => ?_
              walk_at "go"
              refine q_dg (pp.rw.monoR (e10.trans e3)) hrt fun w hw => ?_
              obtain ⟨ra, rx, rfl, hrx, hrp⟩ := hw
              walk_at "go"
              refine k_slT hrx fun p4 H4 e4 hp4 => ?_
              rw [cut_to hcg.1] at hp3 hp4
              refine ⟨p3, p4, _, _, rfl, rfl, sm_T e4 hp3, hp4, ?_, ?_⟩
              · refine eq_ents (n := 8) (r := r2.take c.toNat) (paired_take _ (Paired.mapP hsp fun _ _ z => z.mono (e3.trans e4))) ?_
                rw [← hch.2]
                exact paired_take _ (Paired.mapP hrp fun _ _ z => z.mono e4)
              · walk_at "go"
                exact ⟨⟨_, _, rfl⟩, e9.trans (e3.trans e4)⟩
            · walk_at "go"
              exact ⟨⟨_, _, rfl⟩, e9⟩
          · obtain ⟨⟨x5, x6, rfl⟩, e9⟩ := hp3
            exact ⟨⟨_, _, _, _, rfl⟩, e9⟩
        · obtain ⟨⟨x1, x2, x3, x4, rfl⟩, e⟩ := hp2
          walk_at "go"
          exact q H' (e12.trans e)
end

/-! W24 -/
section
variable {P : Program} {w : World} {K : PySem.W.Frag} {mg : Str → Option Value} {base : Heap} {a : Adr}

/-- an action that the law draws: what it is sure of -/
def ActOk (s : Pm.St) (M : Int) : Pm.Act → Prop
  | .promise h t => h ∈ s.C ∧ 0 ≤ t ∧ t ≤ M
  | .lead t lot => 0 ≤ t ∧ t ≤ M ∧ lot.Pairwise (· < ·) ∧ ∀ h ∈ lot, h ∈ s.C
  | .append t e => 0 ≤ t ∧ t ≤ M ∧ EnOk e
  | .vote h t m => h ∈ s.C ∧ 0 ≤ t ∧ t ≤ M ∧ 0 ≤ m ∧ m ≤ 2000
theorem ActOk.small {s : Pm.St} {M : Int} (S : Pm.Sound s) (hM : M ≤ 1000000) {x : Pm.Act} (h : ActOk s M x) : ASmall x := by
  cases x with
  | promise h0 t =>
    have := S.circ.nm h0 h.1
    obtain ⟨_, h2, h3⟩ := h
    exact ⟨⟨by omega, by omega⟩, ⟨by omega, by omega⟩⟩
  | lead t lot =>
    obtain ⟨h2, h3, _⟩ := h
    exact ⟨by omega, by omega⟩
  | append t e =>
    obtain ⟨h2, h3, h4⟩ := h
    exact ⟨⟨by omega, by omega⟩, h4⟩
  | vote h0 t m =>
    have := S.circ.nm h0 h.1
    obtain ⟨_, h2, h3, h4, h5⟩ := h
    exact ⟨⟨by omega, by omega⟩, ⟨by omega, by omega⟩, ⟨by omega, by omega⟩⟩
theorem up_uniq : ∀ {a b : List Int}, a.Pairwise (· < ·) → b.Pairwise (· < ·) → (∀ x, x ∈ a ↔ x ∈ b) → a = b := fun {a b} ha hb h => by
  have p : a.Perm b := (List.perm_ext_iff_of_nodup (Pm.up_nodup ha) (Pm.up_nodup hb)).mpr h
  exact p.eq_of_pairwise (fun x y _ _ h1 h2 => by omega) ha hb
theorem q_setTup {H : Hp} {Q : VK} {p : Addr} {ns : List Int} (h : SqT K H p (ns.map V.int)) (hl : ns.length ≤ 50) (q : ∀ d c H', H d = none → c ≤ 50 → Same H H' → H' d = some (SetO w d (fun j => decide (j ∈ ns)) c) → Q (.ref d) H') : rSetTup K w [.ref p] H Q :=
  ⟨p, ns, rfl, h, hl, fun d c hd hc => q d c _ hd hc (sm_new hd) upd_same⟩
def sp_islead (K : PySem.W.Frag) : Sp := fun vs H Q _ => ∃ v s n t l lot, vs = [v, .int t, .ref l] ∧ LPic K H v s n ∧ Pm.Sound s ∧ SqT K H l (lot.map V.int) ∧ lot.Pairwise (· < ·) ∧ (∀ h ∈ lot, h ∈ s.C) ∧ 0 ≤ t ∧ ∀ b H', (b = true → Pm.Let s (.lead t lot)) → Same H H' → Q (.bl b) H'
abbrev s_law_pi_is_lead : Stmt := (top 93)
abbrev N_law_pi_is_lead : List Str := ["_law_picture", "_law_term", "_law_lot", "_law_circle", "_law_promised", "_law_house"]
theorem sc_law_pi_is_lead : FnScope N_law_pi_is_lead ["_law_picture", "_law_term", "_law_lot"] (C8.fnScope s_law_pi_is_lead) := C8.fnScope_by (by decide +kernel)
theorem ok_law_pi_is_lead (D : DefX K mg "_law_pi_is_lead" "_law_pi_is_lead" s_law_pi_is_lead ["_law_picture", "_law_term", "_law_lot"]) (T : Txt K mg a) (c_law_pi_more : C8.Cal P w K mg base 1 "_law_pi_more" (sp_more K) [])  : C8.Cal P w K mg base 2 "_law_pi_is_lead" (sp_islead K) [] :=
  calX D sc_law_pi_is_lead (fun vs H Q E h => by obtain ⟨v, s, n, t, l, lot, rfl, h, S, hl, hs, hC, h0, q⟩ := h; rfl) fun f cdv A outer s H vs Q E hr h => by
    have hu := hu_of hr
    obtain ⟨v, s, n, t, l, lot, rfl, h, S, hl, hs, hC, h0, q⟩ := h
    refine ⟨_, (pss_cons (ps_asg (pe_tup (pa_cons (pe_ix (kx_ix (K := K)) (pv 0) pe_int (fun _ _ => rfl)) (pa_cons (pe_ix (kx_ix (K := K)) (pv 0) pe_int (fun _ _ => rfl)) pa_nil))) (kx_gtup (K := K) (n := 2) (by rfl) (pgs_cons (pg_name (i := 3) sc_law_pi_is_lead.nd rfl (.inr rfl)) (pgs_cons (pg_name (i := 4) sc_law_pi_is_lead.nd rfl (.inr rfl)) pgs_nil))))
      (pss_cons (ps_if (PW.pt (pw_or (pt_cmp (pc_din hu (pv 1) (pe_ix (kx_ix (K := K)) (pv 0) pe_int (fun _ _ => rfl))) rfl) (pw_or (pt_cmpR op_lt (pv 1) pe_int (nomark _)) (pw_or (pt_cmpR (kx_ne3 (K := K) hr.units) (pv 2) (pe_callTy (kx_tupOf (K := K)) (by rfl) T.z_tuple (by decide +kernel) (pa_cons (pe_callB (cr_sortedSet rfl) (by rfl) T.z_sorted (by decide +kernel) (pa_cons (pe_callTy (kx_setTup (K := K) rfl) (by rfl) T.z_set (by decide +kernel) (pa_cons (pv 2) pa_nil)) pa_nil)) pa_nil)) (nomark _)) (pw_or1 (pt_cmpR (kx_neE (K := K) hr.units) (pe_lc (own := [("_law_house", 5)]) rfl sc_law_pi_is_lead.nd (kx_tup (K := K) (pv 2)) (blkOk_by (N := N_law_pi_is_lead) (sc := (C8.fnScope s_law_pi_is_lead)) (by decide +kernel)) (fun _ _ _ _ _ => (pg_name (i := 5) sc_law_pi_is_lead.nd rfl (.inl rfl))) (fun _ _ _ _ _ => (pts_one (pt_cmpR (kx_nin (K := K)) (pv 5) (pv 3) (by rfl)))) (fun _ _ _ _ _ => (pv 5))) (pe_lst pa_nil) (nomark _)))))))
          (pss_one (ps_ret pe_bl))
          pss_nil)
      (pss_one (ps_ret (pe_and (C8.pe_c c_law_pi_more hr (by decide) (by rfl) (pa_cons (pv 3) (pa_cons (pe_callB (kx_len (K := K)) (by rfl) T.z_len PySem.boot_len (pa_cons (pv 2) pa_nil)) pa_nil))) (pe_one (pe_cmpR (kx_eqE (K := K) hr.units) (pe_lc (own := [("_law_house", 5)]) rfl sc_law_pi_is_lead.nd (kx_tup (K := K) (pv 2)) (blkOk_by (N := N_law_pi_is_lead) (sc := (C8.fnScope s_law_pi_is_lead)) (by decide +kernel)) (fun _ _ _ _ _ => (pg_name (i := 5) sc_law_pi_is_lead.nd rfl (.inl rfl))) (fun _ _ _ _ _ => (pts_one (pt_cmpR op_lt (pe_dget hu (pv 4) (pv 5) (fun _ _ => rfl)) (pv 1) (nomark _)))) (fun _ _ _ _ _ => (pv 5))) (pe_lst pa_nil) (nomark _)))))))), ?_⟩
    obtain ⟨p, vc, vp, vr, vf, vv, rfl, hp, pp⟩ := h.open
    obtain ⟨ac, rfl, hc⟩ := id pp.cir
    have hlen := lot_len S hs hC
    walk_at "go"
    refine NewR.mk fun p2 H1 hn1 e1 hp2 => ?_
    walk_at "go"
    refine q_di (pp.rw.monoR e1) ?_
    cases hrt : s.rw t with
    | some r =>
      refine k_bl ?_
      refine k_yes rfl ?_
      walk_at "go"
      exact q false H1 (fun z => nomatch z) e1
    | none =>
      refine k_bl ?_
      refine k_no rfl ?_
      walk_at "go"
      refine q_setTup (sm_T e1 hl) (by omega) fun d c H2 hd hc2 e2 hd2 => ?_
      walk_at "go"
      refine ⟨d, _, c, rfl, hd2, by omega, fun ns p3 hns hmem hcl hp3 => ?_⟩
      have ens : ns = lot := up_uniq hns hs fun x => by rw [hmem]; simp
      subst ens
      have e3 : Same H2 (upd H2 p3 (.lst (ns.map V.int))) := sm_new hp3
      have hp32 : upd H2 p3 (.lst (ns.map V.int)) p3 = some (.lst (ns.map V.int)) := upd_same
      walk_at "go"
      refine NewR.mk fun p4 H4 hn4 e4 hp4 => ?_
      walk_at "go"
      have e04 := e1.trans (e2.trans (e3.trans e4))
      refine ⟨l, p4, _, _, rfl, rfl, sm_T e04 hl, .inl (.inl hp4), eq_flats _ (flat_int ns), ?_⟩
      walk_at "go"
      refine lc_val walk_tup ns (fun _ => false) (fun _ => .non) (by rw [List.length_map]) (by rw [List.length_map]; omega) (fun _ e5 => sm_T (e04.trans e5) hl) (fun j x y Hc Hd hx e5 yy Ky Kn ky kn => ?_) fun D H6 hD e6 hl6 => ?_
      · obtain ⟨rfl, hy⟩ := yy
        rw [List.getElem?_map, hx] at hy
        obtain rfl : V.int x = y := Option.some.inj hy
        have hxC := hC x (List.mem_of_getElem? hx)
        have e0 := e04.trans e5
        walk_at "go"
        exact kn _ (Same.refl _) rfl
      · rw [List.filter_eq_nil_iff.mpr (fun _ _ => by simp)] at hl6
        walk_at "go"
        refine NewR.mk fun p8 H8 hn8 e8 hp8 => ?_
        have hp9 := e8 _ _ hl6
        refine k_neEL (.inl (.inl hp9)) (.inl (.inl hp8)) ?_
        walk_at "go"
        refine k_no rfl ?_
        have e08 := e04.trans (e6.trans e8)
        walk_at "go"
        refine ⟨ac, s.C.map V.int, _, rfl, sm_T e08 hc, ?_⟩
        have hm : decide (2 * ((ns.map V.int).length : Int) > ((s.C.map V.int).length : Int)) = true ↔ Pm.more s.C ns := by
          rw [List.length_map, List.length_map]
          exact more_dec rfl
        refine ⟨_, rfl, ?_⟩
        refine k_ite (fun hy => ?_) fun hy => ?_
        · walk_at "go"
          refine lc_val walk_tup ns (fun h => decide (s.pg h < t)) (fun h => .int h) (by rw [List.length_map]) (by rw [List.length_map]; omega) (fun _ e5 => sm_T (e08.trans e5) hl) (fun j x y Hc Hd hx e5 yy Ky Kn ky kn => ?_) fun D H9 hD e9 hl9 => ?_
          · obtain ⟨rfl, hy2⟩ := yy
            rw [List.getElem?_map, hx] at hy2
            obtain rfl : V.int x = y := Option.some.inj hy2
            have hxC := hC x (List.mem_of_getElem? hx)
            obtain ⟨p0, hpv⟩ := prom_val S hxC
            rw [Pm.pg_of hpv] at ky kn
            have e0 := e08.trans e5
            walk_at "go"
            refine q_dg (pp.pr.monoI e0) hpv fun w hw => ?_
            obtain rfl : w = .int p0 := hw
            walk_at "go"
            refine k_iteD (fun hle => ?_) fun hle => ?_
            · walk_at "go"
              exact ky _ (Same.refl _) (decide_eq_true hle)
            · exact kn _ (Same.refl _) (decide_eq_false hle)
          · walk_at "go"
            refine NewR.mk fun p10 H10 hn10 e10 hp10 => ?_
            have hp11 := e10 _ _ hl9
            refine k_eqELn hp11 hp10 ?_
            refine q _ H10 (fun hb => ⟨hrt, h0, hs, hC, hm.mp hy, fun x hx => ?_⟩) (e08.trans (e9.trans e10))
            have hnil : (ns.filter fun h => decide (s.pg h < t)) = [] := by
              cases hh : (ns.filter fun h => decide (s.pg h < t)) with
              | nil => rfl
              | cons a b => rw [hh] at hb; cases hb
            have := List.filter_eq_nil_iff.mp hnil x hx
            simp only [decide_eq_true_eq] at this
            omega
        · exact q false H8 (fun z => nomatch z) e08
def sp_islet (K : PySem.W.Frag) : Sp := fun vs H Q _ => ∃ v x s n act M, vs = [v, x] ∧ LPic K H v s n ∧ Pm.Sound s ∧ ActAt K H x act ∧ ActOk s M act ∧ ∀ b H', (b = true → Pm.Let s act) → Same H H' → Q (.bl b) H'
abbrev s_law_pi_is_let : Stmt := (top 94)
abbrev N_law_pi_is_let : List Str := ["_law_picture", "_law_action", "_law_promised", "_law_rows", "_law_firsts", "_law_votes", "_law_house", "_law_term", "_law_many"]
theorem sc_law_pi_is_let : FnScope N_law_pi_is_let ["_law_picture", "_law_action"] (C8.fnScope s_law_pi_is_let) := C8.fnScope_by (by decide +kernel)
theorem ok_law_pi_is_let (D : DefX K mg "_law_pi_is_let" "_law_pi_is_let" s_law_pi_is_let ["_law_picture", "_law_action"]) (T : Txt K mg a) (c_law_pi_is_lead : C8.Cal P w K mg base 2 "_law_pi_is_lead" (sp_islead K) [])  : C8.Cal P w K mg base 3 "_law_pi_is_let" (sp_islet K) [] :=
  calX D sc_law_pi_is_let (fun vs H Q E h => by obtain ⟨v, x, s, n, act, M, rfl, h, S, ha, hk, q⟩ := h; rfl) fun f cdv A outer s H vs Q E hr h => by
    have hu := hu_of hr
    obtain ⟨v, x, s, n, act, M, rfl, h, S, ha, hk, q⟩ := h
    obtain ⟨p, vc, vp, vr, vf, vv, rfl, hp, pp⟩ := h.open
    have hcut : cutV [vc, vp, vr, vf, vv] (some 1) none = [vp, vr, vf, vv] := rfl
    cases act with
    | promise h0 t =>
      obtain ⟨pa, rfl, hx⟩ := ha
      obtain ⟨hC, _, _⟩ := hk
      obtain ⟨p0, hp0⟩ := prom_val S hC
      refine ⟨_, (pss_cons (ps_asg (pe_slice (kx_slT (K := K)) (pv 0) (po_some pe_int) po_none) (kx_gtup (K := K) (n := 4) (by rfl) (pgs_cons (pg_name (i := 2) sc_law_pi_is_let.nd rfl (.inl rfl)) (pgs_cons (pg_name (i := 3) sc_law_pi_is_let.nd rfl (.inl rfl)) (pgs_cons (pg_name (i := 4) sc_law_pi_is_let.nd rfl (.inl rfl)) (pgs_cons (pg_name (i := 5) sc_law_pi_is_let.nd rfl (.inl rfl)) pgs_nil))))))
      (pss_cons (ps_if (pt_cmpR op_eq (pe_ix (kx_ix (K := K)) (pv 1) pe_int (fun _ _ => rfl)) pe_str (nomark _))
          (pss_one (ps_ret (pe_and (pe_cmp (pc_din hu (pe_ix (kx_ix (K := K)) (pv 1) pe_int (fun _ _ => rfl)) (pv 2)) rfl) (pe_one (pe_cmpR op_gt (pe_ix (kx_ix (K := K)) (pv 1) pe_int (fun _ _ => rfl)) (pe_dget hu (pv 2) (pe_ix (kx_ix (K := K)) (pv 1) pe_int (fun _ _ => rfl)) (fun _ _ => rfl)) (nomark _))))))
          pss_nil)
      (pss_cons (ps_if (pt_cmpR op_eq (pe_ix (kx_ix (K := K)) (pv 1) pe_int (fun _ _ => rfl)) pe_str (nomark _))
          (pss_one (ps_ret (C8.pe_c c_law_pi_is_lead hr (by decide) (by rfl) (pa_cons (pv 0) (pa_cons (pe_ix (kx_ix (K := K)) (pv 1) pe_int (fun _ _ => rfl)) (pa_cons (pe_ix (kx_ix (K := K)) (pv 1) pe_int (fun _ _ => rfl)) pa_nil))))))
          pss_nil)
      (pss_cons (ps_if (pt_cmpR op_eq (pe_ix (kx_ix (K := K)) (pv 1) pe_int (fun _ _ => rfl)) pe_str (nomark _))
          (pss_one (ps_ret (pe_cmp (pc_din hu (pe_ix (kx_ix (K := K)) (pv 1) pe_int (fun _ _ => rfl)) (pv 3)) rfl)))
          pss_nil)
      (pss_cons (ps_asg (pe_slice (kx_slT (K := K)) (pv 1) (po_some pe_int) po_none) (kx_gtup (K := K) (n := 3) (by rfl) (pgs_cons (pg_name (i := 6) sc_law_pi_is_let.nd rfl (.inl rfl)) (pgs_cons (pg_name (i := 7) sc_law_pi_is_let.nd rfl (.inl rfl)) (pgs_cons (pg_name (i := 8) sc_law_pi_is_let.nd rfl (.inl rfl)) pgs_nil)))))
      (pss_cons (ps_if (PW.pt (pw_or (pt_cmp (pc_dnotin hu (pv 6) (pv 2)) rfl) (pw_or (pt_cmp (pc_dnotin hu (pv 7) (pv 3)) rfl) (pw_or1 (pt_cmpR op_gt (pe_dget hu (pv 2) (pv 6) (fun _ _ => rfl)) (pv 7) (nomark _))))))
          (pss_one (ps_ret pe_bl))
          pss_nil)
      (pss_one (ps_ret (pe_chain op_le op_le (pe_callB (cx_max rfl) (by rfl) T.z_max (by decide +kernel) (pa_cons (pe_dget hu (pv 4) (pv 7) (fun _ _ => rfl)) (pa_cons (pe_dget2 hu (pe_dget hu (pv 5) (pv 6) (fun _ _ => rfl)) (pv 7) pe_int ⟨rfl, rfl, rfl, rfl⟩) pa_nil))) (pv 8) (pe_callB (kx_len (K := K)) (by rfl) T.z_len PySem.boot_len (pa_cons (pe_dget hu (pv 3) (pv 7) (fun _ _ => rfl)) pa_nil))))))))))), ?_⟩
      walk_at "go"
      refine k_slT hp fun p1 H1 e1 hp1 => ?_
      rw [hcut] at hp1
      walk_at "go"
      refine q_di (pp.pr.monoI e1) ?_
      rw [hp0]
      refine ⟨true, rfl, ?_⟩
      walk_at "go"
      refine q_dg (pp.pr.monoI e1) hp0 fun w hw => ?_
      obtain rfl : w = .int p0 := hw
      walk_at "go"
      exact q _ H1 (fun hb => ⟨p0, hp0, of_decide_eq_true hb⟩) e1
    | lead t lot =>
      obtain ⟨pa, l, rfl, hx, hl⟩ := ha
      obtain ⟨h0, _, hs, hC⟩ := hk
      refine ⟨_, (pss_cons (ps_asg (pe_slice (kx_slT (K := K)) (pv 0) (po_some pe_int) po_none) (kx_gtup (K := K) (n := 4) (by rfl) (pgs_cons (pg_name (i := 2) sc_law_pi_is_let.nd rfl (.inl rfl)) (pgs_cons (pg_name (i := 3) sc_law_pi_is_let.nd rfl (.inl rfl)) (pgs_cons (pg_name (i := 4) sc_law_pi_is_let.nd rfl (.inl rfl)) (pgs_cons (pg_name (i := 5) sc_law_pi_is_let.nd rfl (.inl rfl)) pgs_nil))))))
      (pss_cons (ps_if (pt_cmpR op_eq (pe_ix (kx_ix (K := K)) (pv 1) pe_int (fun _ _ => rfl)) pe_str (nomark _))
          (pss_one (ps_ret (pe_and (pe_cmp (pc_din hu (pe_ix (kx_ix (K := K)) (pv 1) pe_int (fun _ _ => rfl)) (pv 2)) rfl) (pe_one (pe_cmpR op_gt (pe_ix (kx_ix (K := K)) (pv 1) pe_int (fun _ _ => rfl)) (pe_dget hu (pv 2) (pe_ix (kx_ix (K := K)) (pv 1) pe_int (fun _ _ => rfl)) (fun _ _ => rfl)) (nomark _))))))
          pss_nil)
      (pss_cons (ps_if (pt_cmpR op_eq (pe_ix (kx_ix (K := K)) (pv 1) pe_int (fun _ _ => rfl)) pe_str (nomark _))
          (pss_one (ps_ret (C8.pe_c c_law_pi_is_lead hr (by decide) (by rfl) (pa_cons (pv 0) (pa_cons (pe_ix (kx_ix (K := K)) (pv 1) pe_int (fun _ _ => rfl)) (pa_cons (pe_ix (kx_ix (K := K)) (pv 1) pe_int (fun _ _ => rfl)) pa_nil))))))
          pss_nil)
      (pss_cons (ps_if (pt_cmpR op_eq (pe_ix (kx_ix (K := K)) (pv 1) pe_int (fun _ _ => rfl)) pe_str (nomark _))
          (pss_one (ps_ret (pe_cmp (pc_din hu (pe_ix (kx_ix (K := K)) (pv 1) pe_int (fun _ _ => rfl)) (pv 3)) rfl)))
          pss_nil)
      (pss_cons (ps_asg (pe_slice (kx_slT (K := K)) (pv 1) (po_some pe_int) po_none) (kx_gtup (K := K) (n := 3) (by rfl) (pgs_cons (pg_name (i := 6) sc_law_pi_is_let.nd rfl (.inl rfl)) (pgs_cons (pg_name (i := 7) sc_law_pi_is_let.nd rfl (.inl rfl)) (pgs_cons (pg_name (i := 8) sc_law_pi_is_let.nd rfl (.inl rfl)) pgs_nil)))))
      (pss_cons (ps_if (PW.pt (pw_or (pt_cmp (pc_dnotin hu (pv 6) (pv 2)) rfl) (pw_or (pt_cmp (pc_dnotin hu (pv 7) (pv 3)) rfl) (pw_or1 (pt_cmpR op_gt (pe_dget hu (pv 2) (pv 6) (fun _ _ => rfl)) (pv 7) (nomark _))))))
          (pss_one (ps_ret pe_bl))
          pss_nil)
      (pss_one (ps_ret (pe_chain op_le op_le (pe_callB (cx_max rfl) (by rfl) T.z_max (by decide +kernel) (pa_cons (pe_dget hu (pv 4) (pv 7) (fun _ _ => rfl)) (pa_cons (pe_dget2 hu (pe_dget hu (pv 5) (pv 6) (fun _ _ => rfl)) (pv 7) pe_int ⟨rfl, rfl, rfl, rfl⟩) pa_nil))) (pv 8) (pe_callB (kx_len (K := K)) (by rfl) T.z_len PySem.boot_len (pa_cons (pe_dget hu (pv 3) (pv 7) (fun _ _ => rfl)) pa_nil))))))))))), ?_⟩
      walk_at "go"
      refine k_slT hp fun p1 H1 e1 hp1 => ?_
      rw [hcut] at hp1
      walk_at "go"
      exact ⟨.ref p, s, n, t, l, lot, rfl, h.mono e1, S, sm_T e1 hl, hs, hC, h0, fun b H' hb e => q b H' hb (e1.trans e)⟩
    | append t en =>
      obtain ⟨pa, d, rfl, hx, hd⟩ := ha
      refine ⟨_, (pss_cons (ps_asg (pe_slice (kx_slT (K := K)) (pv 0) (po_some pe_int) po_none) (kx_gtup (K := K) (n := 4) (by rfl) (pgs_cons (pg_name (i := 2) sc_law_pi_is_let.nd rfl (.inl rfl)) (pgs_cons (pg_name (i := 3) sc_law_pi_is_let.nd rfl (.inl rfl)) (pgs_cons (pg_name (i := 4) sc_law_pi_is_let.nd rfl (.inl rfl)) (pgs_cons (pg_name (i := 5) sc_law_pi_is_let.nd rfl (.inl rfl)) pgs_nil))))))
      (pss_cons (ps_if (pt_cmpR op_eq (pe_ix (kx_ix (K := K)) (pv 1) pe_int (fun _ _ => rfl)) pe_str (nomark _))
          (pss_one (ps_ret (pe_and (pe_cmp (pc_din hu (pe_ix (kx_ix (K := K)) (pv 1) pe_int (fun _ _ => rfl)) (pv 2)) rfl) (pe_one (pe_cmpR op_gt (pe_ix (kx_ix (K := K)) (pv 1) pe_int (fun _ _ => rfl)) (pe_dget hu (pv 2) (pe_ix (kx_ix (K := K)) (pv 1) pe_int (fun _ _ => rfl)) (fun _ _ => rfl)) (nomark _))))))
          pss_nil)
      (pss_cons (ps_if (pt_cmpR op_eq (pe_ix (kx_ix (K := K)) (pv 1) pe_int (fun _ _ => rfl)) pe_str (nomark _))
          (pss_one (ps_ret (C8.pe_c c_law_pi_is_lead hr (by decide) (by rfl) (pa_cons (pv 0) (pa_cons (pe_ix (kx_ix (K := K)) (pv 1) pe_int (fun _ _ => rfl)) (pa_cons (pe_ix (kx_ix (K := K)) (pv 1) pe_int (fun _ _ => rfl)) pa_nil))))))
          pss_nil)
      (pss_cons (ps_if (pt_cmpR op_eq (pe_ix (kx_ix (K := K)) (pv 1) pe_int (fun _ _ => rfl)) pe_str (nomark _))
          (pss_one (ps_ret (pe_cmp (pc_din hu (pe_ix (kx_ix (K := K)) (pv 1) pe_int (fun _ _ => rfl)) (pv 3)) rfl)))
          pss_nil)
      (pss_cons (ps_asg (pe_slice (kx_slT (K := K)) (pv 1) (po_some pe_int) po_none) (kx_gtup (K := K) (n := 3) (by rfl) (pgs_cons (pg_name (i := 6) sc_law_pi_is_let.nd rfl (.inl rfl)) (pgs_cons (pg_name (i := 7) sc_law_pi_is_let.nd rfl (.inl rfl)) (pgs_cons (pg_name (i := 8) sc_law_pi_is_let.nd rfl (.inl rfl)) pgs_nil)))))
      (pss_cons (ps_if (PW.pt (pw_or (pt_cmp (pc_dnotin hu (pv 6) (pv 2)) rfl) (pw_or (pt_cmp (pc_dnotin hu (pv 7) (pv 3)) rfl) (pw_or1 (pt_cmpR op_gt (pe_dget hu (pv 2) (pv 6) (fun _ _ => rfl)) (pv 7) (nomark _))))))
          (pss_one (ps_ret pe_bl))
          pss_nil)
      (pss_one (ps_ret (pe_chain op_le op_le (pe_callB (cx_max rfl) (by rfl) T.z_max (by decide +kernel) (pa_cons (pe_dget hu (pv 4) (pv 7) (fun _ _ => rfl)) (pa_cons (pe_dget2 hu (pe_dget hu (pv 5) (pv 6) (fun _ _ => rfl)) (pv 7) pe_int ⟨rfl, rfl, rfl, rfl⟩) pa_nil))) (pv 8) (pe_callB (kx_len (K := K)) (by rfl) T.z_len PySem.boot_len (pa_cons (pe_dget hu (pv 3) (pv 7) (fun _ _ => rfl)) pa_nil))))))))))), ?_⟩
      walk_at "go"
      refine k_slT hp fun p1 H1 e1 hp1 => ?_
      rw [hcut] at hp1
      walk_at "go"
      refine q_di (pp.rw.monoR e1) ?_
      exact q _ H1 (fun hb => hb) e1
    | vote h0 t m =>
      obtain ⟨pa, rfl, hx⟩ := ha
      obtain ⟨hC, _, _, _, _⟩ := hk
      obtain ⟨p0, hp0⟩ := prom_val S hC
      obtain ⟨fv, hfv⟩ := vote_dict S hC
      refine ⟨_, (pss_cons (ps_asg (pe_slice (kx_slT (K := K)) (pv 0) (po_some pe_int) po_none) (kx_gtup (K := K) (n := 4) (by rfl) (pgs_cons (pg_name (i := 2) sc_law_pi_is_let.nd rfl (.inl rfl)) (pgs_cons (pg_name (i := 3) sc_law_pi_is_let.nd rfl (.inl rfl)) (pgs_cons (pg_name (i := 4) sc_law_pi_is_let.nd rfl (.inl rfl)) (pgs_cons (pg_name (i := 5) sc_law_pi_is_let.nd rfl (.inl rfl)) pgs_nil))))))
      (pss_cons (ps_if (pt_cmpR op_eq (pe_ix (kx_ix (K := K)) (pv 1) pe_int (fun _ _ => rfl)) pe_str (nomark _))
          (pss_one (ps_ret (pe_and (pe_cmp (pc_din hu (pe_ix (kx_ix (K := K)) (pv 1) pe_int (fun _ _ => rfl)) (pv 2)) rfl) (pe_one (pe_cmpR op_gt (pe_ix (kx_ix (K := K)) (pv 1) pe_int (fun _ _ => rfl)) (pe_dget hu (pv 2) (pe_ix (kx_ix (K := K)) (pv 1) pe_int (fun _ _ => rfl)) (fun _ _ => rfl)) (nomark _))))))
          pss_nil)
      (pss_cons (ps_if (pt_cmpR op_eq (pe_ix (kx_ix (K := K)) (pv 1) pe_int (fun _ _ => rfl)) pe_str (nomark _))
          (pss_one (ps_ret (C8.pe_c c_law_pi_is_lead hr (by decide) (by rfl) (pa_cons (pv 0) (pa_cons (pe_ix (kx_ix (K := K)) (pv 1) pe_int (fun _ _ => rfl)) (pa_cons (pe_ix (kx_ix (K := K)) (pv 1) pe_int (fun _ _ => rfl)) pa_nil))))))
          pss_nil)
      (pss_cons (ps_if (pt_cmpR op_eq (pe_ix (kx_ix (K := K)) (pv 1) pe_int (fun _ _ => rfl)) pe_str (nomark _))
          (pss_one (ps_ret (pe_cmp (pc_din hu (pe_ix (kx_ix (K := K)) (pv 1) pe_int (fun _ _ => rfl)) (pv 3)) rfl)))
          pss_nil)
      (pss_cons (ps_asg (pe_slice (kx_slT (K := K)) (pv 1) (po_some pe_int) po_none) (kx_gtup (K := K) (n := 3) (by rfl) (pgs_cons (pg_name (i := 6) sc_law_pi_is_let.nd rfl (.inl rfl)) (pgs_cons (pg_name (i := 7) sc_law_pi_is_let.nd rfl (.inl rfl)) (pgs_cons (pg_name (i := 8) sc_law_pi_is_let.nd rfl (.inl rfl)) pgs_nil)))))
      (pss_cons (ps_if (PW.pt (pw_or (pt_cmp (pc_dnotin hu (pv 6) (pv 2)) rfl) (pw_or (pt_cmp (pc_dnotin hu (pv 7) (pv 3)) rfl) (pw_or1 (pt_cmpR op_gt (pe_dget hu (pv 2) (pv 6) (fun _ _ => rfl)) (pv 7) (nomark _))))))
          (pss_one (ps_ret pe_bl))
          pss_nil)
      (pss_one (ps_ret (pe_chain op_le op_le (pe_callB (cx_max rfl) (by rfl) T.z_max (by decide +kernel) (pa_cons (pe_dget hu (pv 4) (pv 7) (fun _ _ => rfl)) (pa_cons (pe_dget2 hu (pe_dget hu (pv 5) (pv 6) (fun _ _ => rfl)) (pv 7) pe_int ⟨rfl, rfl, rfl, rfl⟩) pa_nil))) (pv 8) (pe_callB (kx_len (K := K)) (by rfl) T.z_len PySem.boot_len (pa_cons (pe_dget hu (pv 3) (pv 7) (fun _ _ => rfl)) pa_nil))))))))))), ?_⟩
      walk_at "go"
      refine k_slT hp fun p1 H1 e1 hp1 => ?_
      rw [hcut] at hp1
      walk_at "go"
      refine k_slT (sm_T e1 hx) fun p2 H2 e2 hp2 => ?_
      rw [show cutV [V.str "vote", V.int h0, V.int t, V.int m] (some 1) none = [V.int h0, V.int t, V.int m] from rfl] at hp2
      have e12 := e1.trans e2
      walk_at "go"
      refine q_dn (pp.pr.monoI e12) ?_
      rw [hp0]
      refine k_bl ?_
      refine k_no rfl ?_
      walk_at "go"
      refine q_dn (pp.rw.monoR e12) ?_
      cases hrt : s.rw t with
      | none =>
        refine k_bl ?_
        refine k_yes rfl ?_
        walk_at "go"
        exact q false H2 (fun z => nomatch z) e12
      | some r =>
        obtain ⟨f, hf⟩ := Option.isSome_iff_exists.mp (show (s.fs t).isSome = true by rw [S.fsk, hrt]; rfl)
        refine k_bl ?_
        refine k_no rfl ?_
        walk_at "go"
        refine q_dg (pp.pr.monoI e12) hp0 fun w hw => ?_
        obtain rfl : w = .int p0 := hw
        walk_at "go"
        refine k_iteD (fun hle => ?_) fun hle => ?_
        · walk_at "go"
          exact q false H2 (fun z => nomatch z) e12
        · walk_at "go"
          refine q_dg (pp.fs.monoI e12) hf fun w hw => ?_
          obtain rfl : w = .int f := hw
          walk_at "go"
          refine q_dg (pp.vt.monoD e12) hfv fun u hu2 => ?_
          refine q_g2 hu2 (by rfl) fun o ho => ?_
          rw [vn_of hfv ho]
          walk_at "go"
          refine k_iteD (fun hle2 => ?_) fun hle2 => ?_
          · walk_at "go"
            refine q_dg (pp.rw.monoR e12) hrt fun w hw => ?_
            obtain ⟨ra, rx, rfl, hrx, hrl, _⟩ := row_len hw
            walk_at "go"
            refine q _ H2 (fun hb => ⟨p0, r, f, hp0, hrt, hf, by omega, ?_, ?_, ?_⟩) e12
            · split at hle2 <;> omega
            · split at hle2 <;> omega
            · have := of_decide_eq_true hb; rw [hrl] at this; exact this
          · exact q false H2 (fun z => nomatch z) e12
end

/-! W25 -/
section
variable {P : Program} {w : World} {K : PySem.W.Frag} {mg : Str → Option Value} {base : Heap} {a : Adr}

/-! ### freezing many -/
def cutL (H : Hp) (L : List Addr) : Hp := fun a => if a ∈ L then none else H a
theorem cutL_in {H : Hp} {L : List Addr} {x : Addr} (h : x ∈ L) : cutL H L x = none := if_pos h
theorem cutL_ne {H : Hp} {L : List Addr} {x : Addr} (h : ¬ x ∈ L) : cutL H L x = H x := if_neg h
theorem cutL_le {H : Hp} {L : List Addr} : Same (cutL H L) H := fun x u h => by
  by_cases e : x ∈ L
  · rw [cutL_in e] at h; cases h
  · rw [cutL_ne e] at h; exact h
theorem cutL_of {B H : Hp} {L : List Addr} (e : Same B H) (h : ∀ x ∈ L, B x = none) : Same B (cutL H L) := fun x u hx => by
  by_cases z : x ∈ L
  · rw [h x z] at hx; cases hx
  · rw [cutL_ne z]; exact e _ _ hx
theorem cutL_upd {H : Hp} {L : List Addr} {d : Addr} {o : HO} (h : d ∈ L) : Same (cutL H L) (upd H d o) := sm_mut cutL_le (cutL_in h)
def AllD (H : Hp) (L : List Addr) : Prop := ∀ d ∈ L, ∃ k, H d = some (.dK k)
section
variable {H : Hp} {L : List Addr} (hL : AllD H L)
include hL
theorem cutL_T {x : Addr} {xs : List V} (h : SqT K H x xs) : SqT K (cutL H L) x xs := by
  rcases h with (h | ⟨o, h⟩) | h
  · have : ¬ x ∈ L := fun z => by obtain ⟨k, hk⟩ := hL x z; rw [hk] at h; cases h
    exact .inl (.inl (by rw [cutL_ne this]; exact h))
  · have : ¬ x ∈ L := fun z => by obtain ⟨k, hk⟩ := hL x z; rw [hk] at h; cases h
    exact .inl (.inr ⟨o, by rw [cutL_ne this]; exact h⟩)
  · exact .inr h
theorem cutL_deed {v : V} {k : Nat} (h : DeedAt K H v k) : DeedAt K (cutL H L) v k := by
  obtain ⟨a, rfl, h⟩ := h
  refine ⟨a, rfl, ?_⟩
  rcases h with ⟨h, g⟩ | ⟨h, g⟩ | ⟨h, c, g, g2⟩
  · exact .inl ⟨h, cutL_T hL g⟩
  · exact .inr (.inl ⟨h, cutL_T hL g⟩)
  · exact .inr (.inr ⟨h, c, cutL_T hL g, cutL_T hL g2⟩)
theorem cutL_ent {v : V} {x : Pm.En} (h : EntAt K H v x) : EntAt K (cutL H L) v x := by
  obtain ⟨a, d, rfl, h, g⟩ := h
  exact ⟨a, d, rfl, cutL_T hL h, cutL_deed hL g⟩
theorem cutL_row {v : V} {r : List Pm.En} (h : RowAt K H v r) : RowAt K (cutL H L) v r := by
  obtain ⟨a, xs, rfl, h, g⟩ := h
  exact ⟨a, xs, rfl, cutL_T hL h, Paired.mapP g fun _ _ z => cutL_ent hL z⟩
end
theorem nodup_of : ∀ L : List Addr, ∃ L' : List Addr, L'.Nodup ∧ ∀ x, x ∈ L' ↔ x ∈ L
  | [] => ⟨[], List.nodup_nil, fun _ => Iff.rfl⟩
  | a :: r => by
    obtain ⟨L', h1, h2⟩ := nodup_of r
    by_cases h : a ∈ L'
    · refine ⟨L', h1, fun x => ?_⟩
      rw [h2, List.mem_cons]
      constructor
      · exact .inr
      · rintro (rfl | h3)
        · exact (h2 _).mp h
        · exact h3
    · exact ⟨a :: L', List.nodup_cons.mpr ⟨h, h1⟩, fun x => by rw [List.mem_cons, List.mem_cons, h2]⟩
theorem fz_many {R : Hp → Prop} : ∀ (L : List Addr) (H : Hp), L.Nodup → AllD H L →
    (∀ H', (∀ x, ¬ x ∈ L → H' x = H x) → (∀ d ∈ L, ∀ k, H d = some (.dK k) → ∃ o, H' d = some (.frz o (.dK k))) → R H') → FzAll L R H
  | [], H, _, _, q => q H (fun _ _ => rfl) (fun _ h => by cases h)
  | d :: L, H, hn, hL, q => by
    obtain ⟨h1, h2⟩ := List.nodup_cons.mp hn
    obtain ⟨k, hk⟩ := hL d List.mem_cons_self
    refine ⟨.dK k, hk, True.intro, fun od => ?_⟩
    have ne : ∀ x ∈ L, x ≠ d := fun x hx z => h1 (z ▸ hx)
    refine fz_many L _ h2 (fun x hx => ?_) fun H' g1 g2 => ?_
    · obtain ⟨k2, hk2⟩ := hL x (List.mem_cons_of_mem _ hx)
      exact ⟨k2, by rw [upd_ne (ne x hx)]; exact hk2⟩
    · refine q H' (fun x hx => ?_) fun x hx k2 hk2 => ?_
      · rw [g1 x (fun z => hx (List.mem_cons_of_mem _ z)), upd_ne (fun z => hx (by rw [z]; exact List.mem_cons_self))]
      · rcases List.mem_cons.mp hx with rfl | hx
        · rw [hk] at hk2
          cases hk2
          exact ⟨od, by rw [g1 x h1, upd_same]⟩
        · exact g2 x hx k2 (by rw [upd_ne (ne x hx)]; exact hk2)
/-- the parts, not yet frozen -/
structure MParts (K : PySem.W.Frag) (H : Hp) (vc : V) (pd rd fd vd : Addr) (ds : List Addr) (s : Pm.St) (n : Nat) : Prop where
  cir : CirAt K H vc s.C
  pr : ∃ k, H pd = some (.dK k) ∧ Cont (RI H) k s.pr 7
  rw : ∃ k, H rd = some (.dK k) ∧ Cont (RowAt K H) k s.rw n
  fs : ∃ k, H fd = some (.dK k) ∧ Cont (RI H) k s.fs n
  vt : ∃ k, H vd = some (.dK k) ∧ Cont (fun v f => ∃ d, v = .ref d ∧ d ∈ ds ∧ ∃ k, H d = some (.dK k) ∧ Cont (RI H) k f n) k s.vt 7
  all : AllD H ds
theorem fz_lpic {H : Hp} {vc : V} {pd rd fd vd pt : Addr} {ds : List Addr} {s : Pm.St} {n : Nat} {Q : VK} (m : MParts K H vc pd rd fd vd ds s n) (hp : SqT K H pt [vc, .ref pd, .ref rd, .ref fd, .ref vd])
    (q : ∀ H', Same (cutL H (pd :: rd :: fd :: vd :: ds)) H' → LPic K H' (.ref pt) s n → Q (.ref pt) H') : FzQ (.ref pt) H Q := by
  obtain ⟨L, hn, hm⟩ := nodup_of (pd :: rd :: fd :: vd :: ds)
  obtain ⟨kp, hp1, cp⟩ := m.pr
  obtain ⟨kr, hr1, cr⟩ := m.rw
  obtain ⟨kf, hf1, cf⟩ := m.fs
  obtain ⟨kv, hv1, cv⟩ := m.vt
  have hA0 : AllD H (pd :: rd :: fd :: vd :: ds) := fun d hd => by
    simp only [List.mem_cons] at hd
    rcases hd with rfl | rfl | rfl | rfl | hd
    · exact ⟨_, hp1⟩
    · exact ⟨_, hr1⟩
    · exact ⟨_, hf1⟩
    · exact ⟨_, hv1⟩
    · exact m.all d hd
  have hA : AllD H L := fun d hd => hA0 d ((hm d).mp hd)
  refine ⟨L, fz_many L H hn hA fun H' g1 g2 => ?_⟩
  have e : Same (cutL H (pd :: rd :: fd :: vd :: ds)) H' := fun x u hx => by
    by_cases z : x ∈ (pd :: rd :: fd :: vd :: ds)
    · rw [cutL_in z] at hx; cases hx
    · rw [cutL_ne z] at hx
      rw [g1 x (fun h => z ((hm x).mp h))]; exact hx
  have mem : ∀ d, d ∈ (pd :: rd :: fd :: vd :: ds) → ∀ k, H d = some (.dK k) → ∃ o, H' d = some (.frz o (.dK k)) := fun d hd k hk => g2 d ((hm d).mpr hd) k hk
  refine q H' e ⟨pt, _, _, _, _, _, rfl, sm_T e (cutL_T hA0 hp), ?_, ?_, ?_, ?_, ?_⟩
  · obtain ⟨a, rfl, hc⟩ := m.cir
    exact ⟨a, rfl, sm_T e (cutL_T hA0 hc)⟩
  · obtain ⟨o, ho⟩ := mem pd (by simp) _ hp1
    exact ⟨pd, o, kp, rfl, ho, cp⟩
  · obtain ⟨o, ho⟩ := mem rd (by simp) _ hr1
    exact ⟨rd, o, kr, rfl, ho, cr.imp fun _ _ z => (cutL_row hA0 z).mono e⟩
  · obtain ⟨o, ho⟩ := mem fd (by simp) _ hf1
    exact ⟨fd, o, kf, rfl, ho, cf⟩
  · obtain ⟨o, ho⟩ := mem vd (by simp) _ hv1
    refine ⟨vd, o, kv, rfl, ho, cv.imp fun v f z => ?_⟩
    obtain ⟨d, rfl, hd, k, hk, c⟩ := z
    obtain ⟨o2, ho2⟩ := mem d (by simp [hd]) _ hk
    exact ⟨d, o2, k, rfl, ho2, c⟩
/-- a comprehension whose values each bring a new thing d -/
theorem lc_objN {α : Type} {J : It} {n : Nat} {G : Hp → Prop} {Y : Nat → Hp → V → Hp → Prop} {g : TG} {tt : TT} {te : TE} {vs : List Nat} {σ : L2.St} {H1 : Hp} {Q : VK} (w : Walk J n G Y) (l : List α) (R : Hp → V → α → Addr → Prop) (mono : ∀ {H H' : Hp} {v : V} {x : α} {d : Addr}, Same H H' → R H v x d → R H' v x d) (kn : ∀ {H : Hp} {v : V} {x : α} {d : Addr}, R H v x d → ∃ u, H d = some u) (hn : l.length = n) (hz : n ≤ 1000000) (hG : ∀ H', Same H1 H' → G H')
    (turn : ∀ (i : Nat) (x : α) v B Ha Hb D, l[i]? = some x → Same H1 B → B D = none → (∃ u, Ha D = some u) → Same B Ha → Y i Ha v Hb → ∀ (Ky : V → Hp → Prop) (Kn : Hp → Prop), (∀ y d B' H', B d = none → Same B B' → B' D = none → Same B' H' → Same Ha H' → R B' y x d → Ky y H') →
      g v (wipe σ vs) Hb fun σ2 H2 => wipe σ2 vs = wipe σ vs ∧ tt σ2 H2 fun b H3 => if b = true then te σ2 H3 Ky else Kn H3)
    (q : ∀ D H' ys ps, H1 D = none → Same H1 H' → H' D = some (.lst ys) → ps.map (·.1) = l → (ps.map (·.2)).Nodup → (∀ p ∈ ps, H1 p.2 = none ∧ p.2 ≠ D) → Paired (fun y (p : α × Addr) => R H' y p.1 p.2) ys ps → Q (.ref D) H') : LcGo J g tt te vs σ H1 Q := by
  subst hn
  intro D hD
  refine lc_it w (fun i H => ∃ B ys ps, Same H1 B ∧ B D = none ∧ Same B H ∧ H D = some (.lst ys) ∧ ps.map (·.1) = l.take i ∧ (ps.map (·.2)).Nodup ∧ (∀ p ∈ ps, H1 p.2 = none ∧ p.2 ≠ D) ∧ Paired (fun y (p : α × Addr) => R B y p.1 p.2) ys ps)
    ⟨H1, [], [], Same.refl _, hD, sm_new hD, upd_same, by simp, List.nodup_nil, fun _ h => (by cases h), .nil⟩ (fun i H _ ⟨B, ys, ps, e, _, e', _⟩ => hG H (e.trans e')) (fun i v H H' hi ⟨B, ys, ps, e, bd, e', hd, hl, hnd, hf, hp⟩ y => ?_) fun H ⟨B, ys, ps, e, bd, e', hd, hl, hnd, hf, hp⟩ => ?_
  · have hx : l[i]? = some l[i] := List.getElem?_eq_getElem hi
    refine turn i l[i] v B H H' D hx e bd ⟨_, hd⟩ e' y _ _ (fun z d B' H4 hbd eb bd' eb' e4 hr => ?_)
    have hlen : ys.length ≤ l.length := by
      have h0 := Paired.length hp
      have h1 := congrArg List.length hl
      rw [List.length_map, List.length_take] at h1
      omega
    refine ⟨ys, e4 _ _ hd, by rw [sizeLine_eq]; omega, B', ys ++ [z], ps ++ [(l[i], d)], e.trans eb, bd', sm_mut eb' bd', upd_same, ?_, ?_, ?_, paired_snoc (Paired.mapP hp fun _ _ r => mono eb r) hr⟩
    · rw [List.map_append, hl, List.take_add_one, hx]; rfl
    · rw [List.map_append, List.nodup_append]
      refine ⟨hnd, by simp, fun a ha b hb => ?_⟩
      have : b = d := by simpa using hb
      subst this
      rintro rfl
      obtain ⟨p, hp2, ep⟩ := List.mem_map.mp ha
      have key : ∀ {ys : List V} {ps : List (α × Addr)}, Paired (fun y (p : α × Addr) => R B y p.1 p.2) ys ps → ∀ p ∈ ps, ∃ u, B p.2 = some u := by
        intro ys ps hp
        induction hp with
        | nil => intro p h; cases h
        | cons h t ih =>
          intro p hm
          rcases List.mem_cons.mp hm with rfl | hm
          · exact kn h
          · exact ih p hm
      obtain ⟨u, hu⟩ := key hp p hp2
      rw [ep, hbd] at hu; cases hu
    · intro p hm
      rcases List.mem_append.mp hm with hm | hm
      · exact hf p hm
      · have : p = (l[i], d) := by simpa using hm
        subst this
        obtain ⟨u, hu⟩ := kn hr
        refine ⟨?_, fun z => by simp only at z; rw [z, bd'] at hu; cases hu⟩
        cases h : H1 d with
        | none => rfl
        | some u2 => have := e _ _ h; rw [hbd] at this; cases this
  · rw [List.take_length] at hl
    exact q D H ys ps hD (e.trans e') hd hl hnd hf (Paired.mapP hp fun _ _ r => mono e' r)
end

/-! W26 -/
section
variable {P : Program} {w : World} {K : PySem.W.Frag} {mg : Str → Option Value} {base : Heap} {a : Adr}

theorem q_dictP {α : Type} {R : Hp → V → α → Prop} {H : Hp} {Q : VK} {l : Addr} {ys : List V} {kvs : List (Key × V)} (h : H l = some (.lst ys)) (hp : Paired (fun y (kv : Key × V) => ∃ p, y = .ref p ∧ SqT K H p [kV kv.1, kv.2]) ys kvs) (hn : (kvs.map (·.1)).Nodup) (q : NewR (.dK kvs) H Q) : rDictP K [.ref l] H Q := by
  have key : ∀ {ys : List V} {kvs : List (Key × V)}, Paired (fun y (kv : Key × V) => ∃ p, y = .ref p ∧ SqT K H p [kV kv.1, kv.2]) ys kvs → ∃ ps : List Addr, ys = ps.map V.ref ∧ Paired (fun p (kv : Key × V) => SqT K H p [kV kv.1, kv.2]) ps kvs := by
    intro ys kvs hp
    induction hp with
    | nil => exact ⟨[], rfl, .nil⟩
    | cons h t ih =>
      obtain ⟨p, rfl, hp⟩ := h
      obtain ⟨ps, e, g⟩ := ih
      exact ⟨p :: ps, by rw [e]; rfl, .cons hp g⟩
  obtain ⟨ps, e, g⟩ := key hp
  refine ⟨l, ps, kvs, rfl, .inl (.inl (by rw [h, e])), g, ?_⟩
  rw [show mergeK [] kvs = kvs from merge_nil hn]
  exact q
def sp_lfirst (K : PySem.W.Frag) : Sp := fun vs H Q _ => ∃ c C, vs = [.ref c] ∧ SqT K H c (C.map V.int) ∧ Pm.Circ C ∧ ∀ v H', Same H H' → LPic K H' v (Pm.first C) 0 → Q v H'
theorem keys_nd {C : List Int} (h : C.Nodup) {α : Type} (f : Int → α) : ((C.map fun h => ((Sum.inl h : Key), f h)).map (·.1)).Nodup := by
  rw [List.map_map]
  exact List.Pairwise.map _ (fun a b h z => h (by cases z; rfl)) h
abbrev s_law_pi_first : Stmt := (top 86)
abbrev N_law_pi_first : List Str := ["_law_circle", "_law_house"]
theorem sc_law_pi_first : FnScope N_law_pi_first ["_law_circle"] (C8.fnScope s_law_pi_first) := C8.fnScope_by (by decide +kernel)
theorem ok_law_pi_first (D : DefX K mg "_law_pi_first" "_law_pi_first" s_law_pi_first ["_law_circle"]) (T : Txt K mg a)   : C8.Cal P w K mg base 1 "_law_pi_first" (sp_lfirst K) [] :=
  calX D sc_law_pi_first (fun vs H Q E h => by obtain ⟨c, C, rfl, hc, hC, q⟩ := h; rfl) fun f cdv A outer s H vs Q E hr h => by
    have hu := hu_of hr
    obtain ⟨c, C, rfl, hc, hC, q⟩ := h
    refine ⟨_, (pss_one (ps_ret (pe_fz (pe_tup (pa_cons (pv 0) (pa_cons (pe_callTy (kx_dictP (K := K) rfl) (by rfl) T.z_dict (by decide +kernel) (pa_cons (pe_lc (own := [("_law_house", 1)]) rfl sc_law_pi_first.nd (kx_tup (K := K) (pv 0)) (blkOk_by (N := N_law_pi_first) (sc := (C8.fnScope s_law_pi_first)) (by decide +kernel)) (fun _ _ _ _ _ => (pg_name (i := 1) sc_law_pi_first.nd rfl (.inl rfl))) (fun _ _ _ _ _ => pts_nil) (fun _ _ _ _ _ => (pe_tup (pa_cons (pv 1) (pa_cons (pe_un un_neg pe_int) pa_nil))))) pa_nil)) (pa_cons pe_dnewK (pa_cons pe_dnewK (pa_cons (pe_callTy (kx_dictP (K := K) rfl) (by rfl) T.z_dict (by decide +kernel) (pa_cons (pe_lc (own := [("_law_house", 1)]) rfl sc_law_pi_first.nd (kx_tup (K := K) (pv 0)) (blkOk_by (N := N_law_pi_first) (sc := (C8.fnScope s_law_pi_first)) (by decide +kernel)) (fun _ _ _ _ _ => (pg_name (i := 1) sc_law_pi_first.nd rfl (.inl rfl))) (fun _ _ _ _ _ => pts_nil) (fun _ _ _ _ _ => (pe_tup (pa_cons (pv 1) (pa_cons pe_dnewK pa_nil))))) pa_nil)) pa_nil))))))))), ?_⟩
    have h7 := hC.le
    have hCn := Pm.up_nodup hC.up
    refine kw_fz ?_
    walk_at "go"
    refine lc_obj walk_tup C (fun _ => true) (fun H v x => ∃ p, v = .ref p ∧ SqT K H p [.int x, .int (-1)]) (fun {H H' v x} e z => ?_) (by rw [List.length_map]) (by rw [List.length_map]; omega) (fun _ e => sm_T e hc) (fun i x y B Ha Hb D hx eb bd hD eB yy Ky Kn ky kn => ?_) fun D1 H1 ys hD1 e1 hl1 hp1 => ?_
    · obtain ⟨p, rfl, h⟩ := z
      exact ⟨p, rfl, sm_T e h⟩
    · obtain ⟨rfl, hy⟩ := yy
      rw [List.getElem?_map, hx] at hy
      obtain rfl : V.int x = y := Option.some.inj hy
      walk_at "go"
      refine NewR.mk fun p H2 hp e2 hp2 => ?_
      obtain ⟨g1, g2, g3⟩ := grow eB bd hD hp e2 hp2
      exact ky _ _ _ g1 g3 g2 e2 rfl ⟨p, rfl, .inl (.inl upd_same)⟩
    · rw [List.filter_eq_self.mpr fun _ _ => rfl] at hp1
      walk_at "go"
      have key : ∀ {ys : List V} {C : List Int}, Paired (fun v x => ∃ p, v = .ref p ∧ SqT K H1 p [.int x, .int (-1)]) ys C → Paired (fun y (kv : Key × V) => ∃ p, y = .ref p ∧ SqT K H1 p [kV kv.1, kv.2]) ys (C.map fun h => (Sum.inl h, V.int (-1))) := by
        intro ys C hp
        induction hp with
        | nil => exact .nil
        | cons h t ih => exact .cons h ih
      refine q_dictP (R := fun _ _ (_ : Int) => True) hl1 (key hp1) (keys_nd hCn _) ?_
      refine NewR.mk fun pd H2 hn2 e2 hpd => ?_
      walk_at "go"
      refine NewR.mk fun rd H3 hn3 e3 hrd => ?_
      walk_at "go"
      refine NewR.mk fun fd H4 hn4 e4 hfd => ?_
      walk_at "go"
      have e04 := e1.trans (e2.trans (e3.trans e4))
      refine lc_objN walk_tup C (fun H v x d => ∃ p, v = .ref p ∧ SqT K H p [.int x, .ref d] ∧ H d = some (.dK [])) (fun {H H' v x d} e z => ?_) (fun {H v x d} z => ?_) (by rw [List.length_map]) (by rw [List.length_map]; omega) (fun _ e => sm_T (e04.trans e) hc) (fun i x y B Ha Hb D hx eb bd hD eB yy Ky Kn ky => ?_) fun D5 H5 ys5 ps5 hD5 e5 hl5 hm5 hnd5 hf5 hp5 => ?_
      · obtain ⟨p, rfl, h, g⟩ := z
        exact ⟨p, rfl, sm_T e h, e _ _ g⟩
      · obtain ⟨p, rfl, h, g⟩ := z
        exact ⟨_, g⟩
      · obtain ⟨rfl, hy⟩ := yy
        rw [List.getElem?_map, hx] at hy
        obtain rfl : V.int x = y := Option.some.inj hy
        walk_at "go"
        refine NewR.mk fun d H6 hd e6 hd6 => ?_
        walk_at "go"
        refine NewR.mk fun p H7 hp e7 hp7 => ?_
        obtain ⟨g1, g2, g3⟩ := grow eB bd hD hd e6 hd6
        obtain ⟨u1, hu1⟩ := hD
        obtain ⟨g4, g5, g6⟩ := grow g2 g3 ⟨_, e6 _ _ hu1⟩ hp e7 hp7
        have hBd : B d = none := by
          cases h : B d with
          | none => rfl
          | some u => have := eB _ _ h; rw [hd] at this; cases this
        exact ky _ d _ _ hBd (g1.trans g4) g6 g5 (e6.trans e7) ⟨p, rfl, .inl (.inl upd_same), g4 _ _ upd_same⟩
      · walk_at "go"
        have key5 : ∀ {ys : List V} {ps : List (Int × Addr)}, Paired (fun y (p : Int × Addr) => ∃ q, y = .ref q ∧ SqT K H5 q [.int p.1, .ref p.2] ∧ H5 p.2 = some (.dK [])) ys ps → Paired (fun y (kv : Key × V) => ∃ p, y = .ref p ∧ SqT K H5 p [kV kv.1, kv.2]) ys (ps.map fun p => (Sum.inl p.1, V.ref p.2)) ∧ ∀ p ∈ ps, H5 p.2 = some (.dK []) := by
          intro ys ps hp
          induction hp with
          | nil => exact ⟨.nil, fun _ h => by cases h⟩
          | cons h t ih =>
            obtain ⟨q1, h1, h2, h3⟩ := h
            refine ⟨.cons ⟨q1, h1, h2⟩ ih.1, fun p hp => ?_⟩
            rcases List.mem_cons.mp hp with rfl | hp
            · exact h3
            · exact ih.2 p hp
        obtain ⟨k1, k2⟩ := key5 hp5
        have hkeys : (ps5.map fun p => ((Sum.inl p.1 : Key), V.ref p.2)).map (·.1) = C.map Sum.inl := by
          rw [List.map_map, ← hm5, List.map_map]; rfl
        refine q_dictP (R := fun _ _ (_ : Int) => True) hl5 k1 (by rw [hkeys]; exact List.Pairwise.map _ (fun a b h z => h (by cases z; rfl)) hCn) ?_
        refine NewR.mk fun vd H8 hn8 e8 hvd => ?_
        walk_at "go"
        refine NewR.mk fun pt H9 hn9 e9 hpt => ?_
        have e59 := e8.trans e9
        have e09 := e04.trans (e5.trans e59)
        refine fz_lpic (ds := ps5.map (·.2)) (s := Pm.first C) (n := 0) ⟨⟨c, rfl, sm_T e09 hc⟩, ⟨_, (e3.trans (e4.trans (e5.trans e59))) _ _ hpd, ?_⟩, ⟨[], (e4.trans (e5.trans e59)) _ _ hrd, .nil⟩, ⟨[], (e5.trans e59) _ _ hfd, .nil⟩, ⟨_, e9 _ _ hvd, ?_⟩, ?_⟩ (.inl (.inl hpt)) fun H' e hv => q _ H' ?_ hv
        · refine cont_of_paired (L := C) (by rw [List.map_map]; rfl) ?_ hCn (fun i h => ?_) h7
          · have kk : ∀ L : List Int, (∀ x ∈ L, x ∈ C) → Paired (fun (p : Key × V) x => ∃ y, (Pm.first C).pr x = some y ∧ RI H9 p.2 y) (L.map fun h => (Sum.inl h, V.int (-1))) L := by
              intro L
              induction L with
              | nil => intro _; exact .nil
              | cons a r ih => intro hh; exact .cons ⟨-1, if_pos (hh a List.mem_cons_self), rfl⟩ (ih fun x hx => hh x (List.mem_cons_of_mem _ hx))
            exact kk C fun _ h => h
          · replace h : (if i ∈ C then some (-1) else none : Option Int).isSome = true := h
            split at h
            · assumption
            · cases h
        · refine cont_of_paired (L := C) hkeys ?_ hCn (fun i h => ?_) h7
          · have kk : ∀ ps : List (Int × Addr), (∀ p ∈ ps, p ∈ ps5) → Paired (fun (p : Key × V) x => ∃ y, (Pm.first C).vt x = some y ∧ ∃ d, p.2 = .ref d ∧ d ∈ ps5.map (·.2) ∧ ∃ k, H9 d = some (.dK k) ∧ Cont (RI H9) k y 0) (ps.map fun p => (Sum.inl p.1, V.ref p.2)) (ps.map (·.1)) := by
              intro ps
              induction ps with
              | nil => intro _; exact .nil
              | cons a r ih =>
                intro hh
                have ha := hh a List.mem_cons_self
                refine .cons ⟨fun _ => none, if_pos ?_, a.2, rfl, List.mem_map.mpr ⟨a, ha, rfl⟩, [], e59 _ _ (k2 a ha), .nil⟩ (ih fun x hx => hh x (List.mem_cons_of_mem _ hx))
                rw [← hm5]
                exact List.mem_map.mpr ⟨a, ha, rfl⟩
            have := kk ps5 fun _ h => h
            rwa [hm5] at this
          · replace h : (if i ∈ C then some (fun _ => none) else none : Option (Pm.Dc Int)).isSome = true := h
            split at h
            · assumption
            · cases h
        · intro d hd
          obtain ⟨p, hp, rfl⟩ := List.mem_map.mp hd
          exact ⟨[], e59 _ _ (k2 p hp)⟩
        · refine (cutL_of e09 fun x hx => ?_).trans e
          have nn : ∀ {Hx : Hp} {y : Addr}, Same H Hx → Hx y = none → H y = none := fun {Hx y} ee hy => by
            cases h : H y with
            | none => rfl
            | some u => have := ee _ _ h; rw [hy] at this; cases this
          simp only [List.mem_cons] at hx
          rcases hx with rfl | rfl | rfl | rfl | hx
          · exact nn e1 hn2
          · exact nn (e1.trans e2) hn3
          · exact nn (e1.trans (e2.trans e3)) hn4
          · exact nn (e04.trans e5) hn8
          · obtain ⟨p, hp, rfl⟩ := List.mem_map.mp hx
            exact nn e04 (hf5 p hp).1
end

/-! W27 -/
section
variable {P : Program} {w : World} {K : PySem.W.Frag} {mg : Str → Option Value} {base : Heap} {a : Adr}

theorem MParts.mono {H H' : Hp} {vc : V} {pd rd fd vd : Addr} {ds : List Addr} {s : Pm.St} {n : Nat} (e : Same H H') (m : MParts K H vc pd rd fd vd ds s n) : MParts K H' vc pd rd fd vd ds s n := by
  obtain ⟨c, ⟨k1, h1, c1⟩, ⟨k2, h2, c2⟩, ⟨k3, h3, c3⟩, ⟨k4, h4, c4⟩, al⟩ := m
  refine ⟨c.mono e, ⟨k1, e _ _ h1, c1⟩, ⟨k2, e _ _ h2, c2.imp fun _ _ z => z.mono e⟩, ⟨k3, e _ _ h3, c3⟩, ⟨k4, e _ _ h4, c4.imp fun v f z => ?_⟩, fun d hd => ?_⟩
  · obtain ⟨d, rfl, hd, k, hk, c⟩ := z
    exact ⟨d, rfl, hd, k, e _ _ hk, c⟩
  · obtain ⟨k, hk⟩ := al d hd
    exact ⟨k, e _ _ hk⟩
theorem inj_nodup_map {α β : Type} {f : α → β} : ∀ {l : List α}, (l.map f).Nodup → ∀ {x y : α}, x ∈ l → y ∈ l → f x = f y → x = y
  | [], _, _, _, h, _, _ => by cases h
  | a :: r, hn, x, y, hx, hy, e => by
    rw [List.map_cons, List.nodup_cons] at hn
    rcases List.mem_cons.mp hx with e1 | hx2
    · rcases List.mem_cons.mp hy with e2 | hy2
      · rw [e1, e2]
      · exact (hn.1 (List.mem_map.mpr ⟨y, hy2, by rw [← e, e1]⟩)).elim
    · rcases List.mem_cons.mp hy with e2 | hy2
      · exact (hn.1 (List.mem_map.mpr ⟨x, hx2, by rw [e, e2]⟩)).elim
      · exact inj_nodup_map hn.2 hx2 hy2 e
def DpR (x y v : V) (H : Hp) (R : Hp → Prop) : Prop := ∃ a H4, x = .ref a ∧ DPut H a y v H4 ∧ R H4
theorem kw_dput {td ty tv : TE} {D : Ends} {σ : L2.St} {H : Hp} (h : tv σ H fun v H1 => td σ H1 fun x H2 => ty σ H2 fun y H3 => DpR x y v H3 (D.nx σ)) : sDPut td ty tv D σ H := h
theorem q_dput {d : Addr} {t : Int} {v : V} {H : Hp} {R : Hp → Prop} {kvs : List (Key × V)} (h : H d = some (.dK kvs)) (hl : kvs.length ≤ 1000) (q : R (upd H d (.dK (putK kvs (Sum.inl t) v)))) : DpR (.ref d) (.int t) v H R :=
  ⟨d, _, rfl, DPut.k (k := Sum.inl t) h (by rw [sizeLine_eq]; omega), q⟩
theorem q_setD {d : Addr} {t : Int} {v : V} {H : Hp} {R : Hp → Prop} {kvs : List (Key × V)} (h : H d = some (.dK kvs)) (hl : kvs.length ≤ 1000) (q : R (upd H d (.dK (putK kvs (Sum.inl t) v)))) : rSetD (.ref d) (.int t) v H R :=
  ⟨d, _, rfl, DPut.k (k := Sum.inl t) h (by rw [sizeLine_eq]; omega), q⟩
def SetR2 (to ti : TE) (t : TSet) (v : V) (σ : L2.St) (H : Hp) (R : L2.St → Hp → Prop) : Prop := to σ H fun o H1 => ti σ H1 fun i H2 => t o i v H2 fun H3 => R σ H3
theorem kw_gsub2 {to ti : TE} {t : TSet} {v : V} {σ : L2.St} {H : Hp} {R : L2.St → Hp → Prop} (h : to σ H fun o H1 => ti σ H1 fun i H2 => t o i v H2 fun H3 => R σ H3) : gSub to ti t v σ H R := h
def sp_ldone (K : PySem.W.Frag) : Sp := fun vs H Q _ => ∃ v x s n act, vs = [v, x] ∧ LPic K H v s n ∧ Pm.Sound s ∧ n + 1 < 64 ∧ (∀ t r, s.rw t = some r → r.length ≤ 1000) ∧ ActAt K H x act ∧ Pm.Let s act ∧
  ∀ v' s' H', Pm.Step s act s' → Same H H' → LPic K H' v' s' (n + 1) → Q v' H'
abbrev s_law_pi_done : Stmt := (top 95)
abbrev N_law_pi_done : List Str := ["_law_picture", "_law_action", "_law_circle", "_law_promised", "_law_rows", "_law_firsts", "_law_votes", "_law_house"]
theorem sc_law_pi_done : FnScope N_law_pi_done ["_law_picture", "_law_action"] (C8.fnScope s_law_pi_done) := C8.fnScope_by (by decide +kernel)
theorem ok_law_pi_done (D : DefX K mg "_law_pi_done" "_law_pi_done" s_law_pi_done ["_law_picture", "_law_action"]) (T : Txt K mg a) (c_law_pi_best : C8.Cal P w K mg base 1 "_law_pi_best" (sp_lbest K) [])  : C8.Cal P w K mg base 2 "_law_pi_done" (sp_ldone K) [] :=
  calX D sc_law_pi_done (fun vs H Q E h => by obtain ⟨v, x, s, n, act, rfl, h, S, hn, hlen, ha, hl, q⟩ := h; rfl) fun f cdv A outer s H vs Q E hr h => by
    have hu := hu_of hr
    obtain ⟨v, x, s, n, act, rfl, h, S, hn, hlen, ha, hl, q⟩ := h
    obtain ⟨p, vc, vp, vr, vf, vv, rfl, hp, pp⟩ := id h
    obtain ⟨ac, rfl, hc⟩ := id pp.cir
    obtain ⟨ap, op, kp, rfl, hdp, cp⟩ := id pp.pr
    obtain ⟨ar, or_, kr, rfl, hdr, cr⟩ := id pp.rw
    obtain ⟨af, of_, kf, rfl, hdf, cf⟩ := id pp.fs
    obtain ⟨av, ov, kv, rfl, hdv, cv⟩ := id pp.vt
    have h7 := S.circ.le
    have hCn := S.nd
    refine ⟨_, (pss_cons (ps_asg (pe_tup (pa_cons (pe_ix (kx_ix (K := K)) (pv 0) pe_int (fun _ _ => rfl)) (pa_cons (pe_callTy cx_dictD (by rfl) T.z_dict (by decide +kernel) (pa_cons (pe_ix (kx_ix (K := K)) (pv 0) pe_int (fun _ _ => rfl)) pa_nil)) (pa_cons (pe_callTy cx_dictD (by rfl) T.z_dict (by decide +kernel) (pa_cons (pe_ix (kx_ix (K := K)) (pv 0) pe_int (fun _ _ => rfl)) pa_nil)) (pa_cons (pe_callTy cx_dictD (by rfl) T.z_dict (by decide +kernel) (pa_cons (pe_ix (kx_ix (K := K)) (pv 0) pe_int (fun _ _ => rfl)) pa_nil)) pa_nil))))) (kx_gtup (K := K) (n := 4) (by rfl) (pgs_cons (pg_name (i := 2) sc_law_pi_done.nd rfl (.inl rfl)) (pgs_cons (pg_name (i := 3) sc_law_pi_done.nd rfl (.inl rfl)) (pgs_cons (pg_name (i := 4) sc_law_pi_done.nd rfl (.inl rfl)) (pgs_cons (pg_name (i := 5) sc_law_pi_done.nd rfl (.inl rfl)) pgs_nil))))))
      (pss_cons (ps_set (i := 6) sc_law_pi_done.nd rfl (.inl rfl) (pe_callTy (kx_dictP (K := K) rfl) (by rfl) T.z_dict (by decide +kernel) (pa_cons (pe_lc (own := [("_law_house", 7)]) rfl sc_law_pi_done.nd (kx_tup (K := K) (pv 2)) (blkOk_by (N := N_law_pi_done) (sc := (C8.fnScope s_law_pi_done)) (by decide +kernel)) (fun _ _ _ _ _ => (pg_name (i := 7) sc_law_pi_done.nd rfl (.inl rfl))) (fun _ _ _ _ _ => pts_nil) (fun _ _ _ _ _ => (pe_tup (pa_cons (pv 7) (pa_cons (pe_callTy cx_dictD (by rfl) T.z_dict (by decide +kernel) (pa_cons (pe_dget hu (pe_ix (kx_ix (K := K)) (pv 0) pe_int (fun _ _ => rfl)) (pv 7) (fun _ _ => rfl)) pa_nil)) pa_nil))))) pa_nil)))
      (pss_cons (ps_if (pt_cmpR op_eq (pe_ix (kx_ix (K := K)) (pv 1) pe_int (fun _ _ => rfl)) pe_str (nomark _))
          (pss_one (ps_dput hu (pv 3) (pe_ix (kx_ix (K := K)) (pv 1) pe_int (fun _ _ => rfl)) (pe_ix (kx_ix (K := K)) (pv 1) pe_int (fun _ _ => rfl)) rfl))
          (pss_one (ps_if (pt_cmpR op_eq (pe_ix (kx_ix (K := K)) (pv 1) pe_int (fun _ _ => rfl)) pe_str (nomark _))
            (pss_cons (ps_dput hu (pv 4) (pe_ix (kx_ix (K := K)) (pv 1) pe_int (fun _ _ => rfl)) (C8.pe_c c_law_pi_best hr (by decide) (by rfl) (pa_cons (pv 0) (pa_cons (pe_ix (kx_ix (K := K)) (pv 1) pe_int (fun _ _ => rfl)) (pa_cons (pe_ix (kx_ix (K := K)) (pv 1) pe_int (fun _ _ => rfl)) pa_nil)))) rfl)
            (pss_one (ps_dput hu (pv 5) (pe_ix (kx_ix (K := K)) (pv 1) pe_int (fun _ _ => rfl)) (pe_callB (kx_len (K := K)) (by rfl) T.z_len PySem.boot_len (pa_cons (pe_dget hu (pv 4) (pe_ix (kx_ix (K := K)) (pv 1) pe_int (fun _ _ => rfl)) (fun _ _ => rfl)) pa_nil)) rfl)))
            (pss_one (ps_if (pt_cmpR op_eq (pe_ix (kx_ix (K := K)) (pv 1) pe_int (fun _ _ => rfl)) pe_str (nomark _))
              (pss_one (ps_dput hu (pv 4) (pe_ix (kx_ix (K := K)) (pv 1) pe_int (fun _ _ => rfl)) (pe_op (kx_catA (K := K)) (pe_dget hu (pv 4) (pe_ix (kx_ix (K := K)) (pv 1) pe_int (fun _ _ => rfl)) (fun _ _ => rfl)) (pe_tup (pa_cons (pe_ix (kx_ix (K := K)) (pv 1) pe_int (fun _ _ => rfl)) pa_nil))) rfl))
              (pss_one (ps_asg (pe_tup (pa_cons (pe_ix (kx_ix (K := K)) (pv 1) pe_int (fun _ _ => rfl)) (pa_cons (pe_ix (kx_ix (K := K)) (pv 1) pe_int (fun _ _ => rfl)) pa_nil))) (kx_gtup (K := K) (n := 2) (by rfl) (pgs_cons (pg_sub (pv 3) (pe_ix (kx_ix (K := K)) (pv 1) pe_int (fun _ _ => rfl)) (set_dict hu)) (pgs_cons (pg_sub (pe_dget hu (pv 6) (pe_ix (kx_ix (K := K)) (pv 1) pe_int (fun _ _ => rfl)) (fun _ _ => rfl)) (pe_ix (kx_ix (K := K)) (pv 1) pe_int (fun _ _ => rfl)) (set_dict hu)) pgs_nil))))))))))
      (pss_one (ps_ret (pe_fz (pe_tup (pa_cons (pv 2) (pa_cons (pv 3) (pa_cons (pv 4) (pa_cons (pv 5) (pa_cons (pv 6) pa_nil)))))))))))), ?_⟩
    walk_at "go"
    refine k_dictD (.inr ⟨op, hdp⟩) (NewR.mk fun pd H1 hn1 e1 hpd => ?_)
    walk_at "go"
    refine k_dictD (.inr ⟨or_, e1 _ _ hdr⟩) (NewR.mk fun rd H2 hn2 e2 hrd => ?_)
    walk_at "go"
    refine k_dictD (.inr ⟨of_, (e1.trans e2) _ _ hdf⟩) (NewR.mk fun fd H3 hn3 e3 hfd => ?_)
    walk_at "go"
    refine NewR.mk fun t4 H4 hn4 e4 ht4 => ?_
    have e04 := e1.trans (e2.trans (e3.trans e4))
    walk_at "go"
    refine lc_objN walk_tup s.C (fun H v x d => ∃ p k f, v = .ref p ∧ SqT K H p [.int x, .ref d] ∧ H d = some (.dK k) ∧ s.vt x = some f ∧ Cont (RI H) k f n) (fun {H H' v x d} e z => ?_) (fun {H v x d} z => ?_) (by rw [List.length_map]) (by rw [List.length_map]; omega) (fun _ e => sm_T (e04.trans e) hc) (fun i x y B Ha Hb D hx eb bd hD eB yy Ky Kn ky => ?_) fun D5 H5 ys5 ps5 hD5 e5 hl5 hm5 hnd5 hf5 hp5 => ?_
    · obtain ⟨p, k, f, rfl, h, g, h2, c⟩ := z
      exact ⟨p, k, f, rfl, sm_T e h, e _ _ g, h2, c⟩
    · obtain ⟨p, k, f, rfl, h, g, _⟩ := z
      exact ⟨_, g⟩
    · obtain ⟨rfl, hy⟩ := yy
      rw [List.getElem?_map, hx] at hy
      obtain rfl : V.int x = y := Option.some.inj hy
      obtain ⟨f, hf⟩ := vote_dict S (List.mem_of_getElem? hx)
      have e0a := e04.trans (eb.trans eB)
      walk_at "go"
      refine q_dg (pp.vt.monoD e0a) hf fun u hu2 => ?_
      obtain ⟨au, ou, ku, rfl, hdu, cu⟩ := hu2
      walk_at "go"
      refine k_dictD (.inr ⟨ou, hdu⟩) (NewR.mk fun d H6 hd e6 hd6 => ?_)
      walk_at "go"
      refine NewR.mk fun p2 H7 hp2 e7 hp7 => ?_
      obtain ⟨g1, g2, g3⟩ := grow eB bd hD hd e6 hd6
      obtain ⟨u1, hu1⟩ := hD
      obtain ⟨g4, g5, g6⟩ := grow g2 g3 ⟨_, e6 _ _ hu1⟩ hp2 e7 hp7
      have hBd : B d = none := by
        cases h : B d with
        | none => rfl
        | some u => have := eB _ _ h; rw [hd] at this; cases this
      exact ky _ d _ _ hBd (g1.trans g4) g6 g5 (e6.trans e7) ⟨p2, ku, f, rfl, .inl (.inl upd_same), g4 _ _ upd_same, hf, cu⟩
    · walk_at "go"
      have key5 : ∀ {ys : List V} {ps : List (Int × Addr)}, Paired (fun y (p : Int × Addr) => ∃ q k f, y = .ref q ∧ SqT K H5 q [.int p.1, .ref p.2] ∧ H5 p.2 = some (.dK k) ∧ s.vt p.1 = some f ∧ Cont (RI H5) k f n) ys ps → Paired (fun y (kv : Key × V) => ∃ p, y = .ref p ∧ SqT K H5 p [kV kv.1, kv.2]) ys (ps.map fun p => (Sum.inl p.1, V.ref p.2)) ∧ ∀ p ∈ ps, ∃ k f, H5 p.2 = some (.dK k) ∧ s.vt p.1 = some f ∧ Cont (RI H5) k f n := by
        intro ys ps hp
        induction hp with
        | nil => exact ⟨.nil, fun _ h => by cases h⟩
        | cons h t ih =>
          obtain ⟨q1, k, f, h1, h2, h3⟩ := h
          refine ⟨.cons ⟨q1, h1, h2⟩ ih.1, fun p hp => ?_⟩
          rcases List.mem_cons.mp hp with rfl | hp
          · exact ⟨k, f, h3⟩
          · exact ih.2 p hp
      obtain ⟨k1, k2⟩ := key5 hp5
      have hkeys : (ps5.map fun p => ((Sum.inl p.1 : Key), V.ref p.2)).map (·.1) = s.C.map Sum.inl := by
        rw [List.map_map, ← hm5, List.map_map]; rfl
      refine q_dictP (R := fun _ _ (_ : Int) => True) hl5 k1 (by rw [hkeys]; exact List.Pairwise.map _ (fun a b h z => h (by cases z; rfl)) hCn) ?_
      refine NewR.mk fun vd H8 hn8 e8 hvd => ?_
      walk_at "go"
      have e48 := e5.trans e8
      have e08 := e04.trans e48
      have hpd8 := (e2.trans (e3.trans (e4.trans e48))) _ _ hpd
      have hrd8 := (e3.trans (e4.trans e48)) _ _ hrd
      have hfd8 := (e4.trans e48) _ _ hfd
      have nn : ∀ {Hx Hy : Hp} {y z : Addr} {u : HO}, Same Hx Hy → Hx y = some u → Hy z = none → y ≠ z := fun {Hx Hy y z u} ee hy hz zz => by rw [zz] at hy; have := ee _ _ hy; rw [hz] at this; cases this
      have n1 : pd ≠ rd := nn (Same.refl _) hpd hn2
      have n2 : pd ≠ fd := nn e2 hpd hn3
      have n3 : rd ≠ fd := nn (Same.refl _) hrd hn3
      have n4 : pd ≠ vd := nn (e2.trans (e3.trans (e4.trans e5))) hpd hn8
      have n5 : rd ≠ vd := nn (e3.trans (e4.trans e5)) hrd hn8
      have n6 : fd ≠ vd := nn (e4.trans e5) hfd hn8
      have nd : ∀ q ∈ ps5, q.2 ≠ pd ∧ q.2 ≠ rd ∧ q.2 ≠ fd ∧ q.2 ≠ vd := fun q hq => by
        have h0 := (hf5 q hq).1
        obtain ⟨k, f, h1, _⟩ := k2 q hq
        exact ⟨(nn (e2.trans (e3.trans e4)) hpd h0).symm, (nn (e3.trans e4) hrd h0).symm, (nn e4 hfd h0).symm, nn (Same.refl _) h1 hn8⟩
      have hHn : ∀ x ∈ pd :: rd :: fd :: vd :: ps5.map (·.2), H x = none := fun x hx => by
        have no : ∀ {Hx : Hp} {y : Addr}, Same H Hx → Hx y = none → H y = none := fun {Hx y} ee hy => by
          cases h : H y with
          | none => rfl
          | some u => have := ee _ _ h; rw [hy] at this; cases this
        simp only [List.mem_cons] at hx
        rcases hx with rfl | rfl | rfl | rfl | hx
        · exact hn1
        · exact no e1 hn2
        · exact no (e1.trans e2) hn3
        · exact no (e04.trans e5) hn8
        · obtain ⟨q, hq, rfl⟩ := List.mem_map.mp hx
          exact no e04 (hf5 q hq).1
      have hA8 : AllD H8 (pd :: rd :: fd :: vd :: ps5.map (·.2)) := fun x hx => by
        simp only [List.mem_cons] at hx
        rcases hx with rfl | rfl | rfl | rfl | hx
        · exact ⟨_, hpd8⟩
        · exact ⟨_, hrd8⟩
        · exact ⟨_, hfd8⟩
        · exact ⟨_, hvd⟩
        · obtain ⟨q, hq, rfl⟩ := List.mem_map.mp hx
          obtain ⟨k, f, h1, _⟩ := k2 q hq
          exact ⟨k, e8 _ _ h1⟩
      have fin : ∀ (Hf Hg : Hp) (pt : Addr) (s' : Pm.St), Pm.Step s act s' → Same (cutL H8 (pd :: rd :: fd :: vd :: ps5.map (·.2))) Hf → MParts K Hf (.ref ac) pd rd fd vd (ps5.map (·.2)) s' (n + 1) → Same Hf Hg → Hg pt = some (.tup [.ref ac, .ref pd, .ref rd, .ref fd, .ref vd]) → FzQ (.ref pt) Hg Q := fun Hf Hg pt s' st e m eg hpt =>
        fz_lpic (m.mono eg) (.inl (.inl hpt)) fun H' e' hv => q _ s' H' st ((cutL_of ((cutL_of e08 hHn).trans (e.trans eg)) hHn).trans e') hv
      have cvx : Cont (fun v f => ∃ d, v = .ref d ∧ d ∈ ps5.map (·.2) ∧ ∃ k, H8 d = some (.dK k) ∧ Cont (RI H8) k f (n + 1)) (ps5.map fun p => ((Sum.inl p.1 : Key), V.ref p.2)) s.vt 7 := by
        refine cont_of_paired (L := s.C) hkeys ?_ hCn (fun i h => (S.vtk i).mp h) h7
        have kk : ∀ ps : List (Int × Addr), (∀ p ∈ ps, p ∈ ps5) → Paired (fun (p : Key × V) x => ∃ y, s.vt x = some y ∧ ∃ d, p.2 = .ref d ∧ d ∈ ps5.map (·.2) ∧ ∃ k, H8 d = some (.dK k) ∧ Cont (RI H8) k y (n + 1)) (ps.map fun p => (Sum.inl p.1, V.ref p.2)) (ps.map (·.1)) := by
          intro ps
          induction ps with
          | nil => intro _; exact .nil
          | cons a r ih =>
            intro hh
            have ha := hh a List.mem_cons_self
            obtain ⟨k, f, g1, g2, g3⟩ := k2 a ha
            exact .cons ⟨f, g2, a.2, rfl, List.mem_map.mpr ⟨a, ha, rfl⟩, k, e8 _ _ g1, g3.more (Nat.le_succ n)⟩ (ih fun x hx => hh x (List.mem_cons_of_mem _ hx))
        have := kk ps5 fun _ h => h
        rwa [hm5] at this
      have cr8 : Cont (RowAt K (cutL H8 (pd :: rd :: fd :: vd :: ps5.map (·.2)))) kr s.rw n := cr.imp fun _ _ z => cutL_row hA8 (z.mono e08)
      have hc8 : SqT K (cutL H8 (pd :: rd :: fd :: vd :: ps5.map (·.2))) ac (s.C.map V.int) := cutL_T hA8 (sm_T e08 hc)
      have hlp := cp.len
      have hlr := cr.len
      have hlf := cf.len
      cases act with
      | promise h t =>
        obtain ⟨p0, rfl, hx⟩ := ha
        have hx8 := sm_T e08 hx
        walk_at "go"
        with_reducible refine kw_dput ?_
        walk_at "go"
        refine q_dput hpd8 (by omega) ?_
        have eL : Same (cutL H8 (pd :: rd :: fd :: vd :: ps5.map (·.2))) (upd H8 pd (.dK (putK kp (Sum.inl h) (.int t)))) := cutL_upd (by simp)
        walk_at "go"
        refine NewR.mk fun pt Hg hng eg hpt => ?_
        refine fin _ Hg pt _ (.promise hl) eL ⟨⟨ac, rfl, sm_T eL hc8⟩, ⟨_, upd_same, cp.over rfl ?_⟩, ⟨kr, by rw [upd_ne n1.symm]; exact hrd8, (cr8.imp fun _ _ z => z.mono eL).more (Nat.le_succ n)⟩, ⟨kf, by rw [upd_ne n2.symm]; exact hfd8, cf.more (Nat.le_succ n)⟩, ⟨_, by rw [upd_ne n4.symm]; exact hvd, cvx.imp fun v f z => ?_⟩, fun d hd => ?_⟩ eg hpt
        · obtain ⟨p9, h9, _⟩ := hl; rw [h9]; rfl
        · obtain ⟨d, rfl, hd, k, hk, c⟩ := z
          obtain ⟨q9, hq9, rfl⟩ := List.mem_map.mp hd
          exact ⟨_, rfl, hd, k, by rw [upd_ne (nd q9 hq9).1]; exact hk, c⟩
        · obtain ⟨q9, hq9, rfl⟩ := List.mem_map.mp hd
          obtain ⟨k, hk⟩ := hA8 q9.2 (by simp [hd])
          exact ⟨k, by rw [upd_ne (nd q9 hq9).1]; exact hk⟩
      | lead t lot =>
        obtain ⟨p0, l0, rfl, hx, hx2⟩ := ha
        have hx8 := sm_T e08 hx
        walk_at "go"
        with_reducible refine kw_dput ?_
        walk_at "go"
        refine ⟨.ref p, s, n, l0, lot, t, rfl, h.mono e08, S, by omega, sm_T e08 hx2, by have := lot_len S hl.2.2.1 hl.2.2.2.1; omega, hl.2.2.2.1, fun fv row H9 htold hfv e9 => ?_⟩
        have hA9 : AllD H9 (pd :: rd :: fd :: vd :: ps5.map (·.2)) := fun x hx => by
          obtain ⟨k, hk⟩ := hA8 x hx
          exact ⟨k, e9 _ _ hk⟩
        walk_at "go"
        refine q_dput (e9 _ _ hrd8) (by omega) ?_
        have h9r : upd H9 rd (.dK (putK kr (Sum.inl t) fv)) rd = some (.dK (putK kr (Sum.inl t) fv)) := upd_same
        have eL1 : Same (cutL H9 (pd :: rd :: fd :: vd :: ps5.map (·.2))) (upd H9 rd (.dK (putK kr (Sum.inl t) fv))) := cutL_upd (by simp)
        have h9o : ∀ x, x ≠ rd → upd H9 rd (.dK (putK kr (Sum.inl t) fv)) x = H9 x := fun x hx => upd_ne hx
        generalize upd H9 rd (.dK (putK kr (Sum.inl t) fv)) = H10 at *
        have hx10 : SqT K H10 p0 [.str "lead", .int t, .ref l0] := sm_T eL1 (cutL_T hA9 (sm_T e9 hx8))
        have hfv10 : RowAt K H10 fv row := (cutL_row hA9 hfv).mono eL1
        obtain ⟨fa, fx, rfl, hfx, hfp⟩ := id hfv10
        have hfl := Paired.length hfp
        walk_at "go"
        with_reducible refine kw_dput ?_
        walk_at "go"
        refine q_dk (v := .ref fa) (.inl h9r) (by rw [valV_put, if_pos rfl]) ?_
        walk_at "go"
        rw [hfl]
        refine q_dput (kvs := kf) (by rw [h9o _ n3.symm]; exact e9 _ _ hfd8) (by omega) ?_
        have eL2 : Same (cutL H9 (pd :: rd :: fd :: vd :: ps5.map (·.2))) (upd H10 fd (.dK (putK kf (Sum.inl t) (.int row.length)))) := sm_mut eL1 (cutL_in (by simp))
        have eL8 : Same (cutL H8 (pd :: rd :: fd :: vd :: ps5.map (·.2))) (cutL H9 (pd :: rd :: fd :: vd :: ps5.map (·.2))) := cutL_of (cutL_le.trans e9) fun x hx => cutL_in hx
        have eL := eL8.trans eL2
        walk_at "go"
        refine NewR.mk fun pt Hg hng eg hpt => ?_
        refine fin _ Hg pt _ (.lead hl htold) eL ⟨⟨ac, rfl, sm_T eL hc8⟩, ⟨kp, by rw [upd_ne n2, h9o _ n1]; exact e9 _ _ hpd8, cp⟩, ⟨_, by rw [upd_ne n3]; exact h9r, (cr8.imp fun _ _ z => z.mono eL).put ((cutL_row hA9 hfv).mono eL2) (Nat.le_refl _)⟩, ⟨_, upd_same, cf.put rfl (Nat.le_refl _)⟩, ⟨_, by rw [upd_ne n6.symm, h9o _ n5.symm]; exact e9 _ _ hvd, cvx.imp fun v f z => ?_⟩, fun d hd => ?_⟩ eg hpt
        · obtain ⟨d, rfl, hd, k, hk, c⟩ := z
          obtain ⟨q9, hq9, rfl⟩ := List.mem_map.mp hd
          exact ⟨_, rfl, hd, k, by rw [upd_ne (nd q9 hq9).2.2.1, h9o _ (nd q9 hq9).2.1]; exact e9 _ _ hk, c⟩
        · obtain ⟨q9, hq9, rfl⟩ := List.mem_map.mp hd
          obtain ⟨k, hk⟩ := hA9 q9.2 (by simp [hd])
          exact ⟨k, by rw [upd_ne (nd q9 hq9).2.2.1, h9o _ (nd q9 hq9).2.1]; exact hk⟩
      | append t en =>
        obtain ⟨p0, d0, rfl, hx, hd0⟩ := ha
        obtain ⟨r, hrt⟩ := Option.isSome_iff_exists.mp (show (s.rw t).isSome = true from hl)
        have hx8 := sm_T e08 hx
        have hlr2 := hlen t r hrt
        have rv := cr.val t
        rw [hrt] at rv
        obtain ⟨w0, hw1, hw0⟩ := rv.some_of
        obtain ⟨ra, rx, rfl, hrx, hrp⟩ := hw0.mono e08
        have hrl := Paired.length hrp
        walk_at "go"
        with_reducible refine kw_dput ?_
        walk_at "go"
        refine q_dk (.inl hrd8) hw1 ?_
        walk_at "go"
        refine NewR.mk fun t9 H9 hn9 e9 ht9 => ?_
        refine k_catA (sm_T e9 hrx) (.inl (.inl ht9)) (by rw [hrl, sizeLine_eq]; simp only [List.length_cons, List.length_nil]; omega) fun nr H10 e10 hnr => ?_
        have e90 := e9.trans e10
        have hA10 : AllD H10 (pd :: rd :: fd :: vd :: ps5.map (·.2)) := fun x hx => by
          obtain ⟨k, hk⟩ := hA8 x hx
          exact ⟨k, e90 _ _ hk⟩
        walk_at "go"
        refine q_dput (e90 _ _ hrd8) (by omega) ?_
        have eL1 : Same (cutL H10 (pd :: rd :: fd :: vd :: ps5.map (·.2))) (upd H10 rd (.dK (putK kr (Sum.inl t) (.ref nr)))) := cutL_upd (by simp)
        have eL8 : Same (cutL H8 (pd :: rd :: fd :: vd :: ps5.map (·.2))) (cutL H10 (pd :: rd :: fd :: vd :: ps5.map (·.2))) := cutL_of (cutL_le.trans e90) fun x hx => cutL_in hx
        have eL := eL8.trans eL1
        walk_at "go"
        refine NewR.mk fun pt Hg hng eg hpt => ?_
        have hrow : RowAt K H10 (.ref nr) (r ++ [en]) := ⟨nr, _, rfl, hnr, paired_snoc (Paired.mapP hrp fun _ _ z => z.mono e90) (hd0.mono (e08.trans e90))⟩
        refine fin _ Hg pt _ (.append (e := en) hl) eL ⟨⟨ac, rfl, sm_T eL hc8⟩, ⟨kp, by rw [upd_ne n1]; exact e90 _ _ hpd8, cp⟩, ⟨_, upd_same, ?_⟩, ⟨kf, by rw [upd_ne n3.symm]; exact e90 _ _ hfd8, cf.more (Nat.le_succ n)⟩, ⟨_, by rw [upd_ne n5.symm]; exact e90 _ _ hvd, cvx.imp fun v f z => ?_⟩, fun d hd => ?_⟩ eg hpt
        · show Cont _ _ (Pm.up s.rw t (((s.rw t).getD []) ++ [en])) (n + 1)
          rw [hrt]
          exact (cr8.imp fun _ _ z => z.mono eL).put ((cutL_row hA10 hrow).mono eL1) (Nat.le_refl _)
        · obtain ⟨d, rfl, hd, k, hk, c⟩ := z
          obtain ⟨q9, hq9, rfl⟩ := List.mem_map.mp hd
          exact ⟨_, rfl, hd, k, by rw [upd_ne (nd q9 hq9).2.1]; exact e90 _ _ hk, c⟩
        · obtain ⟨q9, hq9, rfl⟩ := List.mem_map.mp hd
          obtain ⟨k, hk⟩ := hA10 q9.2 (by simp [hd])
          exact ⟨k, by rw [upd_ne (nd q9 hq9).2.1]; exact hk⟩
      | vote h t m =>
        obtain ⟨p0, rfl, hx⟩ := ha
        have hx8 := sm_T e08 hx
        have hl2 := hl
        obtain ⟨p9, r9, f9, h9, h91, h92, _⟩ := hl2
        have hC : h ∈ s.C := (S.prk h).mp (by rw [h9]; rfl)
        obtain ⟨qh, hqh, eqh⟩ : ∃ q ∈ ps5, q.1 = h := by
          have : h ∈ ps5.map (·.1) := by rw [hm5]; exact hC
          obtain ⟨q, hq, e⟩ := List.mem_map.mp this
          exact ⟨q, hq, e⟩
        obtain ⟨kh, fh, hkh, hfh, ch⟩ := k2 qh hqh
        rw [eqh] at hfh
        have hkh8 := e8 _ _ hkh
        walk_at "go"
        refine NewR.mk fun t9 H9 hn9 e9 ht9 => ?_
        have hA9 : AllD H9 (pd :: rd :: fd :: vd :: ps5.map (·.2)) := fun x hx => by
          obtain ⟨k, hk⟩ := hA8 x hx
          exact ⟨k, e9 _ _ hk⟩
        walk_at "go"
        with_reducible refine kw_gsub2 ?_
        walk_at "go"
        refine q_setD (e9 _ _ hpd8) (by omega) ?_
        have eL1 : Same (cutL H9 (pd :: rd :: fd :: vd :: ps5.map (·.2))) (upd H9 pd (.dK (putK kp (Sum.inl h) (.int t)))) := cutL_upd (by simp)
        have h9p : upd H9 pd (.dK (putK kp (Sum.inl h) (.int t))) pd = some (.dK (putK kp (Sum.inl h) (.int t))) := upd_same
        have h9o : ∀ x, x ≠ pd → upd H9 pd (.dK (putK kp (Sum.inl h) (.int t))) x = H9 x := fun x hx => upd_ne hx
        generalize upd H9 pd (.dK (putK kp (Sum.inl h) (.int t))) = H10 at *
        have hx10 : SqT K H10 p0 [.str "vote", .int h, .int t, .int m] := sm_T eL1 (cutL_T hA9 (sm_T e9 hx8))
        walk_at "go"
        with_reducible refine kw_gsub2 ?_
        walk_at "go"
        have hvd10 : H10 vd = some (.dK (ps5.map fun p => ((Sum.inl p.1 : Key), V.ref p.2))) := by rw [h9o _ n4.symm]; exact e9 _ _ hvd
        have hval : valV (ps5.map fun p => ((Sum.inl p.1 : Key), V.ref p.2)) (Sum.inl h) = some (.ref qh.2) := by
          have := val_nodup (kvs := ps5.map fun p => ((Sum.inl p.1 : Key), V.ref p.2)) cvx.nd (Sum.inl qh.1, .ref qh.2) (List.mem_map.mpr ⟨qh, hqh, rfl⟩)
          rw [← eqh]; exact this
        refine q_dk (.inl hvd10) hval ?_
        walk_at "go"
        have hkh10 : H10 qh.2 = some (.dK kh) := by rw [h9o _ (nd qh hqh).1]; exact e9 _ _ hkh8
        refine q_setD hkh10 (by have := ch.len; omega) ?_
        have eL2 : Same (cutL H9 (pd :: rd :: fd :: vd :: ps5.map (·.2))) (upd H10 qh.2 (.dK (putK kh (Sum.inl t) (.int m)))) := sm_mut eL1 (cutL_in (by simp only [List.mem_cons]; exact .inr (.inr (.inr (.inr (List.mem_map.mpr ⟨qh, hqh, rfl⟩))))))
        have eL8 : Same (cutL H8 (pd :: rd :: fd :: vd :: ps5.map (·.2))) (cutL H9 (pd :: rd :: fd :: vd :: ps5.map (·.2))) := cutL_of (cutL_le.trans e9) fun x hx => cutL_in hx
        have eL := eL8.trans eL2
        walk_at "go"
        walk_at "go"
        refine NewR.mk fun pt Hg hng eg hpt => ?_
        obtain ⟨m1, m2, m3, m4⟩ := nd qh hqh
        refine fin _ Hg pt _ (.vote hl) eL ⟨⟨ac, rfl, sm_T eL hc8⟩, ⟨_, by rw [upd_ne m1.symm]; exact h9p, cp.over rfl (by rw [h9]; rfl)⟩, ⟨kr, by rw [upd_ne m2.symm, h9o _ n1.symm]; exact e9 _ _ hrd8, (cr8.imp fun _ _ z => z.mono eL).more (Nat.le_succ n)⟩, ⟨kf, by rw [upd_ne m3.symm, h9o _ n2.symm]; exact e9 _ _ hfd8, cf.more (Nat.le_succ n)⟩, ⟨_, by rw [upd_ne m4.symm]; exact hvd10, ?_⟩, fun d hd => ?_⟩ eg hpt
        · show Cont _ _ (Pm.up s.vt h (Pm.up ((s.vt h).getD fun _ => none) t m)) 7
          rw [hfh]
          refine cont_of_paired (L := s.C) hkeys ?_ hCn (fun i hi => ?_) h7
          · have kk : ∀ ps : List (Int × Addr), (∀ p ∈ ps, p ∈ ps5) → Paired (fun (p : Key × V) x => ∃ y, Pm.up s.vt h (Pm.up fh t m) x = some y ∧ ∃ d, p.2 = .ref d ∧ d ∈ ps5.map (·.2) ∧ ∃ k, upd H10 qh.2 (.dK (putK kh (Sum.inl t) (.int m))) d = some (.dK k) ∧ Cont (RI (upd H10 qh.2 (.dK (putK kh (Sum.inl t) (.int m))))) k y (n + 1)) (ps.map fun p => (Sum.inl p.1, V.ref p.2)) (ps.map (·.1)) := by
              intro ps
              induction ps with
              | nil => intro _; exact .nil
              | cons a r ih =>
                intro hh
                have ha := hh a List.mem_cons_self
                obtain ⟨k, f, g1, g2, g3⟩ := k2 a ha
                refine .cons ?_ (ih fun x hx => hh x (List.mem_cons_of_mem _ hx))
                by_cases ea : a.1 = h
                · have eaq : a = qh := by
                    have : (ps5.map (·.1)).Nodup := by rw [hm5]; exact hCn
                    exact inj_nodup_map this ha hqh (ea.trans eqh.symm)
                  subst eaq
                  refine ⟨Pm.up fh t m, by show Pm.up s.vt h _ a.1 = _; rw [ea, Pm.up_same], a.2, rfl, List.mem_map.mpr ⟨a, ha, rfl⟩, _, upd_same, ch.put rfl (Nat.le_refl _)⟩
                · have ed : a.2 ≠ qh.2 := fun z => ea (by
                    have := inj_nodup_map hnd5 ha hqh z
                    rw [this]; exact eqh)
                  exact ⟨f, by show Pm.up s.vt h _ a.1 = _; rw [Pm.up_ne ea]; exact g2, a.2, rfl, List.mem_map.mpr ⟨a, ha, rfl⟩, k, by rw [upd_ne ed, h9o _ (nd a ha).1]; exact e9 _ _ (e8 _ _ g1), g3.more (Nat.le_succ n)⟩
            have := kk ps5 fun _ h => h
            rwa [hm5] at this
          · by_cases ei : i = h
            · rw [ei]; exact hC
            · rw [Pm.up_ne ei] at hi
              exact (S.vtk i).mp hi
        · obtain ⟨q9, hq9, rfl⟩ := List.mem_map.mp hd
          by_cases ed : q9.2 = qh.2
          · exact ⟨_, by rw [ed]; exact upd_same⟩
          · obtain ⟨k, hk⟩ := hA9 q9.2 (by simp [hd])
            exact ⟨k, by rw [upd_ne ed, h9o _ (nd q9 hq9).1]; exact hk⟩
end

/-! W30 -/
section
variable {P : Program} {w : World} {K : PySem.W.Frag} {mg : Str → Option Value} {base : Heap} {a : Adr}

/-! ### dice -/
structure DS (B H : Hp) (dl : Addr) : Prop where
  sm : Same B H
  bn : B dl = none
  hd : ∃ x y z : Int, H dl = some (.lst [.int x, .int y, .int z])
section
variable {B H H' : Hp} {dl : Addr}
theorem DS.mono (d : DS B H dl) (e : Same H H') : DS B H' dl := by
  obtain ⟨x, y, z, h⟩ := d.hd
  exact ⟨d.sm.trans e, d.bn, x, y, z, e _ _ h⟩
theorem DS.known (d : DS B H dl) : ∃ u, H dl = some u := by
  obtain ⟨x, y, z, h⟩ := d.hd
  exact ⟨_, h⟩
theorem DS.grow (d : DS B H dl) {p : Addr} {o : HO} (hp : H p = none) (e : Same H H') (h' : H' p = some o) : DS (upd B p o) H' dl ∧ Same B (upd B p o) := by
  obtain ⟨g1, g2, g3⟩ := Hm.grow d.sm d.bn d.known hp e h'
  obtain ⟨x, y, z, h⟩ := d.hd
  exact ⟨⟨g2, g3, x, y, z, e _ _ h⟩, g1⟩
/-- all that stands now is the base -/
theorem DS.now (d : DS B H dl) : DS (cut H dl) H dl ∧ Same B (cut H dl) := ⟨⟨cut_le, cut_at, d.hd⟩, cut_of d.sm d.bn⟩
end
def SetR (to ti : TE) (t : TSet) (v : V) (σ : L2.St) (H : Hp) (R : L2.St → Hp → Prop) : Prop := to σ H fun o H1 => ti σ H1 fun i H2 => t o i v H2 fun H3 => R σ H3
theorem kw_gsub {to ti : TE} {t : TSet} {v : V} {σ : L2.St} {H : Hp} {R : L2.St → Hp → Prop} (h : to σ H fun o H1 => ti σ H1 fun i H2 => t o i v H2 fun H3 => R σ H3) : gSub to ti t v σ H R := h
theorem q_setL {p : Addr} {xs : List V} {k : Int} {j : Nat} {v : V} {H : Hp} {Q : Hp → Prop} (hd : H p = some (.lst xs)) (hj : ixN xs.length k = some j) (q : Q (upd H p (.lst (xs.set j v)))) : rSetL (.ref p) (.int k) v H Q := ⟨p, xs, k, j, rfl, rfl, hd, hj, q⟩
theorem k_pow {g : Int → Int → V} {i j : Int} {H : Hp} {Q : VK} (h0 : 0 ≤ j) (h1 : j ≤ 1000000) (h2 : i.natAbs < 2 ^ 64) (q : Q (g i j) H) : rI CPow g (.int i) (.int j) H Q := k_rI (C := CPow) ⟨h0, h1, h2⟩ q
theorem k_mulW {g : Int → Int → V} {i j : Int} {H : Hp} {Q : VK} (h : CMulW i j) (q : Q (g i j) H) : rI CMulW g (.int i) (.int j) H Q := k_rI (C := CMulW) h q
def sp_dice (K : PySem.W.Frag) : Sp := fun vs H Q _ => ∃ (l : Addr) (xs : List Int) (spot : Int), vs = [.ref l, .int spot] ∧ SqL K H l (xs.map V.int) ∧ 0 ≤ spot ∧ spot < 100 ∧ ∀ d H' x y z, H d = none → Same H H' → H' d = some (.lst [.int x, .int y, .int z]) → Q (.ref d) H'
abbrev s_law_dice : Stmt := (top 80)
abbrev N_law_dice : List Str := ["_law_script", "_law_spot", "_law_cell", "_law_left"]
theorem sc_law_dice : FnScope N_law_dice ["_law_script", "_law_spot"] (C8.fnScope s_law_dice) := C8.fnScope_by (by decide +kernel)
theorem ok_law_dice (D : DefX K mg "_law_dice" "_law_dice" s_law_dice ["_law_script", "_law_spot"]) (T : Txt K mg a)   : C8.Cal P w K mg base 1 "_law_dice" (sp_dice K) [] :=
  calX D sc_law_dice (fun vs H Q E h => by obtain ⟨l, xs, spot, rfl, hl, h0, h1, q⟩ := h; rfl) fun f cdv A outer s H vs Q E hr h => by
    have hu := hu_of hr
    obtain ⟨l, xs, spot, rfl, hl, h0, h1, q⟩ := h
    refine ⟨_, (pss_cons (ps_set (i := 2) sc_law_dice.nd rfl (.inl rfl) (pe_ifExp (pt_cmpR op_lt (pv 1) (pe_callB (kx_len (K := K)) (by rfl) T.z_len PySem.boot_len (pa_cons (pv 0) pa_nil)) (nomark _)) (pe_callTy cx_int (by rfl) T.z_int (by decide +kernel) (pa_cons (pe_ix (kx_ixL (K := K)) (pv 0) (pv 1) (fun _ _ => rfl)) pa_nil)) (pe_op op_add (pe_op op_mul pe_int (pv 1)) pe_int)))
      (pss_cons (ps_set (i := 3) sc_law_dice.nd rfl (.inl rfl) (pe_op op_modN (pe_callB (cx_max rfl) (by rfl) T.z_max (by decide +kernel) (pa_cons pe_int (pa_cons (pe_op op_sub (pe_callB cx_abs (by rfl) T.z_abs (by decide +kernel) (pa_cons (pv 2) pa_nil)) (pe_op op_pow pe_int pe_int)) pa_nil))) (pe_op op_mulW (pe_op op_pow pe_int pe_int) (pe_op op_pow pe_int pe_int))))
      (pss_one (ps_ret (pe_lst (pa_cons (pv 3) (pa_cons (pe_op op_add (pe_op op_add (pe_op op_add (pe_op op_mul (pe_op op_modN (pe_callB cx_abs (by rfl) T.z_abs (by decide +kernel) (pa_cons (pv 2) pa_nil)) pe_int) pe_int) (pe_op op_mul pe_int (pv 1))) (pe_op op_mul pe_int (pe_callTy cx_int (by rfl) T.z_int (by decide +kernel) (pa_cons (pe_cmpR op_lt (pv 2) pe_int (nomark _)) pa_nil)))) pe_int) (pa_cons pe_int pa_nil)))))))), ?_⟩
    walk_at "go"
    refine k_iteD (fun hlt => ?_) fun hlt => ?_
    · rw [List.length_map] at hlt
      walk_at "go"
      refine k_ixM hl h0 (v := .int (xs[spot.toNat]'(by omega))) (by rw [List.getElem?_map, List.getElem?_eq_getElem (by omega)]; rfl) ?_
      generalize xs[spot.toNat]'(by omega) = cell
      walk_at "go"
      refine k_pow (by decide) (by decide) (by decide) ?_
      walk_at "go"
      refine k_pow (by decide) (by decide) (by decide) ?_
      walk_at "go"
      refine k_pow (by decide) (by decide) (by decide) ?_
      walk_at "go"
      refine k_mulW (wide_mul (a := 200) (b := 200) (by decide +kernel) (by decide +kernel) (by decide) (by decide) (by decide)) ?_
      walk_at "go"
      exact NewR.mk fun d H' hn e hd => q d H' _ _ _ hn e hd
    · walk_at "go"
      refine k_pow (by decide) (by decide) (by decide) ?_
      walk_at "go"
      refine k_pow (by decide) (by decide) (by decide) ?_
      walk_at "go"
      refine k_pow (by decide) (by decide) (by decide) ?_
      walk_at "go"
      refine k_mulW (wide_mul (a := 200) (b := 200) (by decide +kernel) (by decide +kernel) (by decide) (by decide) (by decide)) ?_
      walk_at "go"
      exact NewR.mk fun d H' hn e hd => q d H' _ _ _ hn e hd
def sp_roll : Sp := fun vs H Q _ => ∃ B dl m, vs = [.ref dl, .int m] ∧ DS B H dl ∧ 0 < m ∧ m < 1000000 ∧ ∀ k H', 0 ≤ k → k < m → DS B H' dl → Q (.int k) H'
abbrev s_law_roll : Stmt := (top 81)
abbrev N_law_roll : List Str := ["_law_dice_here", "_law_most", "_law_found", "_law_one", "_law_two"]
theorem sc_law_roll : FnScope N_law_roll ["_law_dice_here", "_law_most"] (C8.fnScope s_law_roll) := C8.fnScope_by (by decide +kernel)
theorem ok_law_roll (D : DefX K mg "_law_roll" "_law_roll" s_law_roll ["_law_dice_here", "_law_most"]) (T : Txt K mg a)   : C8.Cal P w K mg base 1 "_law_roll" sp_roll [] :=
  calX D sc_law_roll (fun vs H Q E h => by obtain ⟨B, dl, m, rfl, d, h0, h1, q⟩ := h; rfl) fun f cdv A outer s H vs Q E hr h => by
    have hu := hu_of hr
    obtain ⟨B, dl, m, rfl, d, h0, h1, q⟩ := h
    refine ⟨_, (pss_cons (ps_if (pt_cmpR op_gt (pe_ix (kx_ixL (K := K)) (pv 0) pe_int (fun _ _ => rfl)) pe_int (nomark _))
          (pss_cons (ps_set (i := 2) sc_law_roll.nd rfl (.inl rfl) (pe_op op_modN (pe_callTy cx_int (by rfl) T.z_int (by decide +kernel) (pa_cons (pe_ix (kx_ixL (K := K)) (pv 0) pe_int (fun _ _ => rfl)) pa_nil)) (pv 1)))
          (pss_cons (ps_asg (pe_op op_fdivN (pe_ix (kx_ixL (K := K)) (pv 0) pe_int (fun _ _ => rfl)) (pv 1)) (pg_sub (pv 0) pe_int set_list))
          (pss_one (ps_ret (pv 2)))))
          pss_nil)
      (pss_cons (ps_asg (pe_op op_add (pe_ix (kx_ixL (K := K)) (pv 0) pe_int (fun _ _ => rfl)) pe_int) (pg_sub (pv 0) pe_int set_list))
      (pss_cons (ps_set (i := 3) sc_law_roll.nd rfl (.inl rfl) (pe_op op_modN (pe_callTy cx_int (by rfl) T.z_int (by decide +kernel) (pa_cons (pe_op op_add (pe_ix (kx_ixL (K := K)) (pv 0) pe_int (fun _ _ => rfl)) (pe_op op_mul pe_int (pe_ix (kx_ixL (K := K)) (pv 0) pe_int (fun _ _ => rfl)))) pa_nil)) pe_int))
      (pss_cons (ps_set (i := 4) sc_law_roll.nd rfl (.inl rfl) (pe_op op_add (pe_op op_mul (pe_op op_modN (pe_callTy cx_int (by rfl) T.z_int (by decide +kernel) (pa_cons (pe_op op_add (pe_op op_mul (pv 3) (pv 3)) (pe_op op_mul pe_int (pe_ix (kx_ixL (K := K)) (pv 0) pe_int (fun _ _ => rfl)))) pa_nil)) pe_int) pe_int) (pv 3)))
      (pss_one (ps_ret (pe_op op_modN (pe_callTy cx_int (by rfl) T.z_int (by decide +kernel) (pa_cons (pe_op op_fdivN (pv 4) pe_int) pa_nil)) (pv 1)))))))), ?_⟩
    obtain ⟨x, y, z, hd⟩ := d.hd
    have hq : SqL K H dl [.int x, .int y, .int z] := .inl (.inl hd)
    have hfm : ∀ (m j : Int), 0 < m → 0 ≤ j.fmod m ∧ j.fmod m < m := fun m j h0 => by
      rw [Int.fmod_eq_emod_of_nonneg _ (by omega)]
      exact ⟨Int.emod_nonneg _ (by omega), Int.emod_lt_of_pos _ h0⟩
    walk_at "go"
    refine k_iteD (fun hlt => ?_) fun hlt => ?_
    · walk_at "go"
      refine k_div (by omega) (by omega) ?_
      with_reducible refine kw_gsub ?_
      walk_at "go"
      refine q_setL (j := 0) hd rfl ?_
      walk_at "go"
      exact q _ _ (hfm m x h0).1 (hfm m x h0).2 ⟨sm_mut d.sm d.bn, d.bn, _, _, _, upd_same⟩
    · walk_at "go"
      with_reducible refine kw_gsub ?_
      walk_at "go"
      refine q_setL (j := 2) hd rfl ?_
      have hd2 : upd H dl (.lst ([V.int x, V.int y, V.int z].set 2 (V.int (z + 1)))) dl = some (.lst [.int x, .int y, .int (z + 1)]) := upd_same
      generalize hH2 : upd H dl (.lst ([V.int x, V.int y, V.int z].set 2 (V.int (z + 1)))) = H2 at *
      have hm2 : Same B H2 := by rw [← hH2]; exact sm_mut d.sm d.bn
      walk_at "go"
      have m1 := hfm 2305843009213693487 (y + 71593063 * (z + 1)) (by omega)
      generalize (y + 71593063 * (z + 1)).fmod 2305843009213693487 = o at *
      walk_at "go"
      have m2 := hfm 2305843009213693253 (o * o + 89 * (z + 1)) (by omega)
      generalize (o * o + 89 * (z + 1)).fmod 2305843009213693253 = o2 at *
      walk_at "go"
      exact q _ _ (hfm m _ h0).1 (hfm m _ h0).2 ⟨hm2, d.bn, _, _, _, hd2⟩
/-- one of a list -/
def sp_pick (K : PySem.W.Frag) : Sp := fun vs H Q _ => ∃ (B : Hp) (dl l : Addr) (xs : List V), vs = [.ref dl, .ref l] ∧ DS B H dl ∧ SqL K B l xs ∧ 0 < xs.length ∧ xs.length < 1000000 ∧ ∀ (i : Nat) (v : V) (H' : Hp), xs[i]? = some v → DS B H' dl → Q v H'
abbrev s_law_pick : Stmt := (top 82)
abbrev N_law_pick : List Str := ["_law_dice_here", "_law_items"]
theorem sc_law_pick : FnScope N_law_pick ["_law_dice_here", "_law_items"] (C8.fnScope s_law_pick) := C8.fnScope_by (by decide +kernel)
theorem ok_law_pick (D : DefX K mg "_law_pick" "_law_pick" s_law_pick ["_law_dice_here", "_law_items"]) (T : Txt K mg a) (c_law_roll : C8.Cal P w K mg base 1 "_law_roll" sp_roll [])  : C8.Cal P w K mg base 2 "_law_pick" (sp_pick K) [] :=
  calX D sc_law_pick (fun vs H Q E h => by obtain ⟨B, dl, l, xs, rfl, d, hl, h0, h1, q⟩ := h; rfl) fun f cdv A outer s H vs Q E hr h => by
    have hu := hu_of hr
    obtain ⟨B, dl, l, xs, rfl, d, hl, h0, h1, q⟩ := h
    refine ⟨_, (pss_one (ps_ret (pe_ix (kx_ixL (K := K)) (pv 1) (C8.pe_c c_law_roll hr (by decide) (by rfl) (pa_cons (pv 0) (pa_cons (pe_callB (kx_len (K := K)) (by rfl) T.z_len PySem.boot_len (pa_cons (pv 1) pa_nil)) pa_nil))) (fun _ _ => rfl)))), ?_⟩
    have hl2 := sm_L d.sm hl
    walk_at "go"
    refine ⟨B, dl, _, rfl, d, by omega, by omega, fun k H1 k0 k1 d1 => ?_⟩
    have hk : k.toNat < xs.length := by omega
    refine k_ixM (sm_L d1.sm hl) k0 (v := xs[k.toNat]) (List.getElem?_eq_getElem hk) ?_
    exact q _ _ H1 (List.getElem?_eq_getElem hk) d1
end

/-! W31 -/
section
variable {P : Program} {w : World} {K : PySem.W.Frag} {mg : Str → Option Value} {base : Heap} {a : Adr}

theorem perm_erase {α : Type} : ∀ (l : List α) (k : Nat) (h : k < l.length), (l[k] :: l.eraseIdx k).Perm l
  | [], _, h => absurd h (Nat.not_lt_zero _)
  | a :: r, 0, _ => .refl _
  | a :: r, k + 1, h => by
    have ih := perm_erase r k (by simpa using h)
    simp only [List.getElem_cons_succ, List.eraseIdx_cons_succ]
    exact (List.Perm.swap _ _ _).trans (ih.cons a)
theorem erase_map {α β : Type} (f : α → β) : ∀ (l : List α) (k : Nat), (l.map f).eraseIdx k = (l.eraseIdx k).map f
  | [], _ => rfl
  | a :: r, 0 => rfl
  | a :: r, k + 1 => by
    show f a :: (r.map f).eraseIdx k = f a :: (r.eraseIdx k).map f
    rw [erase_map f r k]
theorem q_pop {l : Addr} {xs : List V} {k : Nat} {y : V} {H : Hp} {Q : VK} (hd : H l = some (.lst xs)) (hk : xs[k]? = some y) (hl : xs.length ≤ 1000) (q : Q y (upd H l (.lst (xs.eraseIdx k)))) : rPopAt (.ref l) [.int (k : Int)] H Q := by
  have hk2 : k < xs.length := (List.getElem?_eq_some_iff.mp hk).1
  have hi : ixN xs.length (k : Int) = some k := by unfold ixN; rw [if_pos (by omega), if_pos (by omega)]; simp
  exact ⟨l, xs, k, k, y, rfl, rfl, hd, by omega, by omega, (ixN_seq hi).1, hk, q⟩
def sp_mixed (K : PySem.W.Frag) : Sp := fun vs H Q _ => ∃ (B : Hp) (dl l : Addr) (xs : List Int), vs = [.ref dl, .ref l] ∧ DS B H dl ∧ SqL K B l (xs.map V.int) ∧ xs.length ≤ 100 ∧ ∀ (p : Addr) (ys : List Int) (B' H' : Hp), ys.Perm xs → Same B B' → B' p = some (.lst (ys.map V.int)) → DS B' H' dl → Q (.ref p) H'
abbrev s_law_mixed : Stmt := (top 83)
abbrev N_law_mixed : List Str := ["_law_dice_here", "_law_items", "_law_left", "_law_found"]
theorem sc_law_mixed : FnScope N_law_mixed ["_law_dice_here", "_law_items"] (C8.fnScope s_law_mixed) := C8.fnScope_by (by decide +kernel)
theorem ok_law_mixed (D : DefX K mg "_law_mixed" "_law_mixed" s_law_mixed ["_law_dice_here", "_law_items"]) (T : Txt K mg a) (c_law_roll : C8.Cal P w K mg base 1 "_law_roll" sp_roll [])  : C8.Cal P w K mg base 2 "_law_mixed" (sp_mixed K) [] :=
  calX D sc_law_mixed (fun vs H Q E h => by obtain ⟨B, dl, l, xs, rfl, d, hl, hxl, q⟩ := h; rfl) fun f cdv A outer s H vs Q E hr h => by
    have hu := hu_of hr
    obtain ⟨B, dl, l, xs, rfl, d, hl, hxl, q⟩ := h
    refine ⟨_, (pss_cons (ps_par (i := 2) (j := 3) (by rfl) sc_law_mixed.nd rfl rfl (by decide) rfl rfl (pa_cons (pe_callTy (kx_listOf (K := K)) (by rfl) T.z_list (by decide +kernel) (pa_cons (pv 1) pa_nil)) (pa_cons (pe_lst pa_nil) pa_nil)) (by rfl))
      (pss_cons (ps_while PassesOwn.never (pt_cmpR (kx_neE (K := K) hr.units) (pv 2) (pe_lst pa_nil) (nomark _))
          (pss_one (ps_expr (kx_bm (K := K) PySem.F.plainAttrs_list PySem.F.slot_list_append PySem.F.type_list_append mt_append (pv 3) (pa_cons (kx_bm (K := K) PySem.F.plainAttrs_list PySem.F.slot_list_pop PySem.F.type_list_pop mt_popAt (pv 2) (pa_cons (C8.pe_c c_law_roll hr (by decide) (by rfl) (pa_cons (pv 0) (pa_cons (pe_callB (kx_len (K := K)) (by rfl) T.z_len PySem.boot_len (pa_cons (pv 2) pa_nil)) pa_nil))) pa_nil)) pa_nil)))))
      (pss_one (ps_ret (pv 3))))), ?_⟩
    have hl0 := sm_L d.sm hl
    walk_at "go"
    refine NewR.mk fun ll H1 hn1 e1 h1 => ?_
    walk_at "go"
    refine NewR.mk fun fl H2 hn2 e2 h2 => ?_
    walk_at "go"
    obtain ⟨ud, hud⟩ := d.known
    have n1 : ll ≠ dl := fun z => by rw [z, hud] at hn1; cases hn1
    have n2 : fl ≠ dl := fun z => by rw [z, e1 _ _ hud] at hn2; cases hn2
    have n3 : fl ≠ ll := fun z => by rw [z, h1] at hn2; cases hn2
    have b1 : B ll = none := by
      cases h : B ll with
      | none => rfl
      | some u => have := d.sm _ _ h; rw [hn1] at this; cases this
    have b2 : B fl = none := by
      cases h : B fl with
      | none => rfl
      | some u => have := e1 _ _ (d.sm _ _ h); rw [hn2] at this; cases this
    refine ⟨fun m σ' H' => ∃ zs ws : List Int, σ' = [some (.ref dl), some (.ref l), some (.ref ll), some (.ref fl)] ∧ zs.length = m ∧ (ws ++ zs).Perm xs ∧ H' ll = some (.lst (zs.map V.int)) ∧ H' fl = some (.lst (ws.map V.int)) ∧ DS B H' dl, ⟨xs.length, xs, [], rfl, rfl, .refl _, e2 _ _ h1, h2, d.mono (e1.trans e2)⟩, fun m σ' Ha hp => ?_⟩
    obtain ⟨zs, ws, rfl, hm, hperm, hz, hw, da⟩ := hp
    have hlen : ws.length + zs.length = xs.length := by have := hperm.length_eq; rwa [List.length_append] at this
    walk_at "go"
    refine NewR.mk fun p3 H3 hn3 e3 h3 => ?_
    refine k_neEL (.inl (.inl (e3 _ _ hz))) (.inl (.inl h3)) ?_
    walk_at "go"
    cases zs with
    | nil =>
      refine k_no rfl ?_
      walk_at "go"
      have df := da.mono e3
      have hf3 := e3 _ _ hw
      have e4 : Same (upd B fl (.lst (ws.map V.int))) H3 := sm_put df.sm hf3
      obtain ⟨x, y, z, hd⟩ := df.hd
      exact q fl ws _ _ (by simpa using hperm) (sm_new b2) upd_same ⟨e4, by rw [upd_ne (Ne.symm n2)]; exact df.bn, x, y, z, hd⟩
    | cons z0 zr =>
      refine k_yes rfl ⟨fun σ' H' => ∃ zs ws : List Int, σ' = [some (.ref dl), some (.ref l), some (.ref ll), some (.ref fl)] ∧ zs.length = zr.length ∧ (ws ++ zs).Perm xs ∧ H' ll = some (.lst (zs.map V.int)) ∧ H' fl = some (.lst (ws.map V.int)) ∧ DS B H' dl, fun σ' H' hp => ⟨zr.length, by rw [← hm]; simp, hp⟩, ?_⟩
      have d3 := da.mono e3
      have hz3 := e3 _ _ hz
      have hw3 := e3 _ _ hw
      walk_at "go"
      refine ⟨ty_lst hw3, ?_⟩
      walk_at "go"
      refine ⟨ty_lst hz3, ?_⟩
      walk_at "go"
      obtain ⟨dn, en⟩ := d3.now
      refine ⟨cut H3 dl, dl, _, rfl, dn, by simp only [List.length_map, List.length_cons]; omega, by simp only [List.length_map]; omega, fun k H4 k0 k1 d4 => ?_⟩
      walk_at "go"
      have hz4 : H4 ll = some (.lst ((z0 :: zr).map V.int)) := d4.sm _ _ (by rw [cut_ne n1]; exact hz3)
      have hw4 : H4 fl = some (.lst (ws.map V.int)) := d4.sm _ _ (by rw [cut_ne n2]; exact hw3)
      obtain ⟨kn, rfl⟩ := Int.eq_ofNat_of_zero_le k0
      rw [List.length_map] at k1
      have hkn : kn < (z0 :: zr).length := by omega
      refine q_pop hz4 (y := .int ((z0 :: zr)[kn])) (by rw [List.getElem?_map, List.getElem?_eq_getElem hkn]; rfl) (by rw [List.length_map]; omega) ?_
      walk_at "go"
      refine k_app (xs := ws.map V.int) (by rw [upd_ne n3]; exact hw4) (by rw [List.length_map, sizeLine_eq]; omega) ?_
      obtain ⟨x, y, z, hd⟩ := d4.hd
      refine ⟨(z0 :: zr).eraseIdx kn, ws ++ [(z0 :: zr)[kn]], rfl, ?_, ?_, ?_, ?_, ?_⟩
      · rw [List.length_eraseIdx, if_pos hkn]; simp
      · refine List.Perm.trans ?_ hperm
        rw [List.append_assoc]
        exact (perm_erase _ kn hkn).append_left ws
      · rw [upd_ne (Ne.symm n3), upd_same, erase_map]
      · rw [upd_same, List.map_append]; rfl
      · exact ⟨sm_mut (sm_mut (en.trans d4.sm) b1) b2, d3.bn, x, y, z, by rw [upd_ne (Ne.symm n2), upd_ne (Ne.symm n1)]; exact hd⟩
theorem q_slL {a : Addr} {xs : List V} {lo hi : Option Int} {H : Hp} {Q : VK} (h : SqL K H a xs) (q : NewR (.lst (cutV xs lo hi)) H Q) : rSlL K (.ref a) lo hi H Q := ⟨a, xs, rfl, h, q⟩
theorem cutV_map {α : Type} (f : α → V) (xs : List α) (m : Int) (h : 0 ≤ m) : cutV (xs.map f) none (some m) = (xs.take m.toNat).map f := by rw [cut_to h, List.map_take]
def sp_cdrawn (K : PySem.W.Frag) : Sp := fun vs H Q _ => ∃ (B : Hp) (dl : Addr), vs = [.ref dl, .int 7] ∧ DS B H dl ∧ ∀ (t : Addr) (C : List Int) (B' H' : Hp), Same B B' → SqT K B' t (C.map V.int) → Pm.Circ C → DS B' H' dl → Q (.ref t) H'
abbrev s_law_circle_drawn : Stmt := (top 84)
abbrev N_law_circle_drawn : List Str := ["_law_dice_here", "_law_most"]
theorem sc_law_circle_drawn : FnScope N_law_circle_drawn ["_law_dice_here", "_law_most"] (C8.fnScope s_law_circle_drawn) := C8.fnScope_by (by decide +kernel)
theorem ok_law_circle_drawn (D : DefX K mg "_law_circle_drawn" "_law_circle_drawn" s_law_circle_drawn ["_law_dice_here", "_law_most"]) (T : Txt K mg a) (c_law_mixed : C8.Cal P w K mg base 2 "_law_mixed" (sp_mixed K) []) (c_law_roll : C8.Cal P w K mg base 1 "_law_roll" sp_roll [])  : C8.Cal P w K mg base 3 "_law_circle_drawn" (sp_cdrawn K) [] :=
  calX D sc_law_circle_drawn (fun vs H Q E h => by obtain ⟨B, dl, rfl, d, q⟩ := h; rfl) fun f cdv A outer s H vs Q E hr h => by
    have hu := hu_of hr
    obtain ⟨B, dl, rfl, d, q⟩ := h
    refine ⟨_, (pss_one (ps_ret (pe_callTy (kx_tupOf (K := K)) (by rfl) T.z_tuple (by decide +kernel) (pa_cons (pe_callB (kx_sorted (K := K)) (by rfl) T.z_sorted (by decide +kernel) (pa_cons (pe_slice (kx_slL (K := K)) (C8.pe_c c_law_mixed hr (by decide) (by rfl) (pa_cons (pv 0) (pa_cons (pe_listRg rfl (by rfl) T.z_list (prg_1 (by rfl) T.z_range pe_int)) pa_nil))) po_none (po_some (pe_op op_add pe_int (C8.pe_c c_law_roll hr (by decide) (by rfl) (pa_cons (pv 0) (pa_cons (pv 1) pa_nil)))))) pa_nil)) pa_nil)))), ?_⟩
    walk_at "go"
    refine ⟨9, rfl, RgOk.of_le (by omega) (by omega) (by omega) (by omega), fun l0 hn1 => ?_⟩
    have e1 : Same H (upd H l0 (.lst (rgV 0 9))) := sm_new hn1
    have h1 : upd H l0 (.lst (rgV 0 9)) l0 = some (.lst ([0, 1, 2, 3, 4, 5, 6, 7, 8].map V.int)) := upd_same
    generalize upd H l0 (.lst (rgV 0 9)) = H1 at *
    walk_at "go"
    obtain ⟨d1, eb1⟩ := d.grow hn1 e1 h1
    refine ⟨_, dl, l0, [0, 1, 2, 3, 4, 5, 6, 7, 8], rfl, d1, .inl (.inl upd_same), by decide, fun p ys B2 H2 hp eb2 hp2 d2 => ?_⟩
    walk_at "go"
    refine ⟨B2, dl, 7, rfl, d2, by omega, by omega, fun k H3 k0 k1 d3 => ?_⟩
    walk_at "go"
    refine q_slL (.inl (.inl (d3.sm _ _ hp2))) ?_
    rw [cutV_map V.int ys (1 + k) (by omega)]
    refine NewR.mk fun l4 H4 hn4 e4 h4 => ?_
    walk_at "go"
    have hyl : ys.length = 9 := by rw [hp.length_eq]; rfl
    refine k_sorted (.inl (.inl h4)) (by rw [List.length_take]; omega) fun C l5 H5 hC hs hn5 e5 h5 => ?_
    walk_at "go"
    refine NewR.mk fun t H6 hn6 e6 h6 => ?_
    obtain ⟨d6, eb6⟩ := (d3.mono (e4.trans e5)).grow hn6 e6 h6
    refine q t C _ H6 (eb1.trans (eb2.trans eb6)) (.inl (.inl upd_same)) ?_ d6
    have hnd : ys.Nodup := hp.nodup_iff.mpr (by decide)
    have hCn : C.Nodup := hC.nodup_iff.mpr (List.Nodup.sublist (List.take_sublist _ _) hnd)
    refine ⟨?_, ?_, ?_, fun h hh => ?_⟩
    · have := hs.and hCn
      exact this.imp fun ⟨h1, h2⟩ => by omega
    · rw [hC.length_eq, List.length_take]; omega
    · rw [hC.length_eq, List.length_take]; omega
    · have h1 := hp.mem_iff.mp (List.mem_of_mem_take (hC.mem_iff.mp hh))
      simp only [List.mem_cons, List.not_mem_nil, or_false] at h1
      omega
/-- an entry -/
def sp_entry2 (K : PySem.W.Frag) : Sp := fun vs H Q _ => ∃ (B : Hp) (dl : Addr), vs = [.ref dl] ∧ DS B H dl ∧ ∀ v e B' H', Same B B' → EntAt K B' v e → EnOk e → DS B' H' dl → Q v H'
abbrev s_law_pi_entry : Stmt := (top 96)
abbrev N_law_pi_entry : List Str := ["_law_dice_here"]
theorem sc_law_pi_entry : FnScope N_law_pi_entry ["_law_dice_here"] (C8.fnScope s_law_pi_entry) := C8.fnScope_by (by decide +kernel)
theorem ok_law_pi_entry (D : DefX K mg "_law_pi_entry" "_law_pi_entry" s_law_pi_entry ["_law_dice_here"]) (T : Txt K mg a) (c_law_pick : C8.Cal P w K mg base 2 "_law_pick" (sp_pick K) []) (c_law_roll : C8.Cal P w K mg base 1 "_law_roll" sp_roll [])  : C8.Cal P w K mg base 3 "_law_pi_entry" (sp_entry2 K) [] :=
  calX D sc_law_pi_entry (fun vs H Q E h => by obtain ⟨B, dl, rfl, d, q⟩ := h; rfl) fun f cdv A outer s H vs Q E hr h => by
    have hu := hu_of hr
    obtain ⟨B, dl, rfl, d, q⟩ := h
    refine ⟨_, (pss_one (ps_ret (pe_tup (pa_cons (C8.pe_c c_law_roll hr (by decide) (by rfl) (pa_cons (pv 0) (pa_cons pe_int pa_nil))) (pa_cons (pe_op op_add pe_int (C8.pe_c c_law_roll hr (by decide) (by rfl) (pa_cons (pv 0) (pa_cons pe_int pa_nil)))) (pa_cons (C8.pe_c c_law_pick hr (by decide) (by rfl) (pa_cons (pv 0) (pa_cons (pe_lst (pa_cons (pe_tup (pa_cons pe_str (pa_cons pe_str (pa_cons pe_int pa_nil)))) (pa_cons (pe_tup (pa_cons pe_str (pa_cons pe_str pa_nil))) (pa_cons (pe_tup (pa_cons pe_str (pa_cons (pe_tup (pa_cons pe_int (pa_cons pe_int pa_nil))) pa_nil))) pa_nil)))) pa_nil))) pa_nil)))))), ?_⟩
    walk_at "go"
    refine ⟨B, dl, 2, rfl, d, by omega, by omega, fun c H1 c0 c1 d1 => ?_⟩
    walk_at "go"
    refine ⟨B, dl, 2, rfl, d1, by omega, by omega, fun m H2 m0 m1 d2 => ?_⟩
    walk_at "go"
    refine NewR.mk fun t1 H3 hn3 e3 h3 => ?_
    obtain ⟨d3, b3⟩ := d2.grow hn3 e3 h3
    walk_at "go"
    refine NewR.mk fun t2 H4 hn4 e4 h4 => ?_
    obtain ⟨d4, b4⟩ := d3.grow hn4 e4 h4
    walk_at "go"
    refine NewR.mk fun t3 H5 hn5 e5 h5 => ?_
    obtain ⟨d5, b5⟩ := d4.grow hn5 e5 h5
    walk_at "go"
    refine NewR.mk fun t4 H6 hn6 e6 h6 => ?_
    obtain ⟨d6, b6⟩ := d5.grow hn6 e6 h6
    walk_at "go"
    refine NewR.mk fun t5 H7 hn7 e7 h7 => ?_
    obtain ⟨d7, b7⟩ := d6.grow hn7 e7 h7
    walk_at "go"
    refine ⟨_, dl, t5, _, rfl, d7, .inl (.inl upd_same), by simp, by simp, fun i v H8 hi d8 => ?_⟩
    walk_at "go"
    refine NewR.mk fun t6 H9 hn9 e9 h9 => ?_
    obtain ⟨d9, b9⟩ := d8.grow hn9 e9 h9
    refine q (.ref t6) (c, 1 + m, i) _ H9 (b3.trans (b4.trans (b5.trans (b6.trans (b7.trans b9))))) ⟨t6, v, rfl, .inl (.inl upd_same), ?_⟩ ⟨c0, by show c ≤ 4; omega, by show 1 ≤ 1 + m; omega, by show 1 + m ≤ 4; omega⟩ d9
    have f1 := (b4.trans (b5.trans (b6.trans (b7.trans b9)))) _ _ upd_same
    have f2 := (b5.trans (b6.trans (b7.trans b9))) _ _ upd_same
    have f3 := (b6.trans (b7.trans b9)) _ _ upd_same
    have f4 := (b7.trans b9) _ _ upd_same
    match i, hi with
    | 0, hi => cases hi; exact ⟨t1, rfl, .inl ⟨rfl, .inl (.inl f1)⟩⟩
    | 1, hi => cases hi; exact ⟨t2, rfl, .inr (.inl ⟨rfl, .inl (.inl f2)⟩)⟩
    | 2, hi => cases hi; exact ⟨t4, rfl, .inr (.inr ⟨rfl, t3, .inl (.inl f4), .inl (.inl f3)⟩)⟩
    | n + 3, hi => simp at hi
end

/-! W32 -/
section
variable {P : Program} {w : World} {K : PySem.W.Frag} {mg : Str → Option Value} {base : Heap} {a : Adr}

/-- numbers of a picture, bounded -/
def Bd (s : Pm.St) (M : Int) : Prop := (∀ h p, s.pr h = some p → p ≤ M) ∧ (∀ t r, s.rw t = some r → t ≤ M)
def sp_term (K : PySem.W.Frag) : Sp := fun vs H Q _ => ∃ (B : Hp) (dl : Addr) (v : V) (s : Pm.St) (n : Nat) (M : Int), vs = [.ref dl, v] ∧ DS B H dl ∧ LPic K B v s n ∧ Pm.Sound s ∧ n < 64 ∧ Bd s M ∧ 8 ≤ M ∧ ∀ (t : Int) (H' : Hp), 0 ≤ t → t ≤ M → DS B H' dl → Q (.int t) H'
abbrev s_law_pi_term : Stmt := (top 97)
abbrev N_law_pi_term : List Str := ["_law_dice_here", "_law_picture", "_law_terms"]
theorem sc_law_pi_term : FnScope N_law_pi_term ["_law_dice_here", "_law_picture"] (C8.fnScope s_law_pi_term) := C8.fnScope_by (by decide +kernel)
theorem ok_law_pi_term (D : DefX K mg "_law_pi_term" "_law_pi_term" s_law_pi_term ["_law_dice_here", "_law_picture"]) (T : Txt K mg a) (c_law_pick : C8.Cal P w K mg base 2 "_law_pick" (sp_pick K) []) (c_law_roll : C8.Cal P w K mg base 1 "_law_roll" sp_roll [])  : C8.Cal P w K mg base 3 "_law_pi_term" (sp_term K) [] :=
  calX D sc_law_pi_term (fun vs H Q E h => by obtain ⟨B, dl, v, s, n, M, rfl, d, h, S, hn, hb, hM, q⟩ := h; rfl) fun f cdv A outer s H vs Q E hr h => by
    have hu := hu_of hr
    obtain ⟨B, dl, v, s, n, M, rfl, d, h, S, hn, hb, hM, q⟩ := h
    refine ⟨_, (pss_cons (ps_set (i := 2) sc_law_pi_term.nd rfl (.inl rfl) (pe_callB (cx_sortDI rfl) (by rfl) T.z_sorted (by decide +kernel) (pa_cons (pe_ix (kx_ix (K := K)) (pv 1) pe_int (fun _ _ => rfl)) pa_nil)))
      (pss_one (ps_ret (pe_ifExp (PW.pt (pw_and (pt_cmpR (kx_neE (K := K) hr.units) (pv 2) (pe_lst pa_nil) (nomark _)) (pw_and1 (pt_cmpR op_gt (C8.pe_c c_law_roll hr (by decide) (by rfl) (pa_cons (pv 0) (pa_cons pe_int pa_nil))) pe_int (nomark _))))) (C8.pe_c c_law_pick hr (by decide) (by rfl) (pa_cons (pv 0) (pa_cons (pv 2) pa_nil))) (C8.pe_c c_law_roll hr (by decide) (by rfl) (pa_cons (pv 0) (pa_cons pe_int pa_nil))))))), ?_⟩
    obtain ⟨p, vc, vp, vr, vf, vv, rfl, hp, pp⟩ := id h
    have hpH := sm_T d.sm hp
    have ppH := pp.mono d.sm
    walk_at "go"
    refine q_sortD ppH.rw hn fun ys l H1 hs hnd hys hyl hn1 e1 hl => ?_
    obtain ⟨d1, b1⟩ := d.grow hn1 e1 hl
    walk_at "go"
    refine NewR.mk fun l2 H2 hn2 e2 hl2 => ?_
    refine k_neEL (.inl (.inl (e2 _ _ hl))) (.inl (.inl hl2)) ?_
    walk_at "go"
    have d2 := d1.mono e2
    have back : ∀ {H' : Hp}, DS (upd B l (.lst (ys.map V.int))) H' dl → DS B H' dl := fun {H'} d => by
      refine ⟨b1.trans d.sm, ?_, d.hd⟩
      cases h : B dl with
      | none => rfl
      | some u => have := b1 _ _ h; rw [d.bn] at this; cases this
    refine k_ite (fun hy => ?_) fun hy => ?_
    · walk_at "go"
      refine ⟨_, dl, 4, rfl, d2, by omega, by omega, fun k H3 k0 k1 d3 => ?_⟩
      walk_at "go"
      refine k_iteD (fun hk => ?_) fun hk => ?_
      · walk_at "go"
        have hne : 0 < (ys.map V.int).length := by
          cases ys with
          | nil => cases hy
          | cons a r => simp
        refine ⟨_, dl, l, _, rfl, d3, .inl (.inl upd_same), hne, by rw [List.length_map]; omega, fun i v H4 hi d4 => ?_⟩
        rw [List.getElem?_map] at hi
        obtain ⟨t, ht, rfl⟩ := Option.map_eq_some_iff.mp hi
        obtain ⟨r, hrt⟩ := Option.isSome_iff_exists.mp ((hys t).mp (List.mem_of_getElem? ht))
        exact q t H4 (S.tge t r hrt) (hb.2 t r hrt) (back d4)
      · walk_at "go"
        exact ⟨_, dl, 8, rfl, d3, by omega, by omega, fun k H4 k0 k1 d4 => q k H4 k0 (by omega) (back d4)⟩
    · walk_at "go"
      exact ⟨_, dl, 8, rfl, d2, by omega, by omega, fun k H4 k0 k1 d4 => q k H4 k0 (by omega) (back d4)⟩
def sp_action (K : PySem.W.Frag) : Sp := fun vs H Q _ => ∃ (B : Hp) (dl : Addr) (v : V) (s : Pm.St) (n : Nat) (M : Int), vs = [.ref dl, v] ∧ DS B H dl ∧ LPic K B v s n ∧ Pm.Sound s ∧ n < 64 ∧ (∀ t r, s.rw t = some r → r.length ≤ 1000) ∧ Bd s M ∧ 8 ≤ M ∧
  ∀ (v' : V) (act : Pm.Act) (B' H' : Hp), ActOk s (M + 2) act → Same B B' → ActAt K B' v' act → DS B' H' dl → Q v' H'
theorem q_maxL {H : Hp} {Q : VK} {l : Addr} {ns : List Int} (h : H l = some (.lst (ns.map V.int))) (hn : 0 < ns.length) (q : ∀ m, m ∈ ns → (∀ y, y ∈ ns → y ≤ m) → Q (.int m) H) : rMax K [.ref l] H Q := ⟨l, ns, rfl, .inl (.inl h), hn, q⟩
def VlR (x : V) (H : Hp) (Q : VK) : Prop := ∃ d kvs, x = .ref d ∧ Rd H d (.dK kvs) ∧ NewR (.lst (kvs.map (·.2))) H Q
theorem kw_vals {σ : L2.St} {H : Hp} {te : TE} {Q : VK} (h : te σ H fun x H1 => VlR x H1 Q) : tVals te σ H Q := h
theorem vals_le {H : Hp} {kvs : List (Key × V)} {f : Pm.Dc Int} {n : Nat} {M : Int} (c : Cont (RI H) kvs f n) (hM : ∀ h p, f h = some p → p ≤ M) : ∃ ns : List Int, kvs.map (·.2) = ns.map V.int ∧ ∀ x ∈ ns, x ≤ M := by
  have key : ∀ l : List (Key × V), (∀ p ∈ l, p ∈ kvs) → ∃ ns : List Int, l.map (·.2) = ns.map V.int ∧ ∀ x ∈ ns, x ≤ M := by
    intro l
    induction l with
    | nil => intro _; exact ⟨[], rfl, fun _ h => by cases h⟩
    | cons a r ih =>
      intro hh
      obtain ⟨ns, h1, h2⟩ := ih fun p hp => hh p (List.mem_cons_of_mem _ hp)
      obtain ⟨i, hi, e⟩ := List.getElem_of_mem (hh a List.mem_cons_self)
      obtain ⟨t, x, e1, e2, e3⟩ := c.item (i := i) (k := a.1) (v := a.2) (by rw [List.getElem?_eq_getElem hi, e])
      refine ⟨x :: ns, by rw [List.map_cons, List.map_cons, h1, e3], fun y hy => ?_⟩
      rcases List.mem_cons.mp hy with rfl | hy
      · exact hM t _ e2
      · exact h2 y hy
  exact key kvs fun _ h => h
abbrev s_law_pi_action : Stmt := (top 98)
abbrev N_law_pi_action : List Str := ["_law_dice_here", "_law_picture", "_law_word", "_law_term", "_law_house", "_law_goal", "_law_lot", "_law_many", "_law_one"]
theorem sc_law_pi_action : FnScope N_law_pi_action ["_law_dice_here", "_law_picture"] (C8.fnScope s_law_pi_action) := C8.fnScope_by (by decide +kernel)
theorem ok_law_pi_action (D : DefX K mg "_law_pi_action" "_law_pi_action" s_law_pi_action ["_law_dice_here", "_law_picture"]) (T : Txt K mg a) (c_law_pi_entry : C8.Cal P w K mg base 3 "_law_pi_entry" (sp_entry2 K) []) (c_law_pi_term : C8.Cal P w K mg base 3 "_law_pi_term" (sp_term K) []) (c_law_pick : C8.Cal P w K mg base 2 "_law_pick" (sp_pick K) []) (c_law_roll : C8.Cal P w K mg base 1 "_law_roll" sp_roll [])  : C8.Cal P w K mg base 4 "_law_pi_action" (sp_action K) [] :=
  calX D sc_law_pi_action (fun vs H Q E h => by obtain ⟨B, dl, v, s, n, M, rfl, d, h, S, hn, hlen, hb, hM, q⟩ := h; rfl) fun f cdv A outer s H vs Q E hr h => by
    have hu := hu_of hr
    obtain ⟨B, dl, v, s, n, M, rfl, d, h, S, hn, hlen, hb, hM, q⟩ := h
    obtain ⟨p, vc, vp, vr, vf, vv, rfl, hp, pp⟩ := id h
    obtain ⟨ac, rfl, hc⟩ := id pp.cir
    obtain ⟨ap, op, kp, rfl, hdp, cp⟩ := id pp.pr
    have h7 := S.circ.le
    have h71 := S.circ.ge
    refine ⟨_, (pss_cons (ps_par (i := 2) (j := 3) (by rfl) sc_law_pi_action.nd rfl rfl (by decide) rfl rfl (pa_cons (C8.pe_c c_law_pick hr (by decide) (by rfl) (pa_cons (pv 0) (pa_cons (pe_lst (pa_cons pe_str (pa_cons pe_str (pa_cons pe_str (pa_cons pe_str (pa_cons pe_str (pa_cons pe_str pa_nil))))))) pa_nil))) (pa_cons (C8.pe_c c_law_pi_term hr (by decide) (by rfl) (pa_cons (pv 0) (pa_cons (pv 1) pa_nil))) pa_nil)) (by rfl))
      (pss_cons (ps_set (i := 4) sc_law_pi_action.nd rfl (.inl rfl) (C8.pe_c c_law_pick hr (by decide) (by rfl) (pa_cons (pv 0) (pa_cons (pe_callTy (kx_listOf (K := K)) (by rfl) T.z_list (by decide +kernel) (pa_cons (pe_ix (kx_ix (K := K)) (pv 1) pe_int (fun _ _ => rfl)) pa_nil)) pa_nil))))
      (pss_cons (ps_if (pt_cmpR op_eq (pv 2) pe_str (nomark _))
          (pss_one (ps_ret (pe_tup (pa_cons (pv 2) (pa_cons (pv 3) (pa_cons (C8.pe_c c_law_pi_entry hr (by decide) (by rfl) (pa_cons (pv 0) pa_nil)) pa_nil))))))
          pss_nil)
      (pss_cons (ps_if (pt_cmpR op_eq (pv 2) pe_str (nomark _))
          (pss_one (ps_ret (pe_tup (pa_cons (pv 2) (pa_cons (pv 4) (pa_cons (pe_ifExp (pt_cmpR op_gt (C8.pe_c c_law_roll hr (by decide) (by rfl) (pa_cons (pv 0) (pa_cons pe_int pa_nil))) pe_int (nomark _)) (pe_op op_add (pe_op op_add (pe_dget hu (pe_ix (kx_ix (K := K)) (pv 1) pe_int (fun _ _ => rfl)) (pv 4) (fun _ _ => rfl)) pe_int) (C8.pe_c c_law_roll hr (by decide) (by rfl) (pa_cons (pv 0) (pa_cons pe_int pa_nil)))) (C8.pe_c c_law_roll hr (by decide) (by rfl) (pa_cons (pv 0) (pa_cons pe_int pa_nil)))) pa_nil))))))
          pss_nil)
      (pss_cons (ps_if (pt_cmpR op_eq (pv 2) pe_str (nomark _))
          (pss_cons (ps_set (i := 5) sc_law_pi_action.nd rfl (.inr rfl) (C8.pe_c c_law_pick hr (by decide) (by rfl) (pa_cons (pv 0) (pa_cons (pe_lst (pa_cons (pv 3) (pa_cons (pe_callB (kx_max (K := K) rfl) (by rfl) T.z_max (by decide +kernel) (pa_cons (pe_op op_cat (pe_listVals rfl (pe_ix (kx_ix (K := K)) (pv 1) pe_int (fun _ _ => rfl)) (by rfl) T.z_list) (pe_lst (pa_cons pe_int pa_nil))) pa_nil)) (pa_cons (pe_op op_add pe_int (pe_callB (kx_max (K := K) rfl) (by rfl) T.z_max (by decide +kernel) (pa_cons (pe_op op_cat (pe_callB (cx_sortDI rfl) (by rfl) T.z_sorted (by decide +kernel) (pa_cons (pe_ix (kx_ix (K := K)) (pv 1) pe_int (fun _ _ => rfl)) pa_nil)) (pe_lst (pa_cons pe_int pa_nil))) pa_nil))) pa_nil)))) pa_nil))))
          (pss_cons (ps_setLc (i := 6) (own := [("_law_one", 8)]) rfl sc_law_pi_action.nd rfl rfl (sw_true rfl rfl rfl (by decide +kernel)) (kx_tup (K := K) (pe_ix (kx_ix (K := K)) (pv 1) pe_int (fun _ _ => rfl))) (blkOk_by (N := N_law_pi_action) (sc := (C8.fnScope s_law_pi_action)) (by decide +kernel)) (fun _ _ _ _ _ => (pg_name (i := 8) sc_law_pi_action.nd rfl (.inl rfl))) (fun _ _ _ _ _ => (pts_one (PW.pt (pw_or (pt_cmpR op_ge (pe_dget hu (pe_ix (kx_ix (K := K)) (pv 1) pe_int (fun _ _ => rfl)) (pv 8) (fun _ _ => rfl)) (pv 5) (nomark _)) (pw_or1 (pt_cmpR op_eq (C8.pe_c c_law_roll hr (by decide) (by rfl) (pa_cons (pv 0) (pa_cons pe_int pa_nil))) pe_int (nomark _))))))) (fun _ _ _ _ _ => (pv 8)))
          (pss_one (ps_ret (pe_tup (pa_cons (pv 2) (pa_cons (pv 5) (pa_cons (pe_callTy (kx_tupOf (K := K)) (by rfl) T.z_tuple (by decide +kernel) (pa_cons (pe_ifExp (pt_cmpR op_gt (C8.pe_c c_law_roll hr (by decide) (by rfl) (pa_cons (pv 0) (pa_cons pe_int pa_nil))) pe_int (nomark _)) (pv 6) (pe_slice (kx_slL (K := K)) (pv 6) po_none (po_some (pe_op op_add (pe_op op_fdivN (pe_callB (kx_len (K := K)) (by rfl) T.z_len PySem.boot_len (pa_cons (pe_ix (kx_ix (K := K)) (pv 1) pe_int (fun _ _ => rfl)) pa_nil)) pe_int) pe_int)))) pa_nil)) pa_nil))))))))
          pss_nil)
      (pss_cons (ps_set (i := 7) sc_law_pi_action.nd rfl (.inl rfl) (pe_op op_sub (pe_callB (kx_len (K := K)) (by rfl) T.z_len PySem.boot_len (pa_cons (pe_dget2 hu (pe_ix (kx_ix (K := K)) (pv 1) pe_int (fun _ _ => rfl)) (pv 3) (pe_tup pa_nil) ⟨rfl, rfl, rfl, rfl⟩) pa_nil)) (C8.pe_c c_law_pick hr (by decide) (by rfl) (pa_cons (pv 0) (pa_cons (pe_lst (pa_cons pe_int (pa_cons pe_int (pa_cons pe_int (pa_cons pe_int (pa_cons (pe_un un_neg pe_int) pa_nil)))))) pa_nil)))))
      (pss_one (ps_ret (pe_tup (pa_cons (pv 2) (pa_cons (pv 4) (pa_cons (pv 3) (pa_cons (pe_callB (cx_max rfl) (by rfl) T.z_max (by decide +kernel) (pa_cons pe_int (pa_cons (pv 7) pa_nil))) pa_nil))))))))))))), ?_⟩
    walk_at "go"
    refine NewR.mk fun l1 H1 hn1 e1 hl1 => ?_
    obtain ⟨d1, b1⟩ := d.grow hn1 e1 hl1
    walk_at "go"
    refine ⟨_, dl, l1, _, rfl, d1, .inl (.inl upd_same), by simp, by simp, fun wi wv H2 hwi d2 => ?_⟩
    walk_at "go"
    refine ⟨_, dl, .ref p, s, n, M, rfl, d2, h.mono b1, S, hn, hb, hM, fun t H3 t0 tM d3 => ?_⟩
    walk_at "go"
    have hpB := sm_T b1 hp
    have hpH3 := sm_T d3.sm hpB
    have hcH3 := sm_T d3.sm (sm_T b1 hc)
    walk_at "go"
    refine NewR.mk fun l4 H4 hn4 e4 hl4 => ?_
    obtain ⟨d4, b4⟩ := d3.grow hn4 e4 hl4
    walk_at "go"
    refine ⟨_, dl, l4, _, rfl, d4, .inl (.inl upd_same), by rw [List.length_map]; omega, by rw [List.length_map]; omega, fun hi hv H5 hhi d5 => ?_⟩
    rw [List.getElem?_map] at hhi
    obtain ⟨hh, hhx, rfl⟩ := Option.map_eq_some_iff.mp hhi
    have hhC := List.mem_of_getElem? hhx
    obtain ⟨p0, hp0⟩ := prom_val S hhC
    have hp01 := S.prm hh p0 hp0
    have hp02 := hb.1 hh p0 hp0
    have bb := b1.trans b4
    have hB5 := bb.trans d5.sm
    have pp5 := pp.mono hB5
    have hp5 := sm_T hB5 hp
    generalize hBB : upd (upd B l1 _) l4 _ = BB at *
    have word : ∃ wd : Str, wv = .str wd ∧ (wd = "promise" ∨ wd = "lead" ∨ wd = "append" ∨ wd = "vote") := by
      have hm := List.mem_of_getElem? hwi
      simp only [List.mem_cons, List.not_mem_nil, or_false] at hm
      rcases hm with rfl | rfl | rfl | rfl | rfl | rfl
      · exact ⟨_, rfl, .inl rfl⟩
      · exact ⟨_, rfl, .inr (.inl rfl)⟩
      · exact ⟨_, rfl, .inr (.inr (.inl rfl))⟩
      · exact ⟨_, rfl, .inr (.inr (.inr rfl))⟩
      · exact ⟨_, rfl, .inr (.inr (.inr rfl))⟩
      · exact ⟨_, rfl, .inr (.inr (.inr rfl))⟩
    obtain ⟨wd, rfl, hw⟩ := word
    walk_at "go"
    rcases hw with rfl | rfl | rfl | rfl
    · walk_at "go"
      refine ⟨BB, dl, 3, rfl, d5, by omega, by omega, fun k H6 k0 k1 d6 => ?_⟩
      have hB6 := bb.trans d6.sm
      have hp6 := sm_T hB6 hp
      walk_at "go"
      have fin : ∀ (t2 : Int) (H7 : Hp), 0 ≤ t2 → t2 ≤ M + 2 → DS BB H7 dl → [V.str "promise", V.int hh, V.int t2].length ≤ sizeLine ∧ NewR (.tup [V.str "promise", V.int hh, V.int t2]) H7 Q := fun t2 H7 g0 g1 d7 =>
        ⟨by rw [sizeLine_eq]; simp, NewR.mk fun pt H8 hn8 e8 hpt => by
          obtain ⟨d8, b8⟩ := d7.grow hn8 e8 hpt
          exact q _ (.promise hh t2) _ H8 ⟨hhC, g0, g1⟩ (bb.trans b8) ⟨pt, rfl, .inl (.inl upd_same)⟩ d8⟩
      refine k_iteD (fun hk => ?_) fun hk => ?_
      · walk_at "go"
        refine q_dg ((pp.mono hB6).pr) hp0 fun w hw => ?_
        obtain rfl : w = .int p0 := hw
        walk_at "go"
        refine ⟨BB, dl, 2, rfl, d6, by omega, by omega, fun k2 H7 k20 k21 d7 => ?_⟩
        walk_at "go"
        exact (fin _ H7 (by omega) (by omega) d7).2
      · walk_at "go"
        refine ⟨BB, dl, 7, rfl, d6, by omega, by omega, fun k2 H7 k20 k21 d7 => ?_⟩
        walk_at "go"
        exact (fin _ H7 (by omega) (by omega) d7).2
    · walk_at "go"
      with_reducible refine kw_vals ?_
      walk_at "go"
      obtain ⟨ns, hns, hnM⟩ := vals_le cp hb.1
      refine ⟨ap, kp, rfl, .inr ⟨op, hB5 _ _ hdp⟩, ?_⟩
      refine NewR.mk fun l6 H6 hn6 e6 hl6 => ?_
      rw [hns] at hl6
      obtain ⟨d6, b6⟩ := d5.grow hn6 e6 hl6
      walk_at "go"
      refine NewR.mk fun l7 H7 hn7 e7 hl7 => ?_
      walk_at "go"
      have hnl : ns.length ≤ 7 := by
        have := congrArg List.length hns
        simp only [List.length_map] at this
        have := cp.len
        omega
      refine k_cat (e7 _ _ hl6) hl7 (by rw [List.length_map, sizeLine_eq]; simp only [List.length_cons, List.length_nil]; omega) ?_
      refine NewR.mk fun l8 H8 hn8 e8 hl8 => ?_
      rw [show ns.map V.int ++ [V.int 0] = (ns ++ [0]).map V.int by rw [List.map_append]; rfl] at hl8
      walk_at "go"
      refine q_maxL hl8 (by rw [List.length_append]; simp) fun m1 hm1 hm1x => ?_
      have m10 : 0 ≤ m1 := hm1x 0 (by simp)
      have m1M : m1 ≤ M := by
        rcases List.mem_append.mp hm1 with h | h
        · exact hnM m1 h
        · have : m1 = 0 := by simpa using h
          omega
      have e58 := e6.trans (e7.trans e8)
      walk_at "go"
      refine q_sortD ((pp5.mono e58).rw) hn fun ys l9 H9 hs9 hnd9 hys9 hyl9 hn9 e9 hl9 => ?_
      walk_at "go"
      refine NewR.mk fun l10 H10 hn10 e10 hl10 => ?_
      walk_at "go"
      refine k_cat (e10 _ _ hl9) hl10 (by rw [List.length_map, sizeLine_eq]; simp only [List.length_cons, List.length_nil]; omega) ?_
      refine NewR.mk fun l11 H11 hn11 e11 hl11 => ?_
      rw [show ys.map V.int ++ [V.int 0] = (ys ++ [0]).map V.int by rw [List.map_append]; rfl] at hl11
      walk_at "go"
      refine q_maxL hl11 (by rw [List.length_append]; simp) fun m2 hm2 hm2x => ?_
      have m20 : 0 ≤ m2 := hm2x 0 (by simp)
      have m2M : m2 ≤ M := by
        rcases List.mem_append.mp hm2 with h | h
        · obtain ⟨r, hrt⟩ := Option.isSome_iff_exists.mp ((hys9 m2).mp h)
          exact hb.2 m2 r hrt
        · have : m2 = 0 := by simpa using h
          omega
      walk_at "go"
      refine NewR.mk fun l12 H12 hn12 e12 hl12 => ?_
      have d12 := (d5.mono (e58.trans (e9.trans (e10.trans e11)))).grow hn12 e12 hl12
      obtain ⟨d12, b12⟩ := d12
      walk_at "go"
      refine ⟨_, dl, l12, _, rfl, d12, .inl (.inl upd_same), by simp, by simp, fun gi gv H13 hgi d13 => ?_⟩
      have hgv : ∃ g : Int, gv = .int g ∧ 0 ≤ g ∧ g ≤ M + 1 := by
        have hm := List.mem_of_getElem? hgi
        simp only [List.mem_cons, List.not_mem_nil, or_false] at hm
        rcases hm with rfl | rfl | rfl
        · exact ⟨_, rfl, t0, by omega⟩
        · exact ⟨_, rfl, m10, by omega⟩
        · exact ⟨_, rfl, by omega, by omega⟩
      obtain ⟨g, rfl, g0, gM⟩ := hgv
      have bb2 := bb.trans b12
      generalize hB2 : upd BB l12 _ = B2 at *
      have hpB2 := sm_T bb2 hp
      have hcB2 := sm_T bb2 hc
      have ppB2 := pp.mono bb2
      have hp13 := sm_T d13.sm hpB2
      have hc13 := sm_T d13.sm hcB2
      walk_at "go"
      intro D hD
      obtain ⟨ud, hud⟩ := d13.known
      have nD : D ≠ dl := fun z => by rw [z, hud] at hD; cases hD
      have bD : B2 D = none := by
        cases h : B2 D with
        | none => rfl
        | some u => have := d13.sm _ _ h; rw [hD] at this; cases this
      refine lc_it walk_tup (fun i H => ∃ zs : List Int, H D = some (.lst (zs.map V.int)) ∧ zs.Sublist (s.C.take i) ∧ DS B2 H dl) ⟨[], upd_same, List.nil_sublist _, d13.mono (sm_new hD)⟩ (fun i H _ ⟨zs, _, _, d⟩ => sm_T d.sm hcB2) (fun i x Ha Hb hi ⟨zs, hzs, hsub, da⟩ y => ?_) fun Hz ⟨zs, hzs, hsub, dz⟩ => ?_
      · obtain ⟨rfl, hy⟩ := y
        rw [List.getElem?_map] at hy
        obtain ⟨c, hcx, rfl⟩ := Option.map_eq_some_iff.mp hy
        have hcC := List.mem_of_getElem? hcx
        obtain ⟨pc, hpc⟩ := prom_val S hcC
        have hpa := sm_T da.sm hpB2
        have htk : s.C.take (i + 1) = s.C.take i ++ [c] := by rw [List.take_add_one, hcx]; rfl
        have add : ∀ H4 : Hp, H4 D = some (.lst (zs.map V.int)) → DS B2 H4 dl → ∃ acc, H4 D = some (.lst acc) ∧ acc.length < sizeLine ∧ ∃ zs : List Int, upd H4 D (.lst (acc ++ [V.int c])) D = some (.lst (zs.map V.int)) ∧ zs.Sublist (s.C.take (i + 1)) ∧ DS B2 (upd H4 D (.lst (acc ++ [V.int c]))) dl := fun H4 h4 d4 => by
          have hzl := hsub.length_le
          rw [List.length_take] at hzl
          obtain ⟨x, y, z, hd⟩ := d4.hd
          refine ⟨_, h4, by rw [List.length_map, sizeLine_eq]; omega, zs ++ [c], by rw [upd_same, List.map_append]; rfl, by rw [htk]; exact hsub.append (List.Sublist.refl _), sm_mut d4.sm bD, d4.bn, x, y, z, by rw [upd_ne (Ne.symm nD)]; exact hd⟩
        walk_at "go"
        refine q_dg ((ppB2.mono da.sm).pr) hpc fun w hw => ?_
        obtain rfl : w = .int pc := hw
        walk_at "go"
        refine k_iteD (fun hle => ?_) fun hle => ?_
        · walk_at "go"
          exact add _ hzs da
        · walk_at "go"
          obtain ⟨dn, en⟩ := da.now
          refine ⟨_, dl, 6, rfl, dn, by omega, by omega, fun k H4 k0 k1 d4 => ?_⟩
          have h4 : H4 D = some (.lst (zs.map V.int)) := d4.sm _ _ (by rw [cut_ne nD]; exact hzs)
          have d4' : DS B2 H4 dl := ⟨en.trans d4.sm, da.bn, d4.hd⟩
          walk_at "go"
          refine k_iteD (fun hk => ?_) fun hk => ?_
          · walk_at "go"
            exact add _ h4 d4'
          · exact ⟨zs, h4, by rw [htk]; exact hsub.trans (List.sublist_append_left _ _), d4'⟩
      · rw [List.length_map, List.take_length] at hsub
        have hasc : ∀ {zz : List Int}, zz.Sublist s.C → zz.Pairwise (· < ·) ∧ ∀ h ∈ zz, h ∈ s.C := fun {zz} hz => ⟨S.circ.up.sublist hz, fun h hh => hz.subset hh⟩
        have d2z : DS (upd B2 D (.lst (zs.map V.int))) Hz dl := ⟨sm_put dz.sm hzs, by rw [upd_ne (Ne.symm nD)]; exact dz.bn, dz.hd⟩
        have b2z : Same B2 (upd B2 D (.lst (zs.map V.int))) := sm_new bD
        walk_at "go"
        refine ⟨_, dl, 3, rfl, d2z, by omega, by omega, fun k H14 k0 k1 d14 => ?_⟩
        have hD14 := d14.sm _ _ (show upd B2 D (.lst (zs.map V.int)) D = _ from upd_same)
        have hp14 := sm_T d14.sm (sm_T b2z hpB2)
        have hc14 := sm_T d14.sm (sm_T b2z hcB2)
        have bfin := bb2.trans b2z
        walk_at "go"
        refine k_iteD (fun hk => ?_) fun hk => ?_
        · walk_at "go"
          refine NewR.mk fun tl H15 hn15 e15 htl => ?_
          obtain ⟨d15, b15⟩ := d14.grow hn15 e15 htl
          walk_at "go"
          refine NewR.mk fun pt H16 hn16 e16 hpt => ?_
          obtain ⟨d16, b16⟩ := d15.grow hn16 e16 hpt
          exact q _ (.lead g zs) _ H16 ⟨g0, by omega, (hasc hsub).1, (hasc hsub).2⟩ (bfin.trans (b15.trans b16)) ⟨pt, tl, rfl, .inl (.inl upd_same), .inl (.inl (b16 _ _ upd_same))⟩ d16
        · walk_at "go"
          rw [List.length_map]
          refine q_slL (.inl (.inl hD14)) ?_
          rw [cutV_map V.int zs _ (by
            rw [Int.fdiv_eq_ediv_of_nonneg _ (by omega)]; omega)]
          refine NewR.mk fun l15 H15 hn15 e15 hl15 => ?_
          obtain ⟨d15, b15⟩ := d14.grow hn15 e15 hl15
          walk_at "go"
          refine NewR.mk fun tl H16 hn16 e16 htl => ?_
          obtain ⟨d16, b16⟩ := d15.grow hn16 e16 htl
          walk_at "go"
          refine NewR.mk fun pt H17 hn17 e17 hpt => ?_
          obtain ⟨d17, b17⟩ := d16.grow hn17 e17 hpt
          have hsub2 : ∀ k, (zs.take k).Sublist s.C := fun k => (List.take_sublist k zs).trans hsub
          exact q _ (.lead g _) _ H17 ⟨g0, by omega, (hasc (hsub2 _)).1, (hasc (hsub2 _)).2⟩ (bfin.trans (b15.trans (b16.trans b17))) ⟨pt, tl, rfl, .inl (.inl upd_same), .inl (.inl (b17 _ _ upd_same))⟩ d17
    · walk_at "go"
      refine ⟨BB, dl, rfl, d5, fun ev e B6 H6 b6 he hok d6 => ?_⟩
      walk_at "go"
      refine NewR.mk fun pt H8 hn8 e8 hpt => ?_
      obtain ⟨d8, b8⟩ := d6.grow hn8 e8 hpt
      exact q _ (.append t e) _ H8 ⟨t0, by omega, hok⟩ (bb.trans (b6.trans b8)) ⟨pt, ev, rfl, .inl (.inl upd_same), he.mono b8⟩ d8
    · walk_at "go"
      refine q_g2T (fun e z => z.mono e) pp5.rw (by rfl) fun o p2 H6 hn2 e6 hp2 ho => ?_
      obtain ⟨d6, b6⟩ := d5.grow hn2 e6 hp2
      have hrow : ∃ ra rx, o.getD (.ref p2) = .ref ra ∧ SqT K H6 ra rx ∧ rx.length ≤ 1000 := by
        cases hrt : s.rw t with
        | none =>
          rw [hrt] at ho
          rw [ho.none_of]
          exact ⟨p2, [], rfl, .inl (.inl hp2), by simp⟩
        | some r =>
          rw [hrt] at ho
          obtain ⟨w, rfl, ra, rx, rfl, hrx, hrp⟩ := ho.some_of
          exact ⟨ra, rx, rfl, hrx, by rw [Paired.length hrp]; exact hlen t r hrt⟩
      obtain ⟨ra, rx, er, hrx, hrl⟩ := hrow
      rw [er]
      walk_at "go"
      refine NewR.mk fun l7 H7 hn7 e7 hl7 => ?_
      obtain ⟨d7, b7⟩ := d6.grow hn7 e7 hl7
      walk_at "go"
      refine ⟨_, dl, l7, _, rfl, d7, .inl (.inl upd_same), by simp, by simp, fun i kv H8 hki d8 => ?_⟩
      have hkv : ∃ k : Int, kv = .int k ∧ -1 ≤ k ∧ k ≤ 2 := by
        have hm := List.mem_of_getElem? hki
        simp only [List.mem_cons, List.not_mem_nil, or_false] at hm
        rcases hm with rfl | rfl | rfl | rfl | rfl <;> exact ⟨_, rfl, by omega, by omega⟩
      obtain ⟨k, rfl, k0, k1⟩ := hkv
      walk_at "go"
      refine NewR.mk fun pt H9 hn9 e9 hpt => ?_
      obtain ⟨d9, b9⟩ := d8.grow hn9 e9 hpt
      refine q _ (.vote hh t (if (rx.length : Int) - k > 0 then (rx.length : Int) - k else 0)) _ H9 ⟨hhC, t0, by omega, ?_, ?_⟩ (bb.trans (b6.trans (b7.trans b9))) ⟨pt, rfl, .inl (.inl upd_same)⟩ d9
      · split <;> omega
      · split <;> omega
end

/-! W33 -/
section
variable {P : Program} {w : World} {K : PySem.W.Frag} {mg : Str → Option Value} {base : Heap} {a : Adr}

def WRg1 (vs : List V) (H : Hp) (R : It → Hp → Prop) : Prop := ∃ j : Int, vs = [.int j] ∧ -(2 ^ 62) ≤ j ∧ j < 2 ^ 62 ∧ R (Itr 0 j.toNat) H
theorem kw_rng1 {σ : L2.St} {H : Hp} {ta : TA} {R : It → Hp → Prop} (h : ta σ H fun vs H1 => WRg1 vs H1 R) : iRng1 ta σ H R := h
theorem q_rg1 {H : Hp} {R : It → Hp → Prop} {j : Int} (h0 : 0 ≤ j) (h1 : j ≤ 1000) (q : R (Itr 0 j.toNat) H) : WRg1 [.int j] H R := ⟨j, rfl, by omega, by omega, q⟩
def sp_llet (K : PySem.W.Frag) : Sp := fun vs H Q _ => ∃ (B : Hp) (dl : Addr) (v : V) (s : Pm.St) (n : Nat) (M : Int), vs = [.ref dl, v] ∧ DS B H dl ∧ LPic K B v s n ∧ Pm.Sound s ∧ n < 64 ∧ (∀ t r, s.rw t = some r → r.length ≤ 1000) ∧ Bd s M ∧ 8 ≤ M ∧
  ∀ (v' : V) (B' H' : Hp), Same B B' → DS B' H' dl → (v' = .non ∨ ∃ act, ActAt K B' v' act ∧ ActOk s (M + 2) act ∧ Pm.Let s act) → Q v' H'
abbrev s_law_let : Stmt := (top 100)
abbrev N_law_let : List Str := ["_law_dice_here", "_law_picture", "_law_lap", "_law_action"]
theorem sc_law_let : FnScope N_law_let ["_law_dice_here", "_law_picture"] (C8.fnScope s_law_let) := C8.fnScope_by (by decide +kernel)
theorem ok_law_let (D : DefX K mg "_law_let" "_law_let" s_law_let ["_law_dice_here", "_law_picture"]) (T : Txt K mg a) (c_law_pi_action : C8.Cal P w K mg base 4 "_law_pi_action" (sp_action K) []) (c_law_pi_is_let : C8.Cal P w K mg base 3 "_law_pi_is_let" (sp_islet K) [])  : C8.Cal P w K mg base 5 "_law_let" (sp_llet K) [] :=
  calX D sc_law_let (fun vs H Q E h => by obtain ⟨B, dl, v, s, n, M, rfl, d, h, S, hn, hlen, hb, hM, q⟩ := h; rfl) fun f cdv A outer s H vs Q E hr h => by
    have hu := hu_of hr
    obtain ⟨B, dl, v, s, n, M, rfl, d, h, S, hn, hlen, hb, hM, q⟩ := h
    refine ⟨_, (pss_cons (ps_for PassesOwn.never rfl (pi_range1 (by rfl) T.z_range (pa_cons pe_int pa_nil)) (pg_name (i := 2) sc_law_let.nd rfl (.inl rfl))
          (pss_cons (ps_set (i := 3) sc_law_let.nd rfl (.inl rfl) (C8.pe_c c_law_pi_action hr (by decide) (by rfl) (pa_cons (pv 0) (pa_cons (pv 1) pa_nil))))
          (pss_one (ps_if (pt_val (C8.pe_c c_law_pi_is_let hr (by decide) (by rfl) (pa_cons (pv 1) (pa_cons (pv 3) pa_nil))))
            (pss_one (ps_ret (pv 3)))
            pss_nil))))
      (pss_one (ps_ret pe_non))), ?_⟩
    walk_at "go"
    with_reducible refine kw_rng1 ?_
    walk_at "go"
    refine q_rg1 (by omega) (by omega) ?_
    refine for_go walk_range (fun i σ' H' => (∃ x y, σ' = [some (.ref dl), some v, x, y]) ∧ ∃ B', Same B B' ∧ DS B' H' dl) ⟨⟨_, _, rfl⟩, B, Same.refl _, d⟩ (fun _ _ _ _ _ => True.intro) (fun i x σ' Ha Hb hi hp y => ?_) fun σ' H' hp => ?_
    · obtain ⟨⟨x1, x2, rfl⟩, B1, b1, d1⟩ := hp
      obtain ⟨rfl, rfl⟩ := y
      walk_at "go"
      refine ⟨B1, dl, v, s, n, M, rfl, d1, h.mono b1, S, hn, hlen, hb, hM, fun v2 act B2 H2 hok b2 hact d2 => ?_⟩
      walk_at "go"
      refine ⟨v, v2, s, n, act, M + 2, rfl, (h.mono (b1.trans b2)).mono d2.sm, S, hact.mono d2.sm, hok, fun b H3 hlet e3 => ?_⟩
      have d3 := d2.mono e3
      walk_at "go"
      refine k_ite (fun hy => ?_) fun hy => ?_
      · walk_at "go"
        exact q v2 B2 H3 (b1.trans b2) d3 (.inr ⟨act, hact, hok, hlet hy⟩)
      · walk_at "go"
        exact ⟨⟨_, _, rfl⟩, B2, b1.trans b2, d3⟩
    · obtain ⟨⟨x1, x2, rfl⟩, B1, b1, d1⟩ := hp
      walk_at "go"
      exact q .non B1 H' b1 d1 (.inl rfl)
def sp_drawn (K : PySem.W.Frag) : Sp := fun vs H Q _ => ∃ (B : Hp) (dl : Addr) (v : V) (s : Pm.St) (n : Nat) (M : Int), vs = [.ref dl, v] ∧ DS B H dl ∧ LPic K B v s n ∧ Pm.Sound s ∧ n < 50 ∧ Bd s M ∧ 8 ≤ M ∧
  ∀ (l : Addr) (ys : List V) (acts : List Pm.Act) (B' H' : Hp), Same B B' → B' l = none → l ≠ dl → H' l = some (.lst ys) → Paired (ActAt K B') ys acts → (∀ a ∈ acts, ActOk s (M + 2) a) → ys.length ≤ 20 → DS B' H' dl → Q (.ref l) H'
abbrev s_law_lead_drawn : Stmt := (top 101)
abbrev N_law_lead_drawn : List Str := ["_law_dice_here", "_law_picture", "_law_circle", "_law_promised", "_law_term", "_law_lot", "_law_house"]
theorem sc_law_lead_drawn : FnScope N_law_lead_drawn ["_law_dice_here", "_law_picture"] (C8.fnScope s_law_lead_drawn) := C8.fnScope_by (by decide +kernel)
theorem ok_law_lead_drawn (D : DefX K mg "_law_lead_drawn" "_law_lead_drawn" s_law_lead_drawn ["_law_dice_here", "_law_picture"]) (T : Txt K mg a) (c_law_mixed : C8.Cal P w K mg base 2 "_law_mixed" (sp_mixed K) []) (c_law_roll : C8.Cal P w K mg base 1 "_law_roll" sp_roll [])  : C8.Cal P w K mg base 3 "_law_lead_drawn" (sp_drawn K) [] :=
  calX D sc_law_lead_drawn (fun vs H Q E h => by obtain ⟨B, dl, v, s, n, M, rfl, d, h, S, hn, hb, hM, q⟩ := h; rfl) fun f cdv A outer s H vs Q E hr h => by
    have hu := hu_of hr
    obtain ⟨B, dl, v, s, n, M, rfl, d, h, S, hn, hb, hM, q⟩ := h
    obtain ⟨p, vc, vp, vr, vf, vv, rfl, hp, pp⟩ := id h
    obtain ⟨ac, rfl, hc⟩ := id pp.cir
    have h7 := S.circ.le
    have h71 := S.circ.ge
    have hpH := sm_T d.sm hp
    have hcH := sm_T d.sm hc
    refine ⟨_, (pss_cons (ps_asg (pe_tup (pa_cons (pe_ix (kx_ix (K := K)) (pv 1) pe_int (fun _ _ => rfl)) (pa_cons (pe_ix (kx_ix (K := K)) (pv 1) pe_int (fun _ _ => rfl)) pa_nil))) (kx_gtup (K := K) (n := 2) (by rfl) (pgs_cons (pg_name (i := 2) sc_law_lead_drawn.nd rfl (.inl rfl)) (pgs_cons (pg_name (i := 3) sc_law_lead_drawn.nd rfl (.inr rfl)) pgs_nil))))
      (pss_cons (ps_set (i := 4) sc_law_lead_drawn.nd rfl (.inr rfl) (pe_op op_add pe_int (pe_callB (kx_max (K := K) rfl) (by rfl) T.z_max (by decide +kernel) (pa_cons (pe_op op_cat (pe_callB (cx_sortDI rfl) (by rfl) T.z_sorted (by decide +kernel) (pa_cons (pe_ix (kx_ix (K := K)) (pv 1) pe_int (fun _ _ => rfl)) pa_nil)) (pe_lc (own := [("_law_house", 6)]) rfl sc_law_lead_drawn.nd (kx_tup (K := K) (pv 2)) (blkOk_by (N := N_law_lead_drawn) (sc := (C8.fnScope s_law_lead_drawn)) (by decide +kernel)) (fun _ _ _ _ _ => (pg_name (i := 6) sc_law_lead_drawn.nd rfl (.inl rfl))) (fun _ _ _ _ _ => pts_nil) (fun _ _ _ _ _ => (pe_dget hu (pv 3) (pv 6) (fun _ _ => rfl))))) pa_nil))))
      (pss_cons (ps_set (i := 5) sc_law_lead_drawn.nd rfl (.inl rfl) (pe_callB (kx_sorted (K := K)) (by rfl) T.z_sorted (by decide +kernel) (pa_cons (pe_slice (kx_slL (K := K)) (C8.pe_c c_law_mixed hr (by decide) (by rfl) (pa_cons (pv 0) (pa_cons (pe_callTy (kx_listOf (K := K)) (by rfl) T.z_list (by decide +kernel) (pa_cons (pv 2) pa_nil)) pa_nil))) po_none (po_some (pe_op op_add (pe_op op_add (pe_op op_fdivN (pe_callB (kx_len (K := K)) (by rfl) T.z_len PySem.boot_len (pa_cons (pv 2) pa_nil)) pe_int) pe_int) (C8.pe_c c_law_roll hr (by decide) (by rfl) (pa_cons (pv 0) (pa_cons pe_int pa_nil)))))) pa_nil)))
      (pss_one (ps_ret (pe_op op_cat (pe_lc (own := [("_law_house", 6)]) rfl sc_law_lead_drawn.nd (kx_list (K := K) (pv 5)) (blkOk_by (N := N_law_lead_drawn) (sc := (C8.fnScope s_law_lead_drawn)) (by decide +kernel)) (fun _ _ _ _ _ => (pg_name (i := 6) sc_law_lead_drawn.nd rfl (.inl rfl))) (fun _ _ _ _ _ => pts_nil) (fun _ _ _ _ _ => (pe_tup (pa_cons pe_str (pa_cons (pv 6) (pa_cons (pv 4) pa_nil)))))) (pe_lst (pa_cons (pe_tup (pa_cons pe_str (pa_cons (pv 4) (pa_cons (pe_callTy (kx_tupOf (K := K)) (by rfl) T.z_tuple (by decide +kernel) (pa_cons (pv 5) pa_nil)) pa_nil)))) pa_nil)))))))), ?_⟩
    walk_at "go"
    refine NewR.mk fun t0 H0 hn0 e0 ht0 => ?_
    obtain ⟨d0, b0⟩ := d.grow hn0 e0 ht0
    have hpH0 := sm_T e0 hpH
    walk_at "go"
    have pp0 := (pp.mono b0).mono d0.sm
    refine q_sortD pp0.rw (by omega) fun ys l1 H1 hs1 hnd1 hys1 hyl1 hn1 e1 hl1 => ?_
    walk_at "go"
    have hc1 := sm_T e1 (sm_T e0 hcH)
    walk_at "go"
    refine lc_val walk_tup s.C (fun _ => true) (fun h => .int (s.pg h)) (by rw [List.length_map]) (by rw [List.length_map]; omega) (fun _ e => sm_T e hc1) (fun i x y Ha Hb hx e yy Ky Kn ky kn => ?_) fun D H2 hD e2 hl2 => ?_
    · obtain ⟨rfl, hy⟩ := yy
      rw [List.getElem?_map, hx] at hy
      obtain rfl : V.int x = y := Option.some.inj hy
      obtain ⟨p0, hp0⟩ := prom_val S (List.mem_of_getElem? hx)
      rw [Pm.pg_of hp0] at ky
      walk_at "go"
      refine q_dg (((pp0.mono e1).mono e).pr) hp0 fun w hw => ?_
      obtain rfl : w = .int p0 := hw
      exact ky _ (Same.refl _) rfl
    · rw [List.filter_eq_self.mpr fun _ _ => rfl] at hl2
      walk_at "go"
      refine k_cat (e2 _ _ hl1) hl2 (by rw [List.length_map, List.length_map, sizeLine_eq]; omega) ?_
      refine NewR.mk fun l3 H3 hn3 e3 hl3 => ?_
      rw [show ys.map V.int ++ s.C.map (fun h => V.int (s.pg h)) = (ys ++ s.C.map s.pg).map V.int by rw [List.map_append, List.map_map]; rfl] at hl3
      walk_at "go"
      refine q_maxL hl3 (by rw [List.length_append, List.length_map]; omega) fun m hm hmx => ?_
      have hmb : -1 ≤ m ∧ m ≤ M := by
        constructor
        · obtain ⟨c, hcx⟩ : ∃ c, c ∈ s.C := by
            cases hC : s.C with
            | nil => rw [hC] at h71; simp at h71
            | cons c r => exact ⟨c, List.mem_cons_self⟩
          obtain ⟨p0, hp0⟩ := prom_val S hcx
          have h1 := S.prm c p0 hp0
          have h2 := hmx (s.pg c) (List.mem_append_right _ (List.mem_map.mpr ⟨c, hcx, rfl⟩))
          rw [Pm.pg_of hp0] at h2
          omega
        · rcases List.mem_append.mp hm with h | h
          · obtain ⟨r, hrt⟩ := Option.isSome_iff_exists.mp ((hys1 m).mp h)
            exact hb.2 m r hrt
          · obtain ⟨c, hcx, rfl⟩ := List.mem_map.mp h
            obtain ⟨p0, hp0⟩ := prom_val S hcx
            rw [Pm.pg_of hp0]
            exact hb.1 c p0 hp0
      have d3 := d0.mono (e1.trans (e2.trans e3))
      have hc3 := sm_T (e2.trans e3) hc1
      walk_at "go"
      refine NewR.mk fun l4 H4 hn4 e4 hl4 => ?_
      obtain ⟨d4, b4⟩ := d3.grow hn4 e4 hl4
      walk_at "go"
      refine ⟨_, dl, l4, s.C, rfl, d4, .inl (.inl upd_same), by omega, fun p5 zs B5 H5 hzs b5 hp5 d5 => ?_⟩
      have bb := b0.trans (b4.trans b5)
      have hc5 := sm_T d5.sm (sm_T bb hc)
      walk_at "go"
      refine ⟨B5, dl, 2, rfl, d5, by omega, by omega, fun k H6 k0 k1 d6 => ?_⟩
      have hp6 := d6.sm _ _ hp5
      walk_at "go"
      rw [List.length_map]
      refine q_slL (.inl (.inl hp6)) ?_
      rw [cutV_map V.int zs _ (by rw [Int.fdiv_eq_ediv_of_nonneg _ (by omega)]; omega)]
      refine NewR.mk fun l7 H7 hn7 e7 hl7 => ?_
      walk_at "go"
      have hzl : zs.length = s.C.length := hzs.length_eq
      refine k_sorted (.inl (.inl hl7)) (by rw [List.length_take]; omega) fun lot l8 H8 hlp hls hn8 e8 hl8 => ?_
      have hzn : zs.Nodup := hzs.nodup_iff.mpr S.nd
      have hln : lot.Nodup := hlp.nodup_iff.mpr (List.Nodup.sublist (List.take_sublist _ _) hzn)
      have hlu : lot.Pairwise (· < ·) := (hls.and hln).imp fun ⟨h1, h2⟩ => by omega
      have hlC : ∀ h ∈ lot, h ∈ s.C := fun h hh => hzs.mem_iff.mp (List.mem_of_mem_take (hlp.mem_iff.mp hh))
      have hll : lot.length ≤ 7 := by rw [hlp.length_eq, List.length_take]; omega
      have d8 := d6.mono (e7.trans e8)
      walk_at "go"
      refine lc_obj walk_list lot (fun _ => true) (fun H v x => ∃ q, v = .ref q ∧ SqT K H q [.str "promise", .int x, .int (1 + m)]) (fun {H H' v x} e z => ?_) (by rw [List.length_map]) (by rw [List.length_map]; omega) (fun _ e => .inl (.inl (e _ _ hl8))) (fun i x y B9 Ha Hb D9 hx eb bd hD eB yy Ky Kn ky kn => ?_) fun D9 H9 ys9 hD9 e9 hl9 hp9 => ?_
      · obtain ⟨q, rfl, h⟩ := z
        exact ⟨q, rfl, sm_T e h⟩
      · obtain ⟨rfl, hy⟩ := yy
        rw [List.getElem?_map, hx] at hy
        obtain rfl : V.int x = y := Option.some.inj hy
        walk_at "go"
        refine NewR.mk fun q1 H10 hq1 e10 hq10 => ?_
        obtain ⟨g1, g2, g3⟩ := grow eB bd hD hq1 e10 hq10
        exact ky _ _ _ g1 g3 g2 e10 rfl ⟨q1, rfl, .inl (.inl upd_same)⟩
      · rw [List.filter_eq_self.mpr fun _ _ => rfl] at hp9
        have hl89 := e9 _ _ hl8
        walk_at "go"
        refine NewR.mk fun tl H10 hn10 e10 htl => ?_
        walk_at "go"
        refine NewR.mk fun pt H11 hn11 e11 hpt => ?_
        walk_at "go"
        refine NewR.mk fun l12 H12 hn12 e12 hl12 => ?_
        walk_at "go"
        have e912 := e10.trans (e11.trans e12)
        have hyl9 : ys9.length = lot.length := Paired.length hp9
        refine k_cat (e912 _ _ hl9) hl12 (by rw [sizeLine_eq, hyl9]; simp only [List.length_cons, List.length_nil]; omega) fun l13 hl13 => ?_
        have d12 := d8.mono (e9.trans e912)
        obtain ⟨ud, hud⟩ := d12.known
        have nl : l13 ≠ dl := fun z => by rw [z, hud] at hl13; cases hl13
        obtain ⟨dn, en⟩ := d12.now
        have el : Same H12 (upd H12 l13 (.lst (ys9 ++ [V.ref pt]))) := sm_new hl13
        have dF : DS (cut H12 dl) (upd H12 l13 (.lst (ys9 ++ [V.ref pt]))) dl := dn.mono el
        have ct : ∀ {q : Addr} {xs : List V}, SqT K H12 q xs → SqT K (cut H12 dl) q xs := fun {q xs} hq => by
          obtain ⟨x, y, z, hd⟩ := d12.hd
          exact cut_T hq hd
        refine q l13 _ (lot.map (fun h => .promise h (1 + m)) ++ [.lead (1 + m) lot]) (cut H12 dl) _ (bb.trans en) ?_ nl upd_same ?_ ?_ ?_ dF
        · rw [cut_ne nl]; exact hl13
        · refine paired_snoc ?_ ⟨pt, tl, rfl, ct (.inl (.inl (e12 _ _ hpt))), ct (.inl (.inl ((e11.trans e12) _ _ htl)))⟩
          have key : ∀ {ys : List V} {L : List Int}, Paired (fun v x => ∃ q, v = .ref q ∧ SqT K H9 q [.str "promise", .int x, .int (1 + m)]) ys L → Paired (ActAt K (cut H12 dl)) ys (L.map fun h => .promise h (1 + m)) := by
            intro ys L hp
            induction hp with
            | nil => exact .nil
            | cons h t ih =>
              obtain ⟨q, rfl, hq⟩ := h
              exact .cons ⟨q, rfl, ct (sm_T e912 hq)⟩ ih
          exact key hp9
        · intro a ha
          rcases List.mem_append.mp ha with ha | ha
          · obtain ⟨hh, hhx, rfl⟩ := List.mem_map.mp ha
            exact ⟨hlC hh hhx, by omega, by omega⟩
          · obtain rfl : a = .lead (1 + m) lot := by simpa using ha
            exact ⟨by omega, by omega, hlu, hlC⟩
        · rw [List.length_append, hyl9]; simp only [List.length_cons, List.length_nil]; omega
end

/-! W34 -/
section
variable {P : Program} {w : World} {K : PySem.W.Frag} {mg : Str → Option Value} {base : Heap} {a : Adr}

def PrR (C : Addr) (sp : Sp) (E : XK) (x : V) (H1 : Hp) (Q : VK) : Prop := ∃ a dx vs, x = .ref a ∧ SlX.Slt H1 a C dx vs ∧ sp [.ref a] H1 Q E
theorem kw_prop {σ : L2.St} {H : Hp} {C : Addr} {sp : Sp} {E : XK} {ta : TE} {Q : VK} (h : ta σ H fun x H1 => PrR C sp E x H1 Q) : SlX.tPropSl C sp E ta σ H Q := h
theorem q_prop {C : Addr} {sp : Sp} {E : XK} {x : V} {H : Hp} {Q : VK} {s : Pm.St} {n : Nat} (h : PPic K C H x s n) (q : sp [x] H Q E) : PrR C sp E x H Q := by
  obtain ⟨ad, dx, _, _, _, _, _, rfl, hs, _⟩ := h
  exact ⟨ad, dx, _, rfl, hs, q⟩
def MeR (C : Addr) (sp : Sp) (E : XK) (x : V) (σ : L2.St) (H1 : Hp) (t : TA) (Q : VK) : Prop := ∃ a dx vs, x = .ref a ∧ SlX.Slt H1 a C dx vs ∧ t σ H1 fun ws H2 => sp (x :: ws) H2 Q E
theorem kw_meth {σ : L2.St} {H : Hp} {C : Addr} {sp : Sp} {E : XK} {ta : TE} {t : TA} {Q : VK} (h : ta σ H fun x H1 => MeR C sp E x σ H1 t Q) : SlX.tMethSl C sp E ta t σ H Q := h
theorem q_meth {C : Addr} {sp : Sp} {E : XK} {x : V} {σ : L2.St} {H : Hp} {t : TA} {Q : VK} {s : Pm.St} {n : Nat} (h : PPic K C H x s n) (q : t σ H fun ws H2 => sp (x :: ws) H2 Q E) : MeR C sp E x σ H t Q := by
  obtain ⟨ad, dx, _, _, _, _, _, rfl, hs, _⟩ := h
  exact ⟨ad, dx, _, rfl, hs, q⟩
theorem q_own2 {C : Addr} {sp : Sp} {E : XK} {x y : V} {H : Hp} {Q : VK} {s t : Pm.St} {n m : Nat} (nf : PySem.W.notFirst K C (.ref C) = true) (h : PPic K C H x s n) (g : PPic K C H y t m) (q : sp [x, y] H Q E) : SlX.rOwn K C sp E x y H Q := by
  obtain ⟨ad, dx, _, _, _, _, _, rfl, hs, _⟩ := h
  obtain ⟨bd, dy, _, _, _, _, _, rfl, gs, _⟩ := g
  exact ⟨ad, dx, _, bd, C, dy, _, rfl, rfl, hs, gs, nf, q⟩
def sp_ptold (K : PySem.W.Frag) (a : Adr) : Sp := fun vs H Q _ => ∃ x s n, vs = [x] ∧ PPic K a.cp H x s n ∧ n ≤ 1000 ∧ ∀ p vc vp vr vf vv H', Same H H' → H' p = some (.tup [vc, vp, vr, vf, vv]) → RParts K H' vc vp vr vf vv s n → Q (.ref p) H'
abbrev s_law_pi_told : Stmt := (top 99)
abbrev N_law_pi_told : List Str := ["_law_picture"]
theorem sc_law_pi_told : FnScope N_law_pi_told ["_law_picture"] (C8.fnScope s_law_pi_told) := C8.fnScope_by (by decide +kernel)
theorem ok_law_pi_told (D : DefX K mg "_law_pi_told" "_law_pi_told" s_law_pi_told ["_law_picture"]) (T : Txt K mg a)  (C : Cls K a) (m_circle : PrpX P w K mg base 1 a.cp "circle" (sp_cir K a)) (m_promised : PrpX P w K mg base 1 a.cp "promised" (sp_promised K a)) (m_rows : PrpX P w K mg base 1 a.cp "rows" (sp_rows K a)) (m_firsts : PrpX P w K mg base 1 a.cp "firsts" (sp_firsts K a)) (m_votes : PrpX P w K mg base 1 a.cp "votes" (sp_votes K a)) : C8.Cal P w K mg base 3 "_law_pi_told" (sp_ptold K a) [] :=
  calX D sc_law_pi_told (fun vs H Q E h => by obtain ⟨x, s, n, rfl, h, hn, q⟩ := h; rfl) fun f cdv A outer s H vs Q E hr h => by
    have hu := hu_of hr
    obtain ⟨x, s, n, rfl, h, hn, q⟩ := h
    refine ⟨_, (pss_one (ps_ret (pe_tup (pa_cons (kx_prop C.sP m_circle hr (by decide) (pv 0)) (pa_cons (kx_prop C.sP m_promised hr (by decide) (pv 0)) (pa_cons (kx_prop C.sP m_rows hr (by decide) (pv 0)) (pa_cons (kx_prop C.sP m_firsts hr (by decide) (pv 0)) (pa_cons (kx_prop C.sP m_votes hr (by decide) (pv 0)) pa_nil)))))))), ?_⟩
    walk_at "go"
    with_reducible refine kw_prop ?_
    walk_at "go"
    refine q_prop h ⟨x, s, n, rfl, h, fun vc hc => ?_⟩
    walk_at "go"
    with_reducible refine kw_prop ?_
    walk_at "go"
    refine q_prop h ⟨x, s, n, rfl, h, hn, fun vp H1 e1 r1 => ?_⟩
    walk_at "go"
    with_reducible refine kw_prop ?_
    walk_at "go"
    refine q_prop (h.mono e1) ⟨x, s, n, rfl, h.mono e1, hn, fun vr H2 e2 r2 => ?_⟩
    walk_at "go"
    with_reducible refine kw_prop ?_
    walk_at "go"
    have e12 := e1.trans e2
    refine q_prop (h.mono e12) ⟨x, s, n, rfl, h.mono e12, hn, fun vf H3 e3 r3 => ?_⟩
    walk_at "go"
    with_reducible refine kw_prop ?_
    walk_at "go"
    have e13 := e12.trans e3
    refine q_prop (h.mono e13) ⟨x, s, n, rfl, h.mono e13, hn, fun vv H4 e4 r4 => ?_⟩
    walk_at "go"
    refine NewR.mk fun p H5 hn5 e5 hp => ?_
    exact q p vc vp vr vf vv H5 (e13.trans (e4.trans e5)) hp ⟨hc.mono (e13.trans (e4.trans e5)), r1.monoI (e2.trans (e3.trans (e4.trans e5))), RDc.mono (fun e z => z.mono e) (e3.trans (e4.trans e5)) r2, r3.monoI (e4.trans e5), RDc.mono (fun e z => RDc.monoI e z) e5 r4⟩
/-- the answer of the tests of two drawn actions -/
theorem act_word {H : Hp} {v : V} {act : Pm.Act} (h : ActAt K H v act) : ∃ p w r, v = .ref p ∧ SqT K H p (.str w :: r) ∧ ((∃ hh, Pm.PV act hh ∧ (w = "promise" ∨ w = "vote") ∧ r[0]? = some (.int hh)) ∨ (w = "lead" ∨ w = "append")) := by
  cases act with
  | promise h0 t => obtain ⟨p, rfl, h⟩ := h; exact ⟨p, _, _, rfl, h, .inl ⟨h0, .promise, .inl rfl, rfl⟩⟩
  | lead t lot => obtain ⟨p, l, rfl, h, g⟩ := h; exact ⟨p, _, _, rfl, h, .inr (.inl rfl)⟩
  | append t x => obtain ⟨p, d, rfl, h, g⟩ := h; exact ⟨p, _, _, rfl, h, .inr (.inr rfl)⟩
  | vote h0 t m => obtain ⟨p, rfl, h⟩ := h; exact ⟨p, _, _, rfl, h, .inl ⟨h0, .vote, .inr rfl, rfl⟩⟩
def sp_exch (K : PySem.W.Frag) (a : Adr) : Sp := fun vs H Q _ => ∃ (B : Hp) (dl : Addr) (v y : V) (s : Pm.St) (n : Nat) (M : Int), vs = [.ref dl, v, y] ∧ DS B H dl ∧ LPic K B v s n ∧ PPic K a.cp B y s n ∧ Pm.Sound s ∧ n < 60 ∧ Pm.RL s n ∧ Bd s M ∧ 8 ≤ M ∧ M ≤ 100000 ∧
  ∀ (B' H' : Hp), Same B B' → DS B' H' dl → Q (.bl true) H'
abbrev s_law_do_exchange : Stmt := (top 102)
abbrev N_law_do_exchange : List Str := ["_law_dice_here", "_law_picture", "_law_made", "_law_one", "_law_other"]
theorem sc_law_do_exchange : FnScope N_law_do_exchange ["_law_dice_here", "_law_picture", "_law_made"] (C8.fnScope s_law_do_exchange) := C8.fnScope_by (by decide +kernel)
theorem ok_law_do_exchange (D : DefX K mg "_law_do_exchange" "_law_do_exchange" s_law_do_exchange ["_law_dice_here", "_law_picture", "_law_made"]) (T : Txt K mg a) (c_law_let : C8.Cal P w K mg base 5 "_law_let" (sp_llet K) []) (C : Cls K a) (m_done : MthX P w K mg base 8 a.cp "done" (sp_mdone K a)) (m_eq : OwnX P w K mg base 2 a.cp (sp_eq K a)) : C8.Cal P w K mg base 9 "_law_do_exchange" (sp_exch K a) [] :=
  calX D sc_law_do_exchange (fun vs H Q E h => by obtain ⟨B, dl, v, y, s, n, M, rfl, d, h, hy, S, hn, hrl, hb, hM, hM2, q⟩ := h; rfl) fun f cdv A outer s H vs Q E hr h => by
    have hu := hu_of hr
    obtain ⟨B, dl, v, y, s, n, M, rfl, d, h, hy, S, hn, hrl, hb, hM, hM2, q⟩ := h
    obtain ⟨_, _, _, nf, _⟩ := id m_eq
    refine ⟨_, (pss_cons (ps_par (i := 3) (j := 4) (by rfl) sc_law_do_exchange.nd rfl rfl (by decide) rfl rfl (pa_cons (C8.pe_c c_law_let hr (by decide) (by rfl) (pa_cons (pv 0) (pa_cons (pv 1) pa_nil))) (pa_cons (C8.pe_c c_law_let hr (by decide) (by rfl) (pa_cons (pv 0) (pa_cons (pv 1) pa_nil))) pa_nil)) (by rfl))
      (pss_cons (ps_if (PW.pt (pw_or (pt_cmpR ox_isN (pv 3) pe_non (nomark _)) (pw_or (pt_cmpR ox_isN (pv 4) pe_non (nomark _)) (pw_or (pt_cmpR (kx_nin (K := K)) (pe_ix (kx_ix (K := K)) (pv 3) pe_int (fun _ _ => rfl)) (pe_tup (pa_cons pe_str (pa_cons pe_str pa_nil))) (by rfl)) (pw_or (pt_cmpR (kx_nin (K := K)) (pe_ix (kx_ix (K := K)) (pv 4) pe_int (fun _ _ => rfl)) (pe_tup (pa_cons pe_str (pa_cons pe_str pa_nil))) (by rfl)) (pw_or1 (pt_cmpR op_eq (pe_ix (kx_ix (K := K)) (pv 3) pe_int (fun _ _ => rfl)) (pe_ix (kx_ix (K := K)) (pv 4) pe_int (fun _ _ => rfl)) (nomark _))))))))
          (pss_one (ps_ret pe_bl))
          pss_nil)
      (pss_one (ps_ret (pe_cmpR (ox_own m_eq hr (by decide)) (kx_meth C.sP m_done hr (by decide) (kx_meth C.sP m_done hr (by decide) (pv 2) (pa_cons (pv 3) pa_nil)) (pa_cons (pv 4) pa_nil)) (kx_meth C.sP m_done hr (by decide) (kx_meth C.sP m_done hr (by decide) (pv 2) (pa_cons (pv 4) pa_nil)) (pa_cons (pv 3) pa_nil)) (nomark _)))))), ?_⟩
    walk_at "go"
    refine ⟨B, dl, v, s, n, M, rfl, d, h, S, by omega, fun t r hr => by have := hrl t r hr; omega, hb, hM, fun v1 B1 H1 b1 d1 o1 => ?_⟩
    walk_at "go"
    refine ⟨B1, dl, v, s, n, M, rfl, d1, h.mono b1, S, by omega, fun t r hr => by have := hrl t r hr; omega, hb, hM, fun v2 B2 H2 b2 d2 o2 => ?_⟩
    have b12 := b1.trans b2
    walk_at "go"
    rcases o1 with rfl | ⟨act1, ha1, hk1, hl1⟩
    · walk_at "go"
      exact q B2 H2 b12 d2
    have ha1' := (ha1.mono b2).mono d2.sm
    obtain ⟨p1, w1, r1, rfl, hp1, hw1⟩ := act_word ha1'
    walk_at "go"
    rcases o2 with rfl | ⟨act2, ha2, hk2, hl2⟩
    · walk_at "go"
      exact q B2 H2 b12 d2
    have ha2' := ha2.mono d2.sm
    obtain ⟨p2, w2, r2, rfl, hp2, hw2⟩ := act_word ha2'
    walk_at "go"
    refine NewR.mk fun t3 H3 hn3 e3 ht3 => ?_
    rcases hw1 with ⟨h1, pv1, hw1, hr1⟩ | hw1
    rotate_left
    · refine k_ninT (b := false) (.inl (.inl ht3)) rfl rfl (by rcases hw1 with rfl | rfl <;> decide +kernel) ?_
      walk_at "go"
      exact q B2 H3 b12 (d2.mono e3)
    refine k_ninT (b := true) (.inl (.inl ht3)) rfl rfl (by rcases hw1 with rfl | rfl <;> decide +kernel) ?_
    walk_at "go"
    refine NewR.mk fun t4 H4 hn4 e4 ht4 => ?_
    rcases hw2 with ⟨h2, pv2, hw2, hr2⟩ | hw2
    rotate_left
    · refine k_ninT (b := false) (.inl (.inl ht4)) rfl rfl (by rcases hw2 with rfl | rfl <;> decide +kernel) ?_
      walk_at "go"
      exact q B2 H4 b12 (d2.mono (e3.trans e4))
    refine k_ninT (b := true) (.inl (.inl ht4)) rfl rfl (by rcases hw2 with rfl | rfl <;> decide +kernel) ?_
    have e34 := e3.trans e4
    have hp14 := sm_T e34 hp1
    have hp24 := sm_T e34 hp2
    walk_at "go"
    refine k_ixN hp14 (by decide) (v := .int h1) hr1 ?_
    walk_at "go"
    refine k_ixN hp24 (by decide) (v := .int h2) hr2 ?_
    walk_at "go"
    have d4 := d2.mono e34
    refine k_iteD (fun heq => ?_) fun heq => ?_
    · walk_at "go"
      exact q B2 H4 b12 d4
    · have hy4 := (hy.mono b12).mono d4.sm
      have a1 := ha1'.mono e34
      have a2 := ha2'.mono e34
      have sm1 := hk1.small S (by omega)
      have sm2 := hk2.small S (by omega)
      have len1 : ∀ {s' : Pm.St} {n' : Nat}, Pm.RL s' n' → n' ≤ 1000 → ∀ t r, s'.rw t = some r → r.length ≤ 1000 := fun hh hn t r hr => by have := hh t r hr; omega
      walk_at "go"
      with_reducible refine kw_meth ?_
      with_reducible refine kw_meth ?_
      walk_at "go"
      refine q_meth hy4 ?_
      walk_at "go"
      refine ⟨y, _, s, n, act1, rfl, hy4, S, by omega, len1 hrl (by omega), a1, sm1, hl1, fun x1 s1 H5 st1 e5 hx1 => ?_⟩
      refine q_meth hx1 ?_
      walk_at "go"
      refine ⟨x1, _, s1, n + 1, act2, rfl, hx1, st1.sound S, by omega, len1 (hrl.step st1) (by omega), a2.mono e5, sm2, Pm.let_after pv1 pv2 heq st1 hl2, fun x12 s12 H6 st12 e6 hx12 => ?_⟩
      walk_at "go"
      with_reducible refine kw_meth ?_
      with_reducible refine kw_meth ?_
      walk_at "go"
      have e56 := e5.trans e6
      refine q_meth (hy4.mono e56) ?_
      walk_at "go"
      refine ⟨y, _, s, n, act2, rfl, hy4.mono e56, S, by omega, len1 hrl (by omega), a2.mono e56, sm2, hl2, fun x2 s2 H7 st2 e7 hx2 => ?_⟩
      refine q_meth hx2 ?_
      walk_at "go"
      refine ⟨x2, _, s2, n + 1, act1, rfl, hx2, st2.sound S, by omega, len1 (hrl.step st2) (by omega), (a1.mono e56).mono e7, sm1, Pm.let_after pv2 pv1 (Ne.symm heq) st2 hl1, fun x21 s21 H8 st21 e8 hx21 => ?_⟩
      have es := Pm.exch pv1 pv2 heq st1 st2 st12 st21
      subst es
      have hxx := hx12.mono (e7.trans e8)
      refine q_own2 nf hxx hx21 ⟨x12, x21, s12, _, _, rfl, hxx, hx21, fun H9 e9 => ?_⟩
      exact q B2 H9 b12 (d4.mono (e56.trans (e7.trans (e8.trans e9))))
end

/-! W35 -/
section
variable {P : Program} {w : World} {K : PySem.W.Frag} {mg : Str → Option Value} {base : Heap} {a : Adr}

theorem q_popV {l : Addr} {y : V} {r : List V} {H : Hp} {Q : VK} (hd : H l = some (.lst (y :: r))) (hl : r.length ≤ 900) (q : Q y (upd H l (.lst r))) : rPopAt (.ref l) [.int 0] H Q := by
  have := q_pop (Q := Q) hd (k := 0) (y := y) rfl (by simp only [List.length_cons]; omega) q
  exact this
theorem bd_first {C : List Int} {M : Int} (hM : 0 ≤ M) : Bd (Pm.first C) M := by
  refine ⟨fun h p e => ?_, fun t r e => by cases e⟩
  have e' : (if h ∈ C then some (-1) else none : Option Int) = some p := e
  split at e'
  · cases e'; omega
  · cases e'
theorem bd_step {s s' : Pm.St} {a : Pm.Act} {M N : Int} (hb : Bd s M) (hk : ActOk s N a) (hMN : M ≤ N) (x : Pm.Step s a s') : Bd s' N := by
  obtain ⟨b1, b2⟩ := hb
  cases x with
  | promise l =>
    refine ⟨fun h p e => ?_, fun t r e => by have := b2 t r e; omega⟩
    rename_i h0 t0
    have e' : Pm.up s.pr h0 t0 h = some p := e
    unfold Pm.up at e'
    split at e'
    · cases e'; exact hk.2.2
    · have := b1 h p e'; omega
  | lead l w =>
    refine ⟨fun h p e => by have := b1 h p e; omega, fun t r e => ?_⟩
    rename_i t0 lot row
    have e' : Pm.up s.rw t0 row t = some r := e
    unfold Pm.up at e'
    split at e'
    · rename_i z; rw [z]; exact hk.2.1
    · have := b2 t r e'; omega
  | append l =>
    refine ⟨fun h p e => by have := b1 h p e; omega, fun t r e => ?_⟩
    rename_i t0 en
    have e' : Pm.up s.rw t0 (((s.rw t0).getD []) ++ [en]) t = some r := e
    unfold Pm.up at e'
    split at e'
    · rename_i z; rw [z]; exact hk.2.1
    · have := b2 t r e'; omega
  | vote l =>
    refine ⟨fun h p e => ?_, fun t r e => by have := b2 t r e; omega⟩
    rename_i h0 t0 m0
    have e' : Pm.up s.pr h0 t0 h = some p := e
    unfold Pm.up at e'
    split at e'
    · cases e'; exact hk.2.2.1
    · have := b1 h p e'; omega
theorem ActOk.up {s s' : Pm.St} {M N : Int} (hC : s'.C = s.C) (h : M ≤ N) {a : Pm.Act} (x : ActOk s M a) : ActOk s' N a := by
  cases a with
  | promise h0 t => obtain ⟨h1, h2, h3⟩ := x; exact ⟨hC ▸ h1, h2, by omega⟩
  | lead t lot => obtain ⟨h1, h2, h3, h4⟩ := x; exact ⟨h1, by omega, h3, hC ▸ h4⟩
  | append t e => obtain ⟨h1, h2, h3⟩ := x; exact ⟨h1, by omega, h3⟩
  | vote h0 t m => obtain ⟨h1, h2, h3, h4, h5⟩ := x; exact ⟨hC ▸ h1, h2, by omega, h4, h5⟩
/-! ### all but a list -/
section
variable {H : Hp} {d : Addr} {zs : List V} (hd : H d = some (.lst zs))
include hd
theorem cut_deed {v : V} {k : Nat} (h : DeedAt K H v k) : DeedAt K (cut H d) v k := by
  obtain ⟨a, rfl, h⟩ := h
  refine ⟨a, rfl, ?_⟩
  rcases h with ⟨h, g⟩ | ⟨h, g⟩ | ⟨h, c, g, g2⟩
  · exact .inl ⟨h, cut_T g hd⟩
  · exact .inr (.inl ⟨h, cut_T g hd⟩)
  · exact .inr (.inr ⟨h, c, cut_T g hd, cut_T g2 hd⟩)
theorem cut_ent {v : V} {x : Pm.En} (h : EntAt K H v x) : EntAt K (cut H d) v x := by
  obtain ⟨a, e, rfl, h, g⟩ := h
  exact ⟨a, e, rfl, cut_T h hd, cut_deed hd g⟩
theorem cut_row {v : V} {r : List Pm.En} (h : RowAt K H v r) : RowAt K (cut H d) v r := by
  obtain ⟨a, xs, rfl, h, g⟩ := h
  exact ⟨a, xs, rfl, cut_T h hd, Paired.mapP g fun _ _ z => cut_ent hd z⟩
theorem cut_act {v : V} {x : Pm.Act} (h : ActAt K H v x) : ActAt K (cut H d) v x := by
  cases x with
  | promise h0 t => obtain ⟨p, rfl, h⟩ := h; exact ⟨p, rfl, cut_T h hd⟩
  | lead t lot => obtain ⟨p, l, rfl, h, g⟩ := h; exact ⟨p, l, rfl, cut_T h hd, cut_T g hd⟩
  | append t x => obtain ⟨p, e, rfl, h, g⟩ := h; exact ⟨p, e, rfl, cut_T h hd, cut_ent hd g⟩
  | vote h0 t m => obtain ⟨p, rfl, h⟩ := h; exact ⟨p, rfl, cut_T h hd⟩
theorem cut_dc {α : Type} {R : Hp → V → α → Prop} {v : V} {f : Pm.Dc α} {n : Nat} (hR : ∀ v x, R H v x → R (cut H d) v x) (h : DcAt R H v f n) : DcAt R (cut H d) v f n := by
  obtain ⟨a, o, kvs, rfl, h, c⟩ := h
  have : a ≠ d := fun z => by rw [z, hd] at h; cases h
  exact ⟨a, o, kvs, rfl, by rw [cut_ne this]; exact h, c.imp fun v x z => hR v x z⟩
theorem cut_parts {vc vp vr vf vv : V} {s : Pm.St} {n : Nat} (h : Parts K H vc vp vr vf vv s n) : Parts K (cut H d) vc vp vr vf vv s n := by
  refine ⟨?_, cut_dc hd (fun _ _ z => z) h.pr, cut_dc hd (fun _ _ z => cut_row hd z) h.rw, cut_dc hd (fun _ _ z => z) h.fs, cut_dc hd (fun _ _ z => cut_dc hd (fun _ _ z => z) z) h.vt⟩
  obtain ⟨a, rfl, hc⟩ := h.cir
  exact ⟨a, rfl, cut_T hc hd⟩
theorem cut_lpic {v : V} {s : Pm.St} {n : Nat} (h : LPic K H v s n) : LPic K (cut H d) v s n := by
  obtain ⟨a, vc, vp, vr, vf, vv, rfl, h, p⟩ := h
  exact ⟨a, vc, vp, vr, vf, vv, rfl, cut_T h hd, cut_parts hd p⟩
theorem cut_ppic {C : Addr} {v : V} {s : Pm.St} {n : Nat} (h : PPic K C H v s n) : PPic K C (cut H d) v s n := by
  obtain ⟨a, dx, vc, vp, vr, vf, vv, rfl, h, p⟩ := h
  refine ⟨a, dx, vc, vp, vr, vf, vv, rfl, ?_, cut_parts hd p⟩
  rcases h with ⟨h, g⟩ | ⟨h, g⟩
  · have : a ≠ d := fun z => by rw [z, hd] at h; cases h
    exact .inl ⟨by rw [cut_ne this]; exact h, g⟩
  · have n1 : a ≠ d := fun z => by rw [z, hd] at h; cases h
    have n2 : dx ≠ d := fun z => by rw [z, hd] at g; cases g
    exact .inr ⟨by rw [cut_ne n1]; exact h, by rw [cut_ne n2]; exact g⟩
end
/-- what is known in a lap -/
structure LB (K : PySem.W.Frag) (a : Adr) (B0 H : Hp) (dl : Addr) (pic made ch : V) (wl : Addr) (s : Pm.St) (n : Nat) (row : List Pm.En) (N : Int) (B : Hp) (ys : List V) : Prop where
  b0 : Same B0 B
  d : DS B H dl
  lp : LPic K B pic s n
  pp : PPic K a.cp B made s n
  ch : RowAt K B ch row
  bw : B wl = none
  ne : wl ≠ dl
  hw : H wl = some (.lst ys)
  ac : ∃ acts, Paired (ActAt K B) ys acts ∧ ∀ x ∈ acts, ActOk s N x
  le : ys.length ≤ 20
/-- what of the state is known -/
structure SB (s : Pm.St) (n : Nat) (row : List Pm.En) (M : Int) (i : Nat) : Prop where
  S : Pm.Sound s
  ni : n ≤ i
  rl : Pm.RL s n
  bd : Bd s M
  cr : Pm.ChRow s row
section
variable {B0 H H' B B' : Hp} {dl wl : Addr} {pic made ch : V} {s : Pm.St} {n : Nat} {row : List Pm.En} {N : Int} {ys : List V}
theorem LB.grow (l : LB K a B0 H dl pic made ch wl s n row N B ys) (e : Same H H') : LB K a B0 H' dl pic made ch wl s n row N B ys :=
  ⟨l.b0, l.d.mono e, l.lp, l.pp, l.ch, l.bw, l.ne, e _ _ l.hw, l.ac, l.le⟩
/-- the base is all but the dice and the waits -/
theorem LB.bas (l : LB K a B0 H dl pic made ch wl s n row N B ys) : DS (cut H dl) H dl ∧ (cut H dl) wl = some (.lst ys) ∧ Same B (cut H dl) := by
  obtain ⟨d1, e1⟩ := l.d.now
  exact ⟨d1, by rw [cut_ne l.ne]; exact l.hw, e1⟩
/-- behind a call that knew the waits -/
theorem LB.back (l : LB K a B0 H dl pic made ch wl s n row N B ys) (e : Same (cut H dl) B') (d : DS B' H' dl) : LB K a B0 H' dl pic made ch wl s n row N (cut B' wl) ys ∧ B' wl = some (.lst ys) := by
  obtain ⟨d1, hw, e1⟩ := l.bas
  have hw' := e _ _ hw
  have eb : Same B (cut B' wl) := cut_of (e1.trans e) l.bw
  obtain ⟨acts, h1, h2⟩ := l.ac
  exact ⟨⟨l.b0.trans eb, ⟨cut_le.trans d.sm, by rw [cut_ne (Ne.symm l.ne)]; exact d.bn, d.hd⟩, l.lp.mono eb, l.pp.mono eb, l.ch.mono eb, cut_at, l.ne, d.sm _ _ hw', ⟨acts, Paired.mapP h1 fun _ _ z => z.mono eb, h2⟩, l.le⟩, hw'⟩
end
def sp_lright (K : PySem.W.Frag) : Sp := fun vs H Q _ => ∃ (B : Hp) (dl : Addr), vs = [.ref dl] ∧ DS B H dl ∧ ∀ H', DS B H' dl → Q (.bl true) H'
theorem k_cut {t u : TS} {D : Ends} {σ : L2.St} {H : Hp} (Mid : L2.St → Hp → Prop) (h1 : t { D with nx := Mid } σ H) (h2 : ∀ σ' H', Mid σ' H' → u D σ' H') : C8.tCut t u D σ H := ⟨Mid, h1, h2⟩
theorem kw_clm {σ : L2.St} {H : Hp} {C : Addr} {sp : Sp} {E : XK} {ta : TE} {t : TA} {Q : VK} (h : ta σ H fun x H1 => x = .ref C ∧ t σ H1 fun vs H2 => sp (.ref C :: vs) H2 Q E) : ClX.tCMeth C sp E ta t σ H Q := h
abbrev s_law_right : Stmt := (top 103)
abbrev N_law_right : List Str := ["_law_dice_here", "_law_circle", "_law_picture", "_law_made", "_law_waits", "_law_chosen", "_law_lap", "_law_action", "_law_row"]
theorem sc_law_right : FnScope N_law_right ["_law_dice_here"] (C8.fnScope s_law_right) := C8.fnScope_by (by decide +kernel)
theorem ok_law_right (D : DefX K mg "_law_right" "_law_right" s_law_right ["_law_dice_here"]) (T : Txt K mg a) (c_law_circle_drawn : C8.Cal P w K mg base 3 "_law_circle_drawn" (sp_cdrawn K) []) (c_law_do_exchange : C8.Cal P w K mg base 9 "_law_do_exchange" (sp_exch K a) []) (c_law_lead_drawn : C8.Cal P w K mg base 3 "_law_lead_drawn" (sp_drawn K) []) (c_law_let : C8.Cal P w K mg base 5 "_law_let" (sp_llet K) []) (c_law_pi_done : C8.Cal P w K mg base 2 "_law_pi_done" (sp_ldone K) []) (c_law_pi_fault : C8.Cal P w K mg base 3 "_law_pi_fault" (sp_lfault K) []) (c_law_pi_first : C8.Cal P w K mg base 1 "_law_pi_first" (sp_lfirst K) []) (c_law_pi_is_let : C8.Cal P w K mg base 3 "_law_pi_is_let" (sp_islet K) []) (c_law_pi_row : C8.Cal P w K mg base 3 "_law_pi_row" (sp_lrow K) []) (c_law_pi_told : C8.Cal P w K mg base 3 "_law_pi_told" (sp_ptold K a) []) (c_law_roll : C8.Cal P w K mg base 1 "_law_roll" sp_roll []) (C : Cls K a) (T3 : Txt3 K mg a) (m_first : ClmX P w K mg base 5 a.cp "first" (sp_first K a)) (m_done : MthX P w K mg base 8 a.cp "done" (sp_mdone K a)) (m_fault : MthX P w K mg base 5 a.cp "fault" (sp_fault K a)) (m_row : MthX P w K mg base 5 a.cp "row" (sp_chrow K a)) : C8.Cal P w K mg base 10 "_law_right" (sp_lright K) [] :=
  calX D sc_law_right (fun vs H Q E h => by obtain ⟨B0, dl, rfl, d, q⟩ := h; rfl) fun f cdv A outer s H vs Q E hr h => by
    have hu := hu_of hr
    obtain ⟨B0, dl, rfl, d, q⟩ := h
    refine ⟨_, (pss_cons (ps_set (i := 1) sc_law_right.nd rfl (.inl rfl) (C8.pe_c c_law_circle_drawn hr (by decide) (by rfl) (pa_cons (pv 0) (pa_cons pe_int pa_nil))))
      (pss_cons (ps_asg (pe_tup (pa_cons (C8.pe_c c_law_pi_first hr (by decide) (by rfl) (pa_cons (pv 1) pa_nil)) (pa_cons (kx_clm m_first hr (by decide) (C8.pe_gc (by rfl) T3.c_Picture) (pa_cons (pv 1) pa_nil)) (pa_cons (pe_lst pa_nil) (pa_cons (pe_tup pa_nil) pa_nil))))) (kx_gtup (K := K) (n := 4) (by rfl) (pgs_cons (pg_name (i := 2) sc_law_right.nd rfl (.inl rfl)) (pgs_cons (pg_name (i := 3) sc_law_right.nd rfl (.inl rfl)) (pgs_cons (pg_name (i := 4) sc_law_right.nd rfl (.inl rfl)) (pgs_cons (pg_name (i := 5) sc_law_right.nd rfl (.inl rfl)) pgs_nil))))))
      (pss_cons (ps_for PassesOwn.never rfl (pi_range1 (by rfl) T.z_range (pa_cons pe_int pa_nil)) (pg_name (i := 6) sc_law_right.nd rfl (.inl rfl))
          (C8.pss_cut (ps_if (PW.pt (pw_and (pt_cmpR (kx_eqE (K := K) hr.units) (pv 4) (pe_lst pa_nil) (nomark _)) (pw_and1 (pt_cmpR op_eq (C8.pe_c c_law_roll hr (by decide) (by rfl) (pa_cons (pv 0) (pa_cons pe_int pa_nil))) pe_int (nomark _)))))
              (pss_one (ps_set (i := 4) sc_law_right.nd rfl (.inl rfl) (C8.pe_c c_law_lead_drawn hr (by decide) (by rfl) (pa_cons (pv 0) (pa_cons (pv 2) pa_nil)))))
              pss_nil)
          (C8.pss_cut (ps_set (i := 7) sc_law_right.nd rfl (.inl rfl) (pe_ifExp (pt_cmpR (kx_neE (K := K) hr.units) (pv 4) (pe_lst pa_nil) (nomark _)) (kx_bm (K := K) PySem.F.plainAttrs_list PySem.F.slot_list_pop PySem.F.type_list_pop mt_popAt (pv 4) (pa_cons pe_int pa_nil)) (C8.pe_c c_law_let hr (by decide) (by rfl) (pa_cons (pv 0) (pa_cons (pv 2) pa_nil)))))
          (pss_cons (ps_if (pt_cmpR ox_isN (pv 7) pe_non (nomark _))
              (pss_one ps_continue)
              pss_nil)
          (pss_cons (ps_if (pt_not (pt_val (C8.pe_c c_law_pi_is_let hr (by decide) (by rfl) (pa_cons (pv 2) (pa_cons (pv 7) pa_nil)))))
              (pss_cons (ps_set (i := 4) sc_law_right.nd rfl (.inl rfl) (pe_lst pa_nil))
              (pss_one ps_continue))
              pss_nil)
          (pss_cons (ps_if (pt_not (pt_val (C8.pe_c c_law_do_exchange hr (by decide) (by rfl) (pa_cons (pv 0) (pa_cons (pv 2) (pa_cons (pv 3) pa_nil))))))
              (pss_one (ps_ret pe_bl))
              pss_nil)
          (pss_cons (ps_par (i := 2) (j := 3) (by rfl) sc_law_right.nd rfl rfl (by decide) rfl rfl (pa_cons (C8.pe_c c_law_pi_done hr (by decide) (by rfl) (pa_cons (pv 2) (pa_cons (pv 7) pa_nil))) (pa_cons (kx_meth C.sP m_done hr (by decide) (pv 3) (pa_cons (pv 7) pa_nil)) pa_nil)) (by rfl))
          (pss_cons (ps_set (i := 8) sc_law_right.nd rfl (.inl rfl) (C8.pe_c c_law_pi_row hr (by decide) (by rfl) (pa_cons (pv 2) pa_nil)))
          (pss_cons (ps_if (PW.pt (pw_or (pt_cmpR (kx_ne3 (K := K) hr.units) (C8.pe_c c_law_pi_told hr (by decide) (by rfl) (pa_cons (pv 3) pa_nil)) (pv 2) (nomark _)) (pw_or (pt_cmpR ox_notN (kx_meth0 C.sP m_fault hr (by decide) (pv 3)) pe_non (nomark _)) (pw_or (pt_cmpR (kx_ne3 (K := K) hr.units) (kx_meth0 C.sP m_row hr (by decide) (pv 3)) (pv 8) (nomark _)) (pw_or1 (pt_cmpR (kx_ne3 (K := K) hr.units) (pe_slice (kx_slT (K := K)) (pv 8) po_none (po_some (pe_callB (kx_len (K := K)) (by rfl) T.z_len PySem.boot_len (pa_cons (pv 5) pa_nil)))) (pv 5) (nomark _)))))))
              (pss_one (ps_ret pe_bl))
              pss_nil)
          (pss_one (ps_set (i := 5) sc_law_right.nd rfl (.inl rfl) (pv 8))))))))))))
      (pss_one (ps_ret (pe_cmpR ox_isN (C8.pe_c c_law_pi_fault hr (by decide) (by rfl) (pa_cons (pv 2) pa_nil)) pe_non (nomark _))))))), ?_⟩
    walk_at "go"
    refine ⟨B0, dl, rfl, d, fun t CC B1 H1 b1 hCC hcirc d1 => ?_⟩
    walk_at "go"
    refine ⟨t, CC, rfl, sm_T d1.sm hCC, hcirc, fun pic H2 e2 hpic => ?_⟩
    walk_at "go"
    with_reducible refine kw_clm ?_
    walk_at "go"
    refine ⟨rfl, ?_⟩
    walk_at "go"
    refine ⟨t, CC, rfl, sm_T e2 (sm_T d1.sm hCC), hcirc, fun made H3 e3 hmade => ?_⟩
    walk_at "go"
    refine NewR.mk fun wl H4 hn4 e4 hwl => ?_
    walk_at "go"
    refine NewR.mk fun ch H5 hn5 e5 hch => ?_
    walk_at "go"
    refine NewR.mk fun t6 H6 hn6 e6 ht6 => ?_
    walk_at "go"
    with_reducible refine kw_rng1 ?_
    walk_at "go"
    refine q_rg1 (by omega) (by omega) ?_
    have e36 := e4.trans (e5.trans e6)
    have e26 := e3.trans e36
    have d6 := d1.mono (e2.trans e26)
    obtain ⟨dx, dy, dz, hdl⟩ := id d6.hd
    obtain ⟨u1, hu1⟩ := d1.known
    have nwl : wl ≠ dl := fun z => by rw [z, e3 _ _ (e2 _ _ hu1)] at hn4; cases hn4
    have hwl6 := (e5.trans e6) _ _ hwl
    have hwc : cut H6 dl wl = some (.lst []) := by rw [cut_ne nwl]; exact hwl6
    have nn : ∀ {Hx Hy : Hp}, Same Hx Hy → Hy wl = none → Hx wl = none := fun {Hx Hy} ee hy => by
      cases h : Hx wl with
      | none => rfl
      | some u => have := ee _ _ h; rw [hy] at this; cases this
    have b16 : Same B1 (cut (cut H6 dl) wl) := cut_of (d6.now.2) (nn (d1.sm.trans (e2.trans e3)) hn4)
    have lb0 : LB K a B0 H6 dl pic made (.ref ch) wl (Pm.first CC) 0 [] 8 (cut (cut H6 dl) wl) [] :=
      ⟨b1.trans b16, ⟨cut_le.trans cut_le, by rw [cut_ne (Ne.symm nwl)]; exact cut_at, d6.hd⟩, cut_lpic hwc (cut_lpic hdl (hpic.mono e26)), cut_ppic hwc (cut_ppic hdl (hmade.mono e36)), ⟨ch, [], rfl, cut_T (cut_T (.inl (.inl (e6 _ _ hch))) hdl) hwc, .nil⟩, cut_at, nwl, hwl6, ⟨[], .nil, fun _ h => by cases h⟩, by simp⟩
    refine for_go walk_range (fun i σ' H' => ∃ pic made wl ch x y z, σ' = [some (.ref dl), some (.ref t), some pic, some made, some (.ref wl), some ch, x, y, z] ∧ ∃ s n row B ys, LB K a B0 H' dl pic made ch wl s n row (8 + 2 * i) B ys ∧ SB s n row (8 + 2 * i) i)
      ⟨pic, made, wl, _, none, none, none, rfl, _, 0, [], _, [], lb0, Pm.first_sound hcirc, Nat.le_refl _, (fun t r h => by cases h), bd_first (by omega), Pm.chrow_nil CC⟩ (fun _ _ _ _ _ => True.intro) (fun i x σ' Ha Hb hi hp y => ?_) fun σ' H' hp => ?_
    · obtain ⟨pic, made, wl, ch, x1, x2, x3, rfl, s, n, row, B, ys, lb, sb⟩ := hp
      obtain ⟨rfl, rfl⟩ := y
      have S := sb.S
      have hlen : ∀ t r, s.rw t = some r → r.length ≤ 1000 := fun t r hr => by have := sb.rl t r hr; have := sb.ni; omega
      have ni := sb.ni
      have bM : (8 : Int) ≤ 8 + 2 * i := by omega
      walk_at "go"
      refine k_cut (fun σ' H' => ∃ wl x y z, σ' = [some (.ref dl), some (.ref t), some pic, some made, some (.ref wl), some ch, x, y, z] ∧ ∃ B ys, LB K a B0 H' dl pic made ch wl s n row (8 + 2 * i + 2) B ys) ?_ ?_
      · have up : LB K a B0 Hb dl pic made ch wl s n row (8 + 2 * i + 2) B ys := by
          obtain ⟨acts, h1, h2⟩ := lb.ac
          exact ⟨lb.b0, lb.d, lb.lp, lb.pp, lb.ch, lb.bw, lb.ne, lb.hw, ⟨acts, h1, fun x hx => (h2 x hx).up rfl (by omega)⟩, lb.le⟩
        walk_at "go"
        refine NewR.mk fun l7 H7 hn7 e7 hl7 => ?_
        refine k_eqELn (e7 _ _ lb.hw) hl7 ?_
        have up7 := up.grow e7
        walk_at "go"
        refine k_ite (fun hy => ?_) fun hy => ?_
        · walk_at "go"
          obtain ⟨dn, hwn, en⟩ := up7.bas
          refine ⟨_, dl, 7, rfl, dn, by omega, by omega, fun k H8 k0 k1 d8 => ?_⟩
          obtain ⟨lb8, _⟩ := up7.back (Same.refl _) d8
          walk_at "go"
          refine k_iteD (fun hk => ?_) fun hk => ?_
          · walk_at "go"
            refine ⟨_, dl, pic, s, n, 8 + 2 * i, rfl, lb8.d, lb8.lp, S, by omega, sb.bd, bM, fun l9 ys9 acts9 B9 H9 b9 bl9 nl9 hl9 hp9 hk9 hyl9 d9 => ?_⟩
            walk_at "go"
            exact ⟨l9, _, _, _, rfl, B9, ys9, lb8.b0.trans b9, d9, lb8.lp.mono b9, lb8.pp.mono b9, lb8.ch.mono b9, bl9, nl9, hl9, ⟨acts9, hp9, hk9⟩, hyl9⟩
          · walk_at "go"
            exact ⟨wl, _, _, _, rfl, _, ys, lb8⟩
        · walk_at "go"
          exact ⟨wl, _, _, _, rfl, _, ys, up7⟩
      · rintro σ1 H7 ⟨wl, x1, x2, x3, rfl, B, ys, lb⟩
        refine k_cut (fun σ' H' => ∃ wl v x y, σ' = [some (.ref dl), some (.ref t), some pic, some made, some (.ref wl), some ch, x, some v, y] ∧ ∃ B ys, LB K a B0 H' dl pic made ch wl s n row (8 + 2 * i + 2) B ys ∧ (v = .non ∨ ∃ act, ActAt K B v act ∧ ActOk s (8 + 2 * i + 2) act)) ?_ ?_
        · walk_at "go"
          refine NewR.mk fun l8 H8 hn8 e8 hl8 => ?_
          refine k_neEL (.inl (.inl (e8 _ _ lb.hw))) (.inl (.inl hl8)) ?_
          have lb8 := lb.grow e8
          walk_at "go"
          cases ys with
          | nil =>
            refine k_no rfl ?_
            walk_at "go"
            obtain ⟨dn, hwn, en⟩ := lb8.bas
            refine ⟨_, dl, pic, s, n, 8 + 2 * i, rfl, dn, lb8.lp.mono en, S, by omega, hlen, sb.bd, bM, fun v9 B9 H9 b9 d9 hv9 => ?_⟩
            obtain ⟨lb9, hw9⟩ := lb8.back b9 d9
            walk_at "go"
            refine ⟨wl, v9, _, _, rfl, _, [], lb9, ?_⟩
            rcases hv9 with rfl | ⟨act, h1, h2, _⟩
            · exact .inl rfl
            · exact .inr ⟨act, cut_act hw9 h1, h2⟩
          | cons y0 yr =>
            refine k_yes rfl ?_
            have hw8 := lb8.hw
            walk_at "go"
            refine ⟨ty_lst hw8, ?_⟩
            walk_at "go"
            have hle := lb.le
            simp only [List.length_cons] at hle
            refine q_popV hw8 (by omega) ?_
            walk_at "go"
            obtain ⟨acts, h1, h2⟩ := lb8.ac
            cases h1 with
            | cons h3 h4 =>
              obtain ⟨dx, dy, dz, hdl⟩ := lb8.d.hd
              refine ⟨wl, y0, _, _, rfl, B, yr, ⟨lb8.b0, ⟨sm_mut lb8.d.sm lb8.bw, lb8.d.bn, dx, dy, dz, by rw [upd_ne (Ne.symm lb8.ne)]; exact hdl⟩, lb8.lp, lb8.pp, lb8.ch, lb8.bw, lb8.ne, upd_same, ⟨_, h4, fun x hx => h2 x (List.mem_cons_of_mem _ hx)⟩, by omega⟩, .inr ⟨_, h3, h2 _ List.mem_cons_self⟩⟩
        · rintro σ2 H8 ⟨wl, v, x1, x2, rfl, B, ys, lb, hv⟩
          have next : ∀ (H' : Hp) (wl : Addr) (B : Hp) (ys : List V) (x y z : Option V), LB K a B0 H' dl pic made ch wl s n row (8 + 2 * i + 2) B ys → ∃ pic' made' wl' ch' x' y' z', [some (.ref dl), some (.ref t), some pic, some made, some (.ref wl), some ch, x, y, z] = [some (.ref dl), some (.ref t), some pic', some made', some (.ref wl'), some ch', x', y', z'] ∧ ∃ s n row B ys, LB K a B0 H' dl pic' made' ch' wl' s n row (8 + 2 * ((i + 1 : Nat) : Int)) B ys ∧ SB s n row (8 + 2 * ((i + 1 : Nat) : Int)) (i + 1) := fun H' wl B ys x y z l => by
            refine ⟨pic, made, wl, ch, x, y, z, rfl, s, n, row, B, ys, ?_, S, by omega, sb.rl, ⟨fun h p e => by have := sb.bd.1 h p e; omega, fun t r e => by have := sb.bd.2 t r e; omega⟩, sb.cr⟩
            rw [show (8 + 2 * ((i + 1 : Nat) : Int)) = 8 + 2 * i + 2 by omega]
            exact l
          rcases hv with rfl | ⟨act, hact, hok⟩
          · walk_at "go"
            exact next _ wl B ys _ _ _ lb
          · obtain ⟨pa, wd, ra, rfl, _, _⟩ := act_word hact
            walk_at "go"
            refine ⟨pic, _, s, n, act, 8 + 2 * i + 2, rfl, lb.lp.mono lb.d.sm, S, hact.mono lb.d.sm, hok, fun b H9 hlet e9 => ?_⟩
            have lb9 := lb.grow e9
            walk_at "go"
            refine k_iteN (fun hb => ?_) fun hb => ?_
            · walk_at "go"
              refine NewR.mk fun l10 H10 hn10 e10 hl10 => ?_
              have lb10 := lb9.grow e10
              obtain ⟨u9, hu9⟩ := lb9.d.known
              have n10 : l10 ≠ dl := fun z => by rw [z, hu9] at hn10; cases hn10
              have b10 : B l10 = none := by
                cases h : B l10 with
                | none => rfl
                | some u => have := lb9.d.sm _ _ h; rw [hn10] at this; cases this
              walk_at "go"
              exact next _ l10 B [] _ _ _ ⟨lb10.b0, lb10.d, lb10.lp, lb10.pp, lb10.ch, b10, n10, hl10, ⟨[], .nil, fun _ h => by cases h⟩, by simp⟩
            · have hl := hlet hb
              obtain ⟨dn, hwn, en⟩ := lb9.bas
              walk_at "go"
              refine ⟨_, dl, pic, made, s, n, 8 + 2 * i, rfl, dn, lb9.lp.mono en, lb9.pp.mono en, S, by omega, sb.rl, sb.bd, bM, by omega, fun B10 H10 b10 d10 => ?_⟩
              obtain ⟨lb10, hw10⟩ := lb9.back b10 d10
              have hactB : ActAt K (cut B10 wl) (.ref pa) act := cut_act hw10 (hact.mono (en.trans b10))
              have hact10 := hactB.mono lb10.d.sm
              walk_at "go"
              refine ⟨pic, _, s, n, act, rfl, lb10.lp.mono lb10.d.sm, S, by omega, hlen, hact10, hl, fun pic2 s2 H11 st e11 hpic2 => ?_⟩
              walk_at "go"
              with_reducible refine kw_meth ?_
              walk_at "go"
              refine q_meth ((lb10.pp.mono lb10.d.sm).mono e11) ?_
              walk_at "go"
              refine ⟨made, _, s, n, act, rfl, (lb10.pp.mono lb10.d.sm).mono e11, S, by omega, hlen, hact10.mono e11, hok.small S (by omega), hl, fun made2 s3 H12 st2 e12 hmade2 => ?_⟩
              obtain rfl := st.uniq st2
              have S2 := st.sound S
              have rl2 := sb.rl.step st
              have hlen2 : ∀ t r, s2.rw t = some r → r.length ≤ 1000 := fun t r hr => by have := rl2 t r hr; omega
              walk_at "go"
              refine ⟨pic2, s2, n + 1, rfl, hpic2.mono e12, S2, by omega, hlen2, fun fr row2 H13 hcr2 hfr e13 => ?_⟩
              walk_at "go"
              have hm13 := hmade2.mono e13
              refine ⟨made2, s2, n + 1, rfl, hm13, by omega, fun tp wc wp wr wf wv H14 e14 htp rpt => ?_⟩
              have e24 := e12.trans (e13.trans e14)
              obtain ⟨qp, vc, vp, vr, vf, vv, rfl, hqp, qpp⟩ := hpic2.mono e24
              walk_at "go"
              have rq := qpp.rawP
              refine ⟨tp, qp, _, _, rfl, rfl, .inl (.inl htp), hqp, .cons (eq_cir (n := 10) rpt.cir rq.cir) (.cons (eqr_I (k := 10) rpt.pr rq.pr) (.cons (eqr_R (k := 6) rpt.rw rq.rw) (.cons (eqr_I (k := 10) rpt.fs rq.fs) (.cons (eqr_V (k := 9) rpt.vt rq.vt) .nil)))), ?_⟩
              walk_at "go"
              with_reducible refine kw_meth ?_
              walk_at "go"
              have hm14 := hm13.mono e14
              refine q_meth hm14 ?_
              walk_at "go"
              refine ⟨made2, s2, n + 1, rfl, hm14, S2, by omega, fun H15 e15 => ?_⟩
              walk_at "go"
              with_reducible refine kw_meth ?_
              walk_at "go"
              have hm15 := hm14.mono e15
              refine q_meth hm15 ?_
              walk_at "go"
              refine ⟨made2, s2, n + 1, rfl, hm15, S2, by omega, fun fv3 row3 H16 hcr3 hfv3 e16 => ?_⟩
              obtain rfl := hcr3.uniq hcr2
              obtain ⟨fa, fx, rfl, hfx, hfp⟩ := hfv3
              obtain ⟨ga, gx, rfl, hgx, hgp⟩ := hfr.mono (e14.trans (e15.trans e16))
              walk_at "go"
              refine ⟨fa, ga, _, _, rfl, rfl, hfx, hgx, eq_ents (n := 8) hfp hgp, ?_⟩
              walk_at "go"
              have e116 := e24.trans (e15.trans e16)
              have e1016 := e11.trans e116
              have lb16 := lb10.grow e1016
              obtain ⟨ca, cx, rfl, hcx, hcp⟩ := lb16.ch.mono lb16.d.sm
              have hcl := Paired.length hcp
              walk_at "go"
              refine k_slT hgx fun pz H17 e17 hpz => ?_
              rw [cut_to (by omega), hcl, Int.toNat_natCast] at hpz
              obtain ⟨gr1, gr2⟩ := Pm.ChRow.grow S st sb.cr hcr2
              walk_at "go"
              refine ⟨pz, ca, _, _, rfl, rfl, hpz, sm_T e17 hcx, ?_, ?_⟩
              · refine eq_ents (n := 8) (r := row) ?_ (Paired.mapP hcp fun _ _ z => z.mono e17)
                have := paired_take row.length (Paired.mapP hgp fun _ _ z => z.mono e17)
                rwa [gr2] at this
              · walk_at "go"
                have lb17 := lb16.grow e17
                obtain ⟨_, hwc, eB⟩ := lb17.bas
                obtain ⟨dx, dy, dz, hdl⟩ := lb17.d.hd
                have eBn : Same (cut B10 wl) (cut (cut H17 dl) wl) := cut_of eB cut_at
                obtain ⟨acts, ha1, ha2⟩ := lb17.ac
                have e117 := e116.trans e17
                refine ⟨.ref qp, made2, wl, .ref ga, _, _, _, rfl, s2, n + 1, row3, cut (cut H17 dl) wl, ys, ⟨lb17.b0.trans eBn, ⟨cut_le.trans cut_le, by rw [cut_ne (Ne.symm lb17.ne)]; exact cut_at, lb17.d.hd⟩, cut_lpic hwc (cut_lpic hdl (hpic2.mono e117)), cut_ppic hwc (cut_ppic hdl (hm15.mono (e16.trans e17))), cut_row hwc (cut_row hdl (RowAt.mono e17 ⟨ga, gx, rfl, hgx, hgp⟩)), cut_at, lb17.ne, lb17.hw, ⟨acts, Paired.mapP ha1 fun _ _ z => z.mono eBn, fun x hx => (ha2 x hx).up (Pm.step_C st) (by omega)⟩, lb17.le⟩, S2, by omega, rl2, ?_, hcr2⟩
                have := bd_step sb.bd hok (by omega) st
                rw [show (8 + 2 * ((i + 1 : Nat) : Int)) = 8 + 2 * i + 2 by omega]
                exact this
    · obtain ⟨pic, made, wl, ch, x1, x2, x3, rfl, s, n, row, B, ys, lb, sb⟩ := hp
      have ni := sb.ni
      walk_at "go"
      refine ⟨pic, s, n, rfl, lb.lp.mono lb.d.sm, sb.S, by omega, fun t r hr => by have := sb.rl t r hr; omega, fun H7 e7 => ?_⟩
      walk_at "go"
      exact q H7 ⟨lb.b0.trans (lb.d.sm.trans e7), d.bn, (lb.d.mono e7).hd⟩
end

/-! W36 -/
section
variable {P : Program} {w : World} {K : PySem.W.Frag} {mg : Str → Option Value} {base : Heap} {a : Adr}

/-! ### the fixed walk -/
abbrev e0 : Pm.En := (0, 1, 0)
abbrev z0 : Pm.St := Pm.first [0, 1, 2]
abbrev z1 : Pm.St := z0.promise 0 3
abbrev z2 : Pm.St := z1.promise 1 3
abbrev z3 : Pm.St := z2.lead 3 []
abbrev z4 : Pm.St := z3.append 3 e0
abbrev z5 : Pm.St := z4.vote 0 3 1
abbrev z6 : Pm.St := z5.promise 2 4
abbrev z7 : Pm.St := z6.vote 1 3 1
abbrev z8 : Pm.St := z7.promise 1 4
abbrev z9 : Pm.St := z8.lead 4 [e0]
def zs : List Pm.St := [z0, z1, z2, z3, z4, z5, z6, z7, z8, z9]
def zacts : List Pm.Act := [.promise 0 3, .promise 1 3, .lead 3 [0, 1], .append 3 e0, .vote 0 3 1, .promise 2 4, .vote 1 3 1, .promise 1 4, .lead 4 [1, 2]]
theorem z_circ : Pm.Circ [0, 1, 2] := ⟨by decide, by decide, by decide, by decide⟩
theorem zt1 : Pm.Step z0 (.promise 0 3) z1 := .promise ⟨-1, rfl, by decide⟩
theorem zt2 : Pm.Step z1 (.promise 1 3) z2 := .promise ⟨-1, rfl, by decide⟩
theorem z_vg0 (h t : Int) : z4.vg h t = none := Pm.first_vg [0, 1, 2] h t
theorem zt3 : Pm.Step z2 (.lead 3 [0, 1]) z3 := .lead ⟨rfl, by decide, by decide, by decide, by unfold Pm.more; decide, by decide⟩ (.none fun h _ t' _ => Pm.first_vg [0, 1, 2] h t')
theorem zt4 : Pm.Step z3 (.append 3 e0) z4 := .append rfl
theorem zt5 : Pm.Step z4 (.vote 0 3 1) z5 := .vote ⟨3, [e0], 0, rfl, rfl, rfl, by decide, by decide, by unfold Pm.St.vn; rw [z_vg0]; decide, by decide⟩
theorem zt6 : Pm.Step z5 (.promise 2 4) z6 := .promise ⟨-1, rfl, by decide⟩
theorem z_vg5 (h t : Int) : z6.vg h t = if h = 0 ∧ t = 3 then some 1 else none := (Pm.vg_vote (s := z4) h t).trans (by rw [z_vg0])
theorem zt7 : Pm.Step z6 (.vote 1 3 1) z7 := .vote ⟨3, [e0], 0, rfl, rfl, rfl, by decide, by decide, by unfold Pm.St.vn; rw [z_vg5]; decide, by decide⟩
theorem z_vg7 (h t : Int) : z8.vg h t = if h = 1 ∧ t = 3 then some 1 else if h = 0 ∧ t = 3 then some 1 else none := (Pm.vg_vote (s := z6) h t).trans (by rw [z_vg5])
theorem zt8 : Pm.Step z7 (.promise 1 4) z8 := .promise ⟨3, rfl, by decide⟩
theorem zt9 : Pm.Step z8 (.lead 4 [1, 2]) z9 := .lead ⟨rfl, by decide, by decide, by decide, by unfold Pm.more; decide, by decide⟩ (Pm.Told.some (h := 1) (led := 3) (m := 1) (r := [e0]) (by decide) (by decide) (by rw [z_vg7]; rfl) rfl fun h' hh t' m' _ hv => by
  rw [z_vg7] at hv
  simp only [List.mem_cons, List.not_mem_nil, or_false] at hh
  rcases hh with rfl | rfl
  · split at hv
    · rename_i z; cases hv; right; exact ⟨z.2, by decide⟩
    · split at hv
      · rename_i z; exact absurd z.1 (by decide)
      · cases hv
  · split at hv
    · rename_i z; exact absurd z.1 (by decide)
    · split at hv
      · rename_i z; exact absurd z.1 (by decide)
      · cases hv)
theorem z_step : ∀ i : Nat, i < 9 → ∃ s act s', zs[i]? = some s ∧ zacts[i]? = some act ∧ zs[i + 1]? = some s' ∧ Pm.Step s act s'
  | 0, _ => ⟨_, _, _, rfl, rfl, rfl, zt1⟩
  | 1, _ => ⟨_, _, _, rfl, rfl, rfl, zt2⟩
  | 2, _ => ⟨_, _, _, rfl, rfl, rfl, zt3⟩
  | 3, _ => ⟨_, _, _, rfl, rfl, rfl, zt4⟩
  | 4, _ => ⟨_, _, _, rfl, rfl, rfl, zt5⟩
  | 5, _ => ⟨_, _, _, rfl, rfl, rfl, zt6⟩
  | 6, _ => ⟨_, _, _, rfl, rfl, rfl, zt7⟩
  | 7, _ => ⟨_, _, _, rfl, rfl, rfl, zt8⟩
  | 8, _ => ⟨_, _, _, rfl, rfl, rfl, zt9⟩
  | n + 9, h => absurd h (by omega)
theorem step_let {s s' : Pm.St} {a : Pm.Act} (x : Pm.Step s a s') : Pm.Let s a := by cases x <;> assumption
theorem z_small : ∀ (i : Nat) (act : Pm.Act), zacts[i]? = some act → ASmall act := fun i act h => by
  have hm := List.mem_of_getElem? h
  simp only [zacts, List.mem_cons, List.not_mem_nil, or_false] at hm
  rcases hm with rfl | rfl | rfl | rfl | rfl | rfl | rfl | rfl | rfl
  · exact ⟨⟨by decide, by decide⟩, ⟨by decide, by decide⟩⟩
  · exact ⟨⟨by decide, by decide⟩, ⟨by decide, by decide⟩⟩
  · exact ⟨by decide, by decide⟩
  · exact ⟨⟨by decide, by decide⟩, ⟨by decide, by decide, by decide, by decide⟩⟩
  · exact ⟨⟨by decide, by decide⟩, ⟨by decide, by decide⟩, ⟨by decide, by decide⟩⟩
  · exact ⟨⟨by decide, by decide⟩, ⟨by decide, by decide⟩⟩
  · exact ⟨⟨by decide, by decide⟩, ⟨by decide, by decide⟩, ⟨by decide, by decide⟩⟩
  · exact ⟨⟨by decide, by decide⟩, ⟨by decide, by decide⟩⟩
  · exact ⟨by decide, by decide⟩
theorem z9_sound : Pm.Sound z9 := zt9.sound (zt8.sound (zt7.sound (zt6.sound (zt5.sound (zt4.sound (zt3.sound (zt2.sound (zt1.sound (Pm.first_sound z_circ)))))))))
theorem z9_row : Pm.ChRow z9 [e0] := by
  refine Pm.chrow_of z9_sound (.inr ⟨3, [e0], 1, rfl, by decide, by decide, ?_, rfl⟩) fun t r m hr m0 ml _ => ?_
  · have e : (z9.C.filter fun h => decide ((1 : Int) ≤ z9.vn h 3)) = [0, 1] := by
      have h0 : ∀ h : Int, z9.vn h 3 = if h = 1 then 1 else if h = 0 then 1 else 0 := fun h => by
        have e : z9.vg h 3 = z8.vg h 3 := rfl
        unfold Pm.St.vn
        rw [e, z_vg7]
        by_cases h1 : h = 1
        · simp [h1]
        · by_cases h2 : h = 0
          · simp [h2]
          · simp [h1, h2]
      show ([0, 1, 2] : List Int).filter (fun h => decide ((1 : Int) ≤ z9.vn h 3)) = [0, 1]
      simp only [h0]
      decide
    unfold Pm.St.Chs Pm.more
    rw [e]
    decide
  · have hr' : Pm.up z8.rw 4 [e0] t = some r := hr
    unfold Pm.up at hr'
    split at hr'
    · cases hr'; exact ml
    · have hr2 : Pm.up z3.rw 3 [e0] t = some r := hr'
      unfold Pm.up at hr2
      split at hr2
      · cases hr2; exact ml
      · rename_i z
        have hr3 : Pm.up z2.rw 3 [] t = some r := hr2
        rw [Pm.up_ne z] at hr3
        cases hr3
theorem z9_rw (t : Int) : (z9.rw t).isSome = true → t ∈ ([3, 4] : List Int) := fun h => by
  by_cases h4 : t = 4
  · simp [h4]
  · by_cases h3 : t = 3
    · simp [h3]
    · have e : z9.rw t = Pm.up (Pm.up (Pm.up (fun _ => none) 3 []) 3 [e0]) 4 [e0] t := rfl
      rw [e, Pm.up_ne h4, Pm.up_ne h3, Pm.up_ne h3] at h
      cases h
theorem z9_fs (t : Int) : (z9.fs t).isSome = true → t ∈ ([3, 4] : List Int) := fun h => by
  by_cases h4 : t = 4
  · simp [h4]
  · by_cases h3 : t = 3
    · simp [h3]
    · have e : z9.fs t = Pm.up (Pm.up (fun _ => none) 3 0) 4 1 t := rfl
      rw [e, Pm.up_ne h4, Pm.up_ne h3] at h
      cases h
theorem k_pc {tk tv : TE} {trs : List (TE × TE)} {σ : L2.St} {H : Hp} {R : List (V × V) → Hp → Prop} (h : tk σ H fun x H1 => tv σ H1 fun y H2 => tPairs trs σ H2 fun ps H3 => R ((x, y) :: ps) H3) : tPairs ((tk, tv) :: trs) σ H R := h
theorem k_pn {σ : L2.St} {H : Hp} {R : List (V × V) → Hp → Prop} (h : R [] H) : tPairs [] σ H R := h
def DsQ (p : Addr) (ps : List (V × V)) (H2 : Hp) (Q : VK) : Prop := H2 p = some (.dK []) ∧ ∃ kvs : List (Key × V), ps = kvs.map (fun kv => (kV kv.1, kv.2)) ∧ kvs.length ≤ 15 ∧ Q (.ref p) (upd H2 p (.dK (mergeK [] kvs)))
theorem kw_disp {trs : List (TE × TE)} {σ : L2.St} {H : Hp} {Q : VK} (h : ∀ p, H p = none → tPairs trs σ (upd H p (.dK [])) fun ps H2 => DsQ p ps H2 Q) : tDisp trs σ H Q := h
theorem q_disp {p : Addr} {u v : V} {H2 : Hp} {Q : VK} (h : H2 p = some (.dK [])) (q : ∀ H', Same (cutL H2 [p]) H' → H' p = some (.dK [(Sum.inl 3, u), (Sum.inl 4, v)]) → Q (.ref p) H') : DsQ p [(.int 3, u), (.int 4, v)] H2 Q := by
  refine ⟨h, [(Sum.inl 3, u), (Sum.inl 4, v)], rfl, by simp, q _ (cutL_upd (by simp)) ?_⟩
  rw [upd_same, show mergeK [] [((Sum.inl 3 : Key), u), (Sum.inl 4, v)] = [(Sum.inl 3, u), (Sum.inl 4, v)] from merge_nil (by simp)]
def sp_law (K : PySem.W.Frag) : Sp := fun vs H Q _ => ∃ (l : Addr) (xs : List Int), vs = [.ref l] ∧ SqL K H l (xs.map V.int) ∧ xs.length ≤ 63 ∧ ∀ H', Q (.bl true) H'
abbrev s_law : Stmt := (top 104)
abbrev N_law : List Str := ["_law_script", "_law_spot", "_law_dice_here", "_law_entry", "_law_made", "_law_walk", "_law_action"]
theorem sc_law : FnScope N_law ["_law_script"] (C8.fnScope s_law) := C8.fnScope_by (by decide +kernel)
/-- THE RULE for a def, its own function object -/
theorem calF {y : Str} {st : Stmt} {N ps : List Str} {k : Nat} {sp : Sp} {f0 : Addr} {fd0 : FuncData} (F : C8.Fun K y y st f0 fd0) (S : FnScope N ps (C8.fnScope st)) (len : ∀ vs H Q E, sp vs H Q E → vs.length = ps.length)
    (hbody : ∀ (f : Addr) (cdv : Value) (A : Around) (outer : List Env) (s : Shared) (H : Hp) (vs : List V) (Q : VK) (E : XK), Room k (A.deeper (envOfC y (C8.fnScope st) s.heap.objs.size f cdv)) → sp vs H Q E →
      ∃ t, PSs (cxOf CX0 P w K mg base N y (C8.fnScope st) f cdv A outer s H E).nox (C8.fnBody st) t ∧ t { nx := fun _ H' => Q .non H', rt := Q } (start N vs) H) : FnOk P w K mg base CX0 (k + 1) f0 fd0 ps sp := C8.fn0 F S len (hbody f0)
theorem ok_law {f0 : Addr} {fd0 : FuncData} (D : C8.Fun K "law" "law" s_law f0 fd0) (T : Txt K mg a) (c_law_dice : C8.Cal P w K mg base 1 "_law_dice" (sp_dice K) []) (c_law_right : C8.Cal P w K mg base 10 "_law_right" (sp_lright K) []) (C : Cls K a) (T3 : Txt3 K mg a) (m_first : ClmX P w K mg base 5 a.cp "first" (sp_first K a)) (m_done : MthX P w K mg base 8 a.cp "done" (sp_mdone K a)) (m_row : MthX P w K mg base 5 a.cp "row" (sp_chrow K a)) (m_is_let : MthX P w K mg base 8 a.cp "is_let" (sp_let K a)) (m_rows : PrpX P w K mg base 1 a.cp "rows" (sp_rows K a)) (m_firsts : PrpX P w K mg base 1 a.cp "firsts" (sp_firsts K a)) : FnOk P w K mg base CX0 11 f0 fd0 ["_law_script"] (sp_law K) :=
  calF D sc_law (fun vs H Q E h => by obtain ⟨l, xs, rfl, hl, hxl, q⟩ := h; rfl) fun f cdv A outer s H vs Q E hr h => by
    have hu := hu_of hr
    obtain ⟨l, xs, rfl, hl, hxl, q⟩ := h
    refine ⟨_, (pss_cons (ps_for PassesOwn.never rfl (pi_range1 (by rfl) T.z_range (pa_cons (pe_callB (cx_max rfl) (by rfl) T.z_max (by decide +kernel) (pa_cons pe_int (pa_cons (pe_callB (cx_min rfl) (by rfl) T.z_min (by decide +kernel) (pa_cons pe_int (pa_cons (pe_callB (kx_len (K := K)) (by rfl) T.z_len PySem.boot_len (pa_cons (pv 0) pa_nil)) pa_nil))) pa_nil))) pa_nil)) (pg_name (i := 1) sc_law.nd rfl (.inl rfl))
          (pss_cons (ps_set (i := 2) sc_law.nd rfl (.inl rfl) (C8.pe_c c_law_dice hr (by decide) (by rfl) (pa_cons (pv 0) (pa_cons (pv 1) pa_nil))))
          (pss_one (ps_if (PW.pt (pw_or (pt_not (pt_val (C8.pe_c c_law_right hr (by decide) (by rfl) (pa_cons (pv 2) pa_nil)))) (pw_or1 (pt_not (pt_val (C8.pe_c c_law_right hr (by decide) (by rfl) (pa_cons (pv 2) pa_nil)))))))
            (pss_one (ps_ret pe_bl))
            pss_nil))))
      (pss_cons (ps_par (i := 3) (j := 4) (by rfl) sc_law.nd rfl rfl (by decide) rfl rfl (pa_cons (pe_tup (pa_cons pe_int (pa_cons pe_int (pa_cons (pe_tup (pa_cons pe_str (pa_cons pe_str (pa_cons pe_int pa_nil)))) pa_nil)))) (pa_cons (kx_clm m_first hr (by decide) (C8.pe_gc (by rfl) T3.c_Picture) (pa_cons (pe_tup (pa_cons pe_int (pa_cons pe_int (pa_cons pe_int pa_nil)))) pa_nil)) pa_nil)) (by rfl))
      (pss_cons (ps_set (i := 5) sc_law.nd rfl (.inl rfl) (pe_lst (pa_cons (pe_tup (pa_cons pe_str (pa_cons pe_int (pa_cons pe_int pa_nil)))) (pa_cons (pe_tup (pa_cons pe_str (pa_cons pe_int (pa_cons pe_int pa_nil)))) (pa_cons (pe_tup (pa_cons pe_str (pa_cons pe_int (pa_cons (pe_tup (pa_cons pe_int (pa_cons pe_int pa_nil))) pa_nil)))) (pa_cons (pe_tup (pa_cons pe_str (pa_cons pe_int (pa_cons (pv 3) pa_nil)))) (pa_cons (pe_tup (pa_cons pe_str (pa_cons pe_int (pa_cons pe_int (pa_cons pe_int pa_nil))))) (pa_cons (pe_tup (pa_cons pe_str (pa_cons pe_int (pa_cons pe_int pa_nil)))) (pa_cons (pe_tup (pa_cons pe_str (pa_cons pe_int (pa_cons pe_int (pa_cons pe_int pa_nil))))) pa_nil)))))))))
      (pss_cons (ps_for PassesOwn.never rfl (kx_list (K := K) (pe_op op_cat (pv 5) (pe_lst (pa_cons (pe_tup (pa_cons pe_str (pa_cons pe_int (pa_cons pe_int pa_nil)))) (pa_cons (pe_tup (pa_cons pe_str (pa_cons pe_int (pa_cons (pe_tup (pa_cons pe_int (pa_cons pe_int pa_nil))) pa_nil)))) pa_nil))))) (pg_name (i := 6) sc_law.nd rfl (.inl rfl))
          (pss_one (ps_set (i := 4) sc_law.nd rfl (.inl rfl) (kx_meth C.sP m_done hr (by decide) (pv 4) (pa_cons (pv 6) pa_nil)))))
      (pss_one (ps_ret (pe_cmpR (kx_eq3 (K := K) hr.units) (pe_lst (pa_cons (kx_prop C.sP m_rows hr (by decide) (pv 4)) (pa_cons (kx_prop C.sP m_firsts hr (by decide) (pv 4)) (pa_cons (kx_meth0 C.sP m_row hr (by decide) (pv 4)) (pa_cons (kx_meth C.sP m_is_let hr (by decide) (pv 4) (pa_cons (pe_tup (pa_cons pe_str (pa_cons pe_int (pa_cons pe_int (pa_cons pe_int pa_nil))))) pa_nil)) pa_nil))))) (pe_lst (pa_cons (pe_disp (pps_cons pe_int (pe_tup (pa_cons (pv 3) pa_nil)) (pps_cons pe_int (pe_tup (pa_cons (pv 3) pa_nil)) pps_nil)) (by rfl) (by rfl) (fun z => by cases z) (by decide)) (pa_cons (pe_disp (pps_cons pe_int pe_int (pps_cons pe_int pe_int pps_nil)) (by rfl) (by rfl) (fun z => by cases z) (by decide)) (pa_cons (pe_tup (pa_cons (pv 3) pa_nil)) (pa_cons pe_bl pa_nil))))) (nomark _)))))))), ?_⟩
    walk_at "go"
    with_reducible refine kw_rng1 ?_
    walk_at "go"
    have hj : ∃ j : Int, 1 ≤ j ∧ j ≤ 3 ∧ (if (if ((xs.map V.int).length : Int) < 3 then ((xs.map V.int).length : Int) else 3) > 1 then (if ((xs.map V.int).length : Int) < 3 then ((xs.map V.int).length : Int) else 3) else 1) = j := by
      refine ⟨_, ?_, ?_, rfl⟩
      · split <;> (try split) <;> omega
      · split <;> (try split) <;> omega
    obtain ⟨j, j1, j3, ej⟩ := hj
    rw [ej]
    refine q_rg1 (by omega) (by omega) ?_
    refine for_go walk_range (fun i σ' H' => (∃ x y, σ' = [some (.ref l), x, y, none, none, none, none]) ∧ Same H H') ⟨⟨_, _, rfl⟩, Same.refl _⟩ (fun _ _ _ _ _ => True.intro) (fun i x σ' Ha Hb hi hp y => ?_) fun σ' H' hp => ?_
    · obtain ⟨⟨x1, x2, rfl⟩, e⟩ := hp
      obtain ⟨rfl, rfl⟩ := y
      walk_at "go"
      refine ⟨l, xs, _, rfl, sm_L e hl, by omega, by omega, fun dl H1 dx dy dz hn1 e1 hd1 => ?_⟩
      have hdn : H dl = none := by
        cases h : H dl with
        | none => rfl
        | some u => have := e _ _ h; rw [hn1] at this; cases this
      walk_at "go"
      refine ⟨H, dl, rfl, ⟨e.trans e1, hdn, dx, dy, dz, hd1⟩, fun H2 d2 => ?_⟩
      walk_at "go"
      refine ⟨H, dl, rfl, d2, fun H3 d3 => ?_⟩
      walk_at "go"
      exact ⟨⟨_, _, rfl⟩, d3.sm⟩
    · obtain ⟨⟨x1, x2, rfl⟩, e⟩ := hp
      walk_at "go"
      refine NewR.mk fun t1 H1 hn1 e1 ht1 => ?_
      walk_at "go"
      refine NewR.mk fun te H2 hn2 e2 hte => ?_
      walk_at "go"
      with_reducible refine kw_clm ?_
      walk_at "go"
      refine ⟨rfl, ?_⟩
      walk_at "go"
      refine NewR.mk fun tc H3 hn3 e3 htc => ?_
      walk_at "go"
      refine ⟨tc, [0, 1, 2], rfl, .inl (.inl htc), z_circ, fun mv H4 e4 hmv => ?_⟩
      walk_at "go"
      have e13 := e1.trans (e2.trans (e3.trans e4))
      have hte4 := (e3.trans e4) _ _ hte
      have ht14 := (e2.trans (e3.trans e4)) _ _ ht1
      refine NewR.mk fun a1 H5 n5 e5 h5 => ?_
      walk_at "go"
      refine NewR.mk fun a2 H6 n6 e6 h6 => ?_
      walk_at "go"
      refine NewR.mk fun b3 H7 n7 e7 h7 => ?_
      walk_at "go"
      refine NewR.mk fun a3 H8 n8 e8 h8 => ?_
      walk_at "go"
      refine NewR.mk fun a4 H9 n9 e9 h9 => ?_
      walk_at "go"
      refine NewR.mk fun a5 H10 n10 e10 h10 => ?_
      walk_at "go"
      refine NewR.mk fun a6 H11 n11 e11 h11 => ?_
      walk_at "go"
      refine NewR.mk fun a7 H12 n12 e12 h12 => ?_
      walk_at "go"
      refine NewR.mk fun l1 H13 n13 e13' h13 => ?_
      walk_at "go"
      refine NewR.mk fun a8 H14 n14 e14 h14 => ?_
      walk_at "go"
      refine NewR.mk fun b9 H15 n15 e15 h15 => ?_
      walk_at "go"
      refine NewR.mk fun a9 H16 n16 e16 h16 => ?_
      walk_at "go"
      refine NewR.mk fun l2 H17 n17 e17 h17 => ?_
      walk_at "go"
      have f16 := e17
      have f15 := e16.trans f16
      have f14 := e15.trans f15
      have f13 := e14.trans f14
      have f12 := e13'.trans f13
      have f11 := e12.trans f12
      have f10 := e11.trans f11
      have f9 := e10.trans f10
      have f8 := e9.trans f9
      have f7 := e8.trans f8
      have f6 := e7.trans f7
      have f5 := e6.trans f6
      have f4 := e5.trans f5
      refine k_cat (f13 _ _ h13) h17 (by rw [sizeLine_eq]; simp) ?_
      refine NewR.mk fun l3 H18 n18 e18 h18 => ?_
      have hen : EntAt K H4 (.ref te) e0 := ⟨te, _, rfl, .inl (.inl hte4), t1, rfl, .inl ⟨rfl, .inl (.inl ht14)⟩⟩
      have hA : Paired (ActAt K H18) ([V.ref a1, V.ref a2, V.ref a3, V.ref a4, V.ref a5, V.ref a6, V.ref a7] ++ [V.ref a8, V.ref a9]) zacts :=
        .cons ⟨a1, rfl, .inl (.inl ((f5.trans e18) _ _ h5))⟩ (.cons ⟨a2, rfl, .inl (.inl ((f6.trans e18) _ _ h6))⟩ (.cons ⟨a3, b3, rfl, .inl (.inl ((f8.trans e18) _ _ h8)), .inl (.inl ((f7.trans e18) _ _ h7))⟩ (.cons ⟨a4, .ref te, rfl, .inl (.inl ((f9.trans e18) _ _ h9)), hen.mono (f4.trans e18)⟩
          (.cons ⟨a5, rfl, .inl (.inl ((f10.trans e18) _ _ h10))⟩ (.cons ⟨a6, rfl, .inl (.inl ((f11.trans e18) _ _ h11))⟩ (.cons ⟨a7, rfl, .inl (.inl ((f12.trans e18) _ _ h12))⟩ (.cons ⟨a8, rfl, .inl (.inl ((f14.trans e18) _ _ h14))⟩ (.cons ⟨a9, b9, rfl, .inl (.inl ((f16.trans e18) _ _ h16)), .inl (.inl ((f15.trans e18) _ _ h15))⟩ .nil))))))))
      walk_at "go"
      refine for_go walk_list (fun i σ' H' => (∃ md x6 s, σ' = [some (.ref l), x1, x2, some (.ref te), some md, some (.ref l1), x6] ∧ zs[i]? = some s ∧ Pm.Sound s ∧ PPic K a.cp H' md s i ∧ Pm.RL s i) ∧ Same H18 H') ⟨⟨mv, _, z0, rfl, rfl, Pm.first_sound z_circ, hmv.mono (f4.trans e18), fun t r hr => by cases hr⟩, Same.refl _⟩ (fun i σ' H' _ hp => .inl (.inl (hp.2 _ _ h18))) (fun i x σ' Ha Hb hi hp y => ?_) fun σ' H19 hp => ?_
      · obtain ⟨⟨md, x6, s, rfl, hs, S, hmd, hrl⟩, ee⟩ := hp
        obtain ⟨rfl, hy⟩ := y
        have hi9 : i < 9 := hi
        obtain ⟨s0, act, s', hs0, hact, hs', hst⟩ := z_step i hi
        obtain rfl : s0 = s := Option.some.inj (hs0.symm.trans hs)
        obtain ⟨act2, hact2, hA1⟩ := paired_at hA hy
        obtain rfl : act = act2 := Option.some.inj (hact.symm.trans hact2)
        have hA2 := hA1.mono ee
        walk_at "go"
        with_reducible refine kw_meth ?_
        walk_at "go"
        refine q_meth hmd ?_
        walk_at "go"
        refine ⟨md, _, s0, i, act, rfl, hmd, S, by omega, fun t r hr => by have := hrl t r hr; omega, hA2, z_small i act hact, step_let hst, fun v2 s2 H2 st2 e2 hv2 => ?_⟩
        obtain rfl := st2.uniq hst
        walk_at "go"
        exact ⟨⟨_, _, _, rfl, hs', hst.sound S, hv2, hrl.step hst⟩, ee.trans e2⟩
      · obtain ⟨⟨md, x6, s, rfl, hs, S, hmd, hrl⟩, ee⟩ := hp
        obtain rfl : z9 = s := Option.some.inj ((rfl : zs[9]? = some z9).symm.trans hs)
        walk_at "go"
        with_reducible refine kw_prop ?_
        walk_at "go"
        have hmd : PPic K a.cp H19 md z9 9 := hmd
        refine q_prop hmd ⟨md, z9, 9, rfl, hmd, by decide, fun rv H20 e20 rr => ?_⟩
        walk_at "go"
        with_reducible refine kw_prop ?_
        walk_at "go"
        have hmd20 := hmd.mono e20
        refine q_prop hmd20 ⟨md, z9, 9, rfl, hmd20, by decide, fun fv H21 e21 rf => ?_⟩
        walk_at "go"
        with_reducible refine kw_meth ?_
        walk_at "go"
        have hmd21 := hmd20.mono e21
        refine q_meth hmd21 ?_
        walk_at "go"
        refine ⟨md, z9, 9, rfl, hmd21, S, by decide, fun cv row H22 hcr hcv e22 => ?_⟩
        obtain rfl := hcr.uniq z9_row
        walk_at "go"
        with_reducible refine kw_meth ?_
        walk_at "go"
        have hmd22 := hmd21.mono e22
        refine q_meth hmd22 ?_
        walk_at "go"
        refine NewR.mk fun tv H23 n23 e23 h23 => ?_
        walk_at "go"
        have hmd23 := hmd22.mono e23
        refine ⟨md, z9, 9, .ref tv, .vote 2 3 0, false, rfl, hmd23, S, ⟨tv, rfl, .inl (.inl h23)⟩, ⟨⟨by decide, by decide⟩, ⟨by decide, by decide⟩, ⟨by decide, by decide⟩⟩, ⟨.inr ⟨rfl, ⟨4, rfl, by decide⟩, rfl⟩, by decide⟩, fun H24 e24 => ?_⟩
        walk_at "go"
        refine NewR.mk fun l4 H25 n25 e25 h25 => ?_
        walk_at "go"
        with_reducible refine kw_disp fun p hp => ?_
        have g25 := e24.trans e25
        have g23 := e23.trans g25
        have g22 := e22.trans g23
        have g21 := e21.trans g22
        have ep : Same H25 (upd H25 p (.dK [])) := sm_new hp
        have gte : EntAt K H25 (.ref te) e0 := hen.mono (f4.trans (e18.trans (ee.trans (e20.trans g21))))
        have rr25 : RDc (RowAt K) H25 rv z9.rw 9 := RDc.mono (fun e z => z.mono e) g21 rr
        have rf25 : RDc RI H25 fv z9.fs 9 := rf.monoI g22
        have hcv25 := hcv.mono g23
        with_reducible refine k_pc ?_
        walk_at "go"
        refine NewR.mk fun u1 H26 n26 e26 h26 => ?_
        walk_at "go"
        with_reducible refine k_pc ?_
        walk_at "go"
        refine NewR.mk fun u2 H27 n27 e27 h27 => ?_
        walk_at "go"
        with_reducible refine k_pn ?_
        have hp27 : H27 p = some (.dK []) := (e26.trans e27) _ _ upd_same
        have s27 : Same H25 H27 := ep.trans (e26.trans e27)
        have al : AllD H27 [p] := fun d hd => by rw [List.mem_singleton.mp hd]; exact ⟨_, hp27⟩
        have rowOf : ∀ {H : Hp} {u : Addr}, Same H25 H → H u = some (.tup [V.ref te]) → RowAt K H (.ref u) [e0] := fun {H u} ee hu => ⟨u, _, rfl, .inl (.inl hu), .cons (gte.mono ee) .nil⟩
        have w1 := cutL_row al (rowOf s27 (e27 _ _ h26))
        have w2 := cutL_row al (rowOf s27 h27)
        refine q_disp hp27 fun H28 e28 hp28 => ?_
        have s28 : Same H25 H28 := (cutL_of s27 fun x hx => by rw [List.mem_singleton.mp hx]; exact hp).trans e28
        have w1 := w1.mono e28
        have w2 := w2.mono e28
        have rd1 : RDc (RowAt K) H28 (.ref p) z9.rw 2 := ⟨p, _, rfl, .inl hp28, cont_of_paired (L := [3, 4]) rfl (.cons ⟨[e0], rfl, w1⟩ (.cons ⟨[e0], rfl, w2⟩ .nil)) (by decide) z9_rw (by decide)⟩
        walk_at "go"
        with_reducible refine kw_disp fun r hr => ?_
        have er : Same H28 (upd H28 r (.dK [])) := sm_new hr
        with_reducible refine k_pc ?_
        walk_at "go"
        with_reducible refine k_pc ?_
        walk_at "go"
        with_reducible refine k_pn ?_
        refine q_disp upd_same fun H29 e29 hr29 => ?_
        have s29 : Same H28 H29 := (cutL_of er fun x hx => by rw [List.mem_singleton.mp hx]; exact hr).trans e29
        have rd2 : RDc RI H29 (.ref r) z9.fs 2 := ⟨r, _, rfl, .inl hr29, cont_of_paired (L := [3, 4]) rfl (.cons ⟨0, rfl, rfl⟩ (.cons ⟨1, rfl, rfl⟩ .nil)) (by decide) z9_fs (by decide)⟩
        walk_at "go"
        refine NewR.mk fun u3 H30 n30 e30 h30 => ?_
        walk_at "go"
        refine NewR.mk fun l5 H31 n31 e31 h31 => ?_
        walk_at "go"
        have s31 : Same H25 H31 := s28.trans (s29.trans (e30.trans e31))
        have w3 := (rowOf (s28.trans (s29.trans e30)) h30).mono e31
        have z1 : EqV3 K H31 12 rv (.ref p) := eqr_R (k := 6) (RDc.mono (fun e z => z.mono e) s31 rr25) (RDc.mono (fun e z => z.mono e) (s29.trans (e30.trans e31)) rd1)
        have z2 : EqV3 K H31 12 fv (.ref r) := eqr_I (k := 10) (rf25.monoI s31) (rd2.monoI (e30.trans e31))
        have z3 : EqV3 K H31 12 cv (.ref u3) := eq_row (n := 7) (hcv25.mono s31) w3
        refine ⟨.inl ⟨l4, l5, _, _, rfl, rfl, .inl (.inl (s31 _ _ h25)), .inl (.inl h31), .cons z1 (.cons z2 (.cons z3 (.cons (eq_flat rfl) .nil)))⟩, q H31⟩
end
end Hm

namespace Hm
open PySem PySem.Spec PyProof.Rows L2 Rx RZ
/-! all that the head gives, and the whole chain of defs -/
structure Al (K : PySem.W.Frag) (w : World) (mg : Str → Option Value) (a : Adr) : Prop where
  t1 : Txt K mg a
  t2 : Txt2 K w mg a
  t3 : Txt3 K mg a
  cl : Cls K a
  d_law_dice : DefX K mg "_law_dice" "_law_dice" s_law_dice ["_law_script", "_law_spot"]
  d_law_roll : DefX K mg "_law_roll" "_law_roll" s_law_roll ["_law_dice_here", "_law_most"]
  d_law_mixed : DefX K mg "_law_mixed" "_law_mixed" s_law_mixed ["_law_dice_here", "_law_items"]
  d_law_circle_drawn : DefX K mg "_law_circle_drawn" "_law_circle_drawn" s_law_circle_drawn ["_law_dice_here", "_law_most"]
  d_law_pick : DefX K mg "_law_pick" "_law_pick" s_law_pick ["_law_dice_here", "_law_items"]
  d_law_pi_entry : DefX K mg "_law_pi_entry" "_law_pi_entry" s_law_pi_entry ["_law_dice_here"]
  d_law_pi_term : DefX K mg "_law_pi_term" "_law_pi_term" s_law_pi_term ["_law_dice_here", "_law_picture"]
  d_law_pi_action : DefX K mg "_law_pi_action" "_law_pi_action" s_law_pi_action ["_law_dice_here", "_law_picture"]
  d_law_pi_more : DefX K mg "_law_pi_more" "_law_pi_more" s_law_pi_more ["_law_circle", "_law_many"]
  d_law_pi_is_lead : DefX K mg "_law_pi_is_lead" "_law_pi_is_lead" s_law_pi_is_lead ["_law_picture", "_law_term", "_law_lot"]
  d_law_pi_is_let : DefX K mg "_law_pi_is_let" "_law_pi_is_let" s_law_pi_is_let ["_law_picture", "_law_action"]
  d_law_let : DefX K mg "_law_let" "_law_let" s_law_let ["_law_dice_here", "_law_picture"]
  d_parts_of : DefX K mg "parts_of" "parts_of" s_parts_of ["picture"]
  d_best_vote : DefX K mg "best_vote" "best_vote" s_best_vote ["picture", "lot", "term"]
  d_told_row : DefX K mg "told_row" "told_row" s_told_row ["picture", "lot", "term"]
  d_KnownParts__init : DefI K mg "KnownParts" a.ck "KnownParts.__init__" s_KnownParts__init ["self", "circle", "promised", "rows", "firsts", "votes"] []
  d_in_order : DefX K mg "in_order" "in_order" s_in_order ["found"]
  d_Picture__init : DefI K mg "Picture" a.cp "Picture.__init__" s_Picture__init ["self", "circle", "promised", "rows", "firsts", "votes"] [.none, .none, .none, .none]
  d_done_in : DefX K mg "done_in" "done_in" s_done_in ["picture", "action"]
  d_is_integer : DefX K mg "is_integer" "is_integer" s_is_integer ["value"]
  d_is_from : DefX K mg "is_from" "is_from" s_is_from ["value", "least", "most"]
  d_is_client : DefX K mg "is_client" "is_client" s_is_client ["value"]
  d_has_word : DefX K mg "has_word" "has_word" s_has_word ["value", "words"]
  d_is_house : DefX K mg "is_house" "is_house" s_is_house ["value"]
  d_is_circle : DefX K mg "is_circle" "is_circle" s_is_circle ["value"]
  d_has_signs : DefX K mg "has_signs" "has_signs" s_has_signs ["value", "signs", "most"]
  d_is_key : DefX K mg "is_key" "is_key" s_is_key ["value"]
  d_is_value : DefX K mg "is_value" "is_value" s_is_value ["value"]
  d_is_lot_deed : DefX K mg "is_lot_deed" "is_lot_deed" s_is_lot_deed ["value"]
  d_is_deed : DefX K mg "is_deed" "is_deed" s_is_deed ["value"]
  d_is_whole : DefX K mg "is_whole_deeds" "is_whole" s_is_whole ["value"]
  d_is_number : DefX K mg "is_number" "is_number" s_is_number ["value"]
  d_is_entry : DefX K mg "is_entry" "is_entry" s_is_entry ["value"]
  d_is_half : DefX K mg "is_half" "is_half" s_is_half ["circle", "lot"]
  d_is_lot_of : DefX K mg "is_lot_of" "is_lot_of" s_is_lot_of ["picture", "term", "value"]
  d_is_vote_let : DefX K mg "is_vote_let" "is_vote_let" s_is_vote_let ["picture", "house", "term", "many"]
  d_is_whole_p : DefX K mg "is_whole_pictures" "is_whole" s_is_whole_p ["value", "least"]
  d_is_let_in : DefX K mg "is_let_in" "is_let_in" s_is_let_in ["picture", "value"]
  d_Picture_done : ∃ g, Meth K a.cp "done" g ∧ DefM K "done" "Picture.done" s_Picture_done g ["self", "action"]
  d_Picture__eq : ∃ g, PySem.W.findIn K (.ref a.cp) "__eq__" = some (some (.ref g)) ∧ PySem.W.isFn K (.ref g) = true ∧ PySem.W.notFirst K a.cp (.ref a.cp) = true ∧ DefM K "__eq__" "Picture.__eq__" s_Picture__eq g ["self", "other"]
  d_law_do_exchange : DefX K mg "_law_do_exchange" "_law_do_exchange" s_law_do_exchange ["_law_dice_here", "_law_picture", "_law_made"]
  d_law_lead_drawn : DefX K mg "_law_lead_drawn" "_law_lead_drawn" s_law_lead_drawn ["_law_dice_here", "_law_picture"]
  d_law_pi_best : DefX K mg "_law_pi_best" "_law_pi_best" s_law_pi_best ["_law_picture", "_law_lot", "_law_term"]
  d_law_pi_done : DefX K mg "_law_pi_done" "_law_pi_done" s_law_pi_done ["_law_picture", "_law_action"]
  d_law_pi_open : DefX K mg "_law_pi_open" "_law_pi_open" s_law_pi_open ["_law_picture", "_law_term"]
  d_law_pi_vote_fault : DefX K mg "_law_pi_vote_fault" "_law_pi_vote_fault" s_law_pi_vote_fault ["_law_picture"]
  d_law_pi_fault : DefX K mg "_law_pi_fault" "_law_pi_fault" s_law_pi_fault ["_law_picture"]
  d_law_pi_first : DefX K mg "_law_pi_first" "_law_pi_first" s_law_pi_first ["_law_circle"]
  d_law_pi_chosen : DefX K mg "_law_pi_chosen" "_law_pi_chosen" s_law_pi_chosen ["_law_picture", "_law_term"]
  d_law_pi_row : DefX K mg "_law_pi_row" "_law_pi_row" s_law_pi_row ["_law_picture"]
  d_Picture_circle : ∃ p g, PySem.W.findIn K (.ref a.cp) "circle" = some (some (.ref p)) ∧ PySem.W.specialIn K (.ref p) "__get__" = some (some (.builtin "property.__get__")) ∧ PySem.W.takesIn K (.ref p) = some true ∧ (∃ rest, PySem.W.recIn K p "property" = some (.ref g :: rest)) ∧ DefM K "circle" "Picture.circle" s_Picture_circle g ["self"]
  d_Picture_promised : ∃ p g, PySem.W.findIn K (.ref a.cp) "promised" = some (some (.ref p)) ∧ PySem.W.specialIn K (.ref p) "__get__" = some (some (.builtin "property.__get__")) ∧ PySem.W.takesIn K (.ref p) = some true ∧ (∃ rest, PySem.W.recIn K p "property" = some (.ref g :: rest)) ∧ DefM K "promised" "Picture.promised" s_Picture_promised g ["self"]
  d_Picture_rows : ∃ p g, PySem.W.findIn K (.ref a.cp) "rows" = some (some (.ref p)) ∧ PySem.W.specialIn K (.ref p) "__get__" = some (some (.builtin "property.__get__")) ∧ PySem.W.takesIn K (.ref p) = some true ∧ (∃ rest, PySem.W.recIn K p "property" = some (.ref g :: rest)) ∧ DefM K "rows" "Picture.rows" s_Picture_rows g ["self"]
  d_Picture_firsts : ∃ p g, PySem.W.findIn K (.ref a.cp) "firsts" = some (some (.ref p)) ∧ PySem.W.specialIn K (.ref p) "__get__" = some (some (.builtin "property.__get__")) ∧ PySem.W.takesIn K (.ref p) = some true ∧ (∃ rest, PySem.W.recIn K p "property" = some (.ref g :: rest)) ∧ DefM K "firsts" "Picture.firsts" s_Picture_firsts g ["self"]
  d_Picture_votes : ∃ p g, PySem.W.findIn K (.ref a.cp) "votes" = some (some (.ref p)) ∧ PySem.W.specialIn K (.ref p) "__get__" = some (some (.builtin "property.__get__")) ∧ PySem.W.takesIn K (.ref p) = some true ∧ (∃ rest, PySem.W.recIn K p "property" = some (.ref g :: rest)) ∧ DefM K "votes" "Picture.votes" s_Picture_votes g ["self"]
  d_law_pi_told : DefX K mg "_law_pi_told" "_law_pi_told" s_law_pi_told ["_law_picture"]
  d_Picture_first : ∃ mc p g, ClX.CRead K a.cp mc ∧ ClX.CMet K a.cp mc "first" p g ∧ DefM K "first" "Picture.first" s_Picture_first g ["cls", "circle"]
  d_middle_of : DefX K mg "middle_of" "middle_of" s_middle_of ["circle", "numbers"]
  d_open_in_term : DefX K mg "open_in_term" "open_in_term" s_open_in_term ["picture", "term"]
  d_wrong_chosen : DefX K mg "wrong_chosen" "wrong_chosen" s_wrong_chosen ["picture"]
  d_wrong_firsts : DefX K mg "wrong_firsts" "wrong_firsts" s_wrong_firsts ["picture"]
  d_wrong_lots : DefX K mg "wrong_lots" "wrong_lots" s_wrong_lots ["picture"]
  d_wrong_promises : DefX K mg "wrong_promises" "wrong_promises" s_wrong_promises ["picture"]
  d_wrong_votes : DefX K mg "wrong_votes" "wrong_votes" s_wrong_votes ["picture"]
  d_fault_of : DefX K mg "fault_of" "fault_of" s_fault_of ["picture"]
  d_Picture_fault : ∃ g, Meth K a.cp "fault" g ∧ DefM K "fault" "Picture.fault" s_Picture_fault g ["self"]
  d_chosen_in_term : DefX K mg "chosen_in_term" "chosen_in_term" s_chosen_in_term ["picture", "term"]
  d_chosen_row_in : DefX K mg "chosen_row_in" "chosen_row_in" s_chosen_row_in ["picture"]
  d_Picture_row : ∃ g, Meth K a.cp "row" g ∧ DefM K "row" "Picture.row" s_Picture_row g ["self"]
  d_law_right : DefX K mg "_law_right" "_law_right" s_law_right ["_law_dice_here"]
  d_Picture_is_let : ∃ g, Meth K a.cp "is_let" g ∧ DefM K "is_let" "Picture.is_let" s_Picture_is_let g ["self", "value"]
theorem fin {P : Program} {w : World} {K : PySem.W.Frag} {mg : Str → Option Value} {base : Heap} {a : Adr} (F : Al K w mg a) {f : Addr} {fd : FuncData} (D : C8.Fun K "law" "law" s_law f fd) : FnOk P w K mg base CX0 11 f fd ["_law_script"] (sp_law K) := by
  have c_law_dice : C8.Cal P w K mg base 1 "_law_dice" (sp_dice K) [] := ok_law_dice F.d_law_dice F.t1
  have c_law_roll : C8.Cal P w K mg base 1 "_law_roll" sp_roll [] := ok_law_roll F.d_law_roll F.t1
  have c_law_mixed : C8.Cal P w K mg base 2 "_law_mixed" (sp_mixed K) [] := ok_law_mixed F.d_law_mixed F.t1 c_law_roll
  have c_law_circle_drawn : C8.Cal P w K mg base 3 "_law_circle_drawn" (sp_cdrawn K) [] := ok_law_circle_drawn F.d_law_circle_drawn F.t1 c_law_mixed c_law_roll
  have c_law_pick : C8.Cal P w K mg base 2 "_law_pick" (sp_pick K) [] := ok_law_pick F.d_law_pick F.t1 c_law_roll
  have c_law_pi_entry : C8.Cal P w K mg base 3 "_law_pi_entry" (sp_entry2 K) [] := ok_law_pi_entry F.d_law_pi_entry F.t1 c_law_pick c_law_roll
  have c_law_pi_term : C8.Cal P w K mg base 3 "_law_pi_term" (sp_term K) [] := ok_law_pi_term F.d_law_pi_term F.t1 c_law_pick c_law_roll
  have c_law_pi_action : C8.Cal P w K mg base 4 "_law_pi_action" (sp_action K) [] := ok_law_pi_action F.d_law_pi_action F.t1 c_law_pi_entry c_law_pi_term c_law_pick c_law_roll
  have c_law_pi_more : C8.Cal P w K mg base 1 "_law_pi_more" (sp_more K) [] := ok_law_pi_more F.d_law_pi_more F.t1
  have c_law_pi_is_lead : C8.Cal P w K mg base 2 "_law_pi_is_lead" (sp_islead K) [] := ok_law_pi_is_lead F.d_law_pi_is_lead F.t1 c_law_pi_more
  have c_law_pi_is_let : C8.Cal P w K mg base 3 "_law_pi_is_let" (sp_islet K) [] := ok_law_pi_is_let F.d_law_pi_is_let F.t1 c_law_pi_is_lead
  have c_law_let : C8.Cal P w K mg base 5 "_law_let" (sp_llet K) [] := ok_law_let F.d_law_let F.t1 c_law_pi_action c_law_pi_is_let
  have c_parts_of : C8.Cal P w K mg base 1 "parts_of" (sp_parts K a) [] := ok_parts_of F.d_parts_of F.t1 F.cl
  have c_best_vote : C8.Cal P w K mg base 1 "best_vote" (sp_best K a) [] := ok_best_vote F.d_best_vote F.t1 F.cl
  have c_told_row : C8.Cal P w K mg base 2 "told_row" (sp_told K a) [] := ok_told_row F.d_told_row F.t1 c_best_vote F.cl
  have k_KnownParts : C8.Mak P w K mg base 1 "KnownParts" a.ck (sp_kinit (K:=K) a) [] := ok_KnownParts__init F.d_KnownParts__init F.t1 F.cl
  have c_in_order : C8.Cal P w K mg base 1 "in_order" sp_order [] := ok_in_order F.d_in_order F.t1
  have k_Picture : C8.Mak P w K mg base 2 "Picture" a.cp (sp_pinit (K:=K) a) [.non, .non, .non, .non] := ok_Picture__init F.d_Picture__init F.t1 c_in_order F.cl F.t3
  have c_done_in : C8.Cal P w K mg base 4 "done_in" (sp_done K a) [] := ok_done_in F.d_done_in F.t1 c_parts_of c_told_row F.cl k_KnownParts k_Picture
  have c_is_integer : C8.Cal P w K mg base 1 "is_integer" sp_int [] := ok_is_integer F.d_is_integer F.t1
  have c_is_from : C8.Cal P w K mg base 2 "is_from" sp_from [] := ok_is_from F.d_is_from F.t1 c_is_integer
  have c_is_client : C8.Cal P w K mg base 3 "is_client" (sp_rng 0 4) [] := ok_is_client F.d_is_client F.t1 c_is_from
  have c_has_word : C8.Cal P w K mg base 1 "has_word" (sp_word K) [] := ok_has_word F.d_has_word F.t1
  have c_is_house : C8.Cal P w K mg base 3 "is_house" (sp_rng 0 8) [] := ok_is_house F.d_is_house F.t1 c_is_from
  have c_is_circle : C8.Cal P w K mg base 4 "is_circle" (sp_circle K) [] := ok_is_circle F.d_is_circle F.t1 c_is_house
  have c_has_signs : C8.Cal P w K mg base 1 "has_signs" sp_signs [] := ok_has_signs F.d_has_signs F.t1
  have c_is_key : C8.Cal P w K mg base 2 "is_key" sp_key [] := ok_is_key F.d_is_key F.t1 c_has_signs
  have c_is_value : C8.Cal P w K mg base 3 "is_value" (sp_rng 1 1) [] := ok_is_value F.d_is_value F.t1 c_is_from
  have c_is_lot_deed : C8.Cal P w K mg base 4 "is_lot_deed" (sp_lotdeed K) [] := ok_is_lot_deed F.d_is_lot_deed F.t1 c_has_word c_is_key c_is_value
  have c_is_deed : C8.Cal P w K mg base 5 "is_deed" (sp_deed K) [] := ok_is_deed F.d_is_deed F.t1 c_has_word c_is_circle c_is_lot_deed
  have c_is_whole_deeds : C8.Cal P w K mg base 1 "is_whole_deeds" sp_int [] := ok_is_whole F.d_is_whole F.t1
  have c_is_number : C8.Cal P w K mg base 2 "is_number" (sp_rng 1 4) [] := ok_is_number F.d_is_number F.t1 c_is_whole_deeds
  have c_is_entry : C8.Cal P w K mg base 6 "is_entry" (sp_entry K) [] := ok_is_entry F.d_is_entry F.t1 c_is_client c_is_deed c_is_number
  have c_is_half : C8.Cal P w K mg base 1 "is_half" (sp_half K) [] := ok_is_half F.d_is_half F.t1
  have c_is_lot_of : C8.Cal P w K mg base 2 "is_lot_of" (sp_lotof K a) [] := ok_is_lot_of F.d_is_lot_of F.t1 c_is_half c_is_integer F.cl
  have c_is_vote_let : C8.Cal P w K mg base 2 "is_vote_let" (sp_votelet K a) [] := ok_is_vote_let F.d_is_vote_let F.t1 c_is_integer F.cl
  have c_is_whole_pictures : C8.Cal P w K mg base 2 "is_whole_pictures" sp_whole [] := ok_is_whole_p F.d_is_whole_p F.t1 c_is_integer
  have c_is_let_in : C8.Cal P w K mg base 7 "is_let_in" (sp_let K a) [] := ok_is_let_in F.d_is_let_in F.t1 c_is_entry c_is_integer c_is_lot_of c_is_vote_let c_is_whole_pictures F.cl F.t2
  have m_done : MthX P w K mg base 8 a.cp "done" (sp_mdone K a) := by
    obtain ⟨g, h1, D⟩ := F.d_Picture_done
    exact ⟨g, h1, ok_Picture_done D F.t1 c_done_in c_is_let_in⟩
  have m_eq : OwnX P w K mg base 2 a.cp (sp_eq K a) := by
    obtain ⟨g, h1, h2, h3, D⟩ := F.d_Picture__eq
    exact ⟨g, h1, h2, h3, ok_Picture__eq D F.t1 c_parts_of F.cl F.t3⟩
  have c_law_do_exchange : C8.Cal P w K mg base 9 "_law_do_exchange" (sp_exch K a) [] := ok_law_do_exchange F.d_law_do_exchange F.t1 c_law_let F.cl m_done m_eq
  have c_law_lead_drawn : C8.Cal P w K mg base 3 "_law_lead_drawn" (sp_drawn K) [] := ok_law_lead_drawn F.d_law_lead_drawn F.t1 c_law_mixed c_law_roll
  have c_law_pi_best : C8.Cal P w K mg base 1 "_law_pi_best" (sp_lbest K) [] := ok_law_pi_best F.d_law_pi_best F.t1
  have c_law_pi_done : C8.Cal P w K mg base 2 "_law_pi_done" (sp_ldone K) [] := ok_law_pi_done F.d_law_pi_done F.t1 c_law_pi_best
  have c_law_pi_open : C8.Cal P w K mg base 2 "_law_pi_open" (sp_popen K) [] := ok_law_pi_open F.d_law_pi_open F.t1 c_law_pi_more
  have c_law_pi_vote_fault : C8.Cal P w K mg base 1 "_law_pi_vote_fault" (sp_lfault K) [] := ok_law_pi_vote_fault F.d_law_pi_vote_fault F.t1
  have c_law_pi_fault : C8.Cal P w K mg base 3 "_law_pi_fault" (sp_lfault K) [] := ok_law_pi_fault F.d_law_pi_fault F.t1 c_law_pi_more c_law_pi_open c_law_pi_vote_fault
  have c_law_pi_first : C8.Cal P w K mg base 1 "_law_pi_first" (sp_lfirst K) [] := ok_law_pi_first F.d_law_pi_first F.t1
  have c_law_pi_chosen : C8.Cal P w K mg base 2 "_law_pi_chosen" (sp_pchosen K) [] := ok_law_pi_chosen F.d_law_pi_chosen F.t1 c_law_pi_more
  have c_law_pi_row : C8.Cal P w K mg base 3 "_law_pi_row" (sp_lrow K) [] := ok_law_pi_row F.d_law_pi_row F.t1 c_law_pi_chosen
  have m_circle : PrpX P w K mg base 1 a.cp "circle" (sp_cir K a) := by
    obtain ⟨p, g, h1, h2, h3, h4, D⟩ := F.d_Picture_circle
    exact ⟨p, g, h1, h2, h3, h4, ok_Picture_circle D F.t1 F.cl⟩
  have m_promised : PrpX P w K mg base 1 a.cp "promised" (sp_promised K a) := by
    obtain ⟨p, g, h1, h2, h3, h4, D⟩ := F.d_Picture_promised
    exact ⟨p, g, h1, h2, h3, h4, ok_Picture_promised D F.t1 F.cl⟩
  have m_rows : PrpX P w K mg base 1 a.cp "rows" (sp_rows K a) := by
    obtain ⟨p, g, h1, h2, h3, h4, D⟩ := F.d_Picture_rows
    exact ⟨p, g, h1, h2, h3, h4, ok_Picture_rows D F.t1 F.cl⟩
  have m_firsts : PrpX P w K mg base 1 a.cp "firsts" (sp_firsts K a) := by
    obtain ⟨p, g, h1, h2, h3, h4, D⟩ := F.d_Picture_firsts
    exact ⟨p, g, h1, h2, h3, h4, ok_Picture_firsts D F.t1 F.cl⟩
  have m_votes : PrpX P w K mg base 1 a.cp "votes" (sp_votes K a) := by
    obtain ⟨p, g, h1, h2, h3, h4, D⟩ := F.d_Picture_votes
    exact ⟨p, g, h1, h2, h3, h4, ok_Picture_votes D F.t1 F.cl⟩
  have c_law_pi_told : C8.Cal P w K mg base 3 "_law_pi_told" (sp_ptold K a) [] := ok_law_pi_told F.d_law_pi_told F.t1 F.cl m_circle m_promised m_rows m_firsts m_votes
  have m_first : ClmX P w K mg base 5 a.cp "first" (sp_first K a) := by
    obtain ⟨mc, p, g, h1, h2, D⟩ := F.d_Picture_first
    exact ⟨mc, p, g, h1, h2, ok_Picture_first D F.t1 c_is_circle k_KnownParts k_Picture⟩
  have c_middle_of : C8.Cal P w K mg base 1 "middle_of" (sp_middle K) [] := ok_middle_of F.d_middle_of F.t1
  have c_open_in_term : C8.Cal P w K mg base 2 "open_in_term" (sp_open K a) [] := ok_open_in_term F.d_open_in_term F.t1 c_middle_of F.cl
  have c_wrong_chosen : C8.Cal P w K mg base 3 "wrong_chosen" (sp_right K a) [] := ok_wrong_chosen F.d_wrong_chosen F.t1 c_open_in_term F.cl
  have c_wrong_firsts : C8.Cal P w K mg base 3 "wrong_firsts" (sp_right K a) [] := ok_wrong_firsts F.d_wrong_firsts F.t1 F.cl
  have c_wrong_lots : C8.Cal P w K mg base 3 "wrong_lots" (sp_right K a) [] := ok_wrong_lots F.d_wrong_lots F.t1 c_is_half F.cl
  have c_wrong_promises : C8.Cal P w K mg base 3 "wrong_promises" (sp_right K a) [] := ok_wrong_promises F.d_wrong_promises F.t1 F.cl
  have c_wrong_votes : C8.Cal P w K mg base 3 "wrong_votes" (sp_right K a) [] := ok_wrong_votes F.d_wrong_votes F.t1 F.cl
  have c_fault_of : C8.Cal P w K mg base 4 "fault_of" (sp_fault K a) [] := ok_fault_of F.d_fault_of F.t1 c_wrong_chosen c_wrong_firsts c_wrong_lots c_wrong_promises c_wrong_votes c_wrong_votes c_wrong_promises c_wrong_firsts c_wrong_lots c_wrong_chosen
  have m_fault : MthX P w K mg base 5 a.cp "fault" (sp_fault K a) := by
    obtain ⟨g, h1, D⟩ := F.d_Picture_fault
    exact ⟨g, h1, ok_Picture_fault D F.t1 c_fault_of⟩
  have c_chosen_in_term : C8.Cal P w K mg base 2 "chosen_in_term" (sp_chosen K a) [] := ok_chosen_in_term F.d_chosen_in_term F.t1 c_middle_of F.cl
  have c_chosen_row_in : C8.Cal P w K mg base 3 "chosen_row_in" (sp_chrow K a) [] := ok_chosen_row_in F.d_chosen_row_in F.t1 c_chosen_in_term F.cl
  have m_row : MthX P w K mg base 5 a.cp "row" (sp_chrow K a) := by
    obtain ⟨g, h1, D⟩ := F.d_Picture_row
    exact ⟨g, h1, ok_Picture_row D F.t1 c_chosen_row_in c_fault_of⟩
  have c_law_right : C8.Cal P w K mg base 10 "_law_right" (sp_lright K) [] := ok_law_right F.d_law_right F.t1 c_law_circle_drawn c_law_do_exchange c_law_lead_drawn c_law_let c_law_pi_done c_law_pi_fault c_law_pi_first c_law_pi_is_let c_law_pi_row c_law_pi_told c_law_roll F.cl F.t3 m_first m_done m_fault m_row
  have m_is_let : MthX P w K mg base 8 a.cp "is_let" (sp_let K a) := by
    obtain ⟨g, h1, D⟩ := F.d_Picture_is_let
    exact ⟨g, h1, ok_Picture_is_let D F.t1 c_is_let_in⟩
  exact ok_law D F.t1 c_law_dice c_law_right F.cl F.t3 m_first m_done m_row m_is_let m_rows m_firsts
end Hm

namespace Hm
open PySem PySem.Spec PyProof.Rows L2 Rx RZ
/-! what the head's single facts give -/
section
variable {K : PySem.W.Frag} {h : Heap} {mg : Str → Option Value} {w : World}
theorem defx {x y : Str} {st : Stmt} {ps : List Str} {f : Addr} {oc kV doc pm cdv ct : Value} {od an : Option Addr} {sl : Array (Option Value)} (X : K.In h) (G : h.Ns mainGlobals mg)
    (a : PySem.W.nsIn K mainGlobals x = some (some (.ref f))) (l : K.lookup f = some ⟨oc, od, .func (PySem.W.fnOf y y (C8.fnArgs st) (C8.fnBody st) (C8.fnScope st) .none kV doc pm an cdv ct), sl⟩) (c : PySem.W.codeIn K cdv y = true) (k : PySem.W.keepIn K (.ref f) = true)
    (b : ∀ (kV doc pm : Value) (an : Option Addr) (cdv ct : Value) (us : List Value), us.length = ps.length → bindArgs (PySem.W.fnOf y y (C8.fnArgs st) (C8.fnBody st) (C8.fnScope st) .none kV doc pm an cdv ct) ⟨us, []⟩ = pure (ps.zip us)) : DefX K mg x y st ps :=
  have F : C8.Fun K y y st f _ := ⟨oc, od, _, kV, doc, pm, an, cdv, ct, sl, rfl, l, c⟩
  ⟨f, _, F, PySem.W.mg_of X G a, k, F.binds rfl b⟩
theorem defm {nm q : Str} {st : Stmt} {ps : List Str} {f : Addr} {oc kV doc pm cdv ct : Value} {od an : Option Addr} {sl : Array (Option Value)}
    (l : K.lookup f = some ⟨oc, od, .func (PySem.W.fnOf nm q (C8.fnArgs st) (C8.fnBody st) (C8.fnScope st) .none kV doc pm an cdv ct), sl⟩) (c : PySem.W.codeIn K cdv q = true)
    (b : ∀ (kV doc pm : Value) (an : Option Addr) (cdv ct : Value) (us : List Value), us.length = ps.length → bindArgs (PySem.W.fnOf nm q (C8.fnArgs st) (C8.fnBody st) (C8.fnScope st) .none kV doc pm an cdv ct) ⟨us, []⟩ = pure (ps.zip us)) : DefM K nm q st f ps :=
  have F : C8.Fun K nm q st f _ := ⟨oc, od, _, kV, doc, pm, an, cdv, ct, sl, rfl, l, c⟩
  ⟨_, F, F.binds rfl b⟩
theorem mtm {C f : Addr} {m : Str} {Pr : Addr → Prop} (a : PySem.W.findIn K (.ref C) m = some (some (.ref f))) (i : PySem.W.isFn K (.ref f) = true) (k : PySem.W.keepIn K (.ref f) = true) (p : Pr f) : ∃ g, Meth K C m g ∧ Pr g := ⟨f, ⟨a, i, k⟩, p⟩
theorem ppm {C p g : Addr} {m : Str} {rest : List Value} {Pr : Addr → Prop} (a : PySem.W.findIn K (.ref C) m = some (some (.ref p))) (b : PySem.W.specialIn K (.ref p) "__get__" = some (some (.builtin "property.__get__"))) (c : PySem.W.takesIn K (.ref p) = some true) (d : PySem.W.recIn K p "property" = some (.ref g :: rest)) (q : Pr g) :
    ∃ p g, PySem.W.findIn K (.ref C) m = some (some (.ref p)) ∧ PySem.W.specialIn K (.ref p) "__get__" = some (some (.builtin "property.__get__")) ∧ PySem.W.takesIn K (.ref p) = some true ∧ (∃ rest, PySem.W.recIn K p "property" = some (.ref g :: rest)) ∧ Pr g := ⟨p, g, a, b, c, ⟨rest, d⟩, q⟩
theorem cmm {C p g : Addr} {m : Str} {rest : List Value} {Pr : Addr → Prop} (r : PySem.W.readsIn K C (.type "type") = true) (s : PySem.W.specialIn K (.ref C) "__getattribute__" = some (some (.builtin "type.__getattribute__"))) (a : PySem.W.findCls K (.ref C) (.type "type") m = some (.get (.builtin "classmethod.__get__") (.ref p) .none (.ref C)))
    (d : PySem.W.recIn K p "classmethod" = some (.ref g :: rest)) (f : PySem.W.fnIn K g = true) (q : Pr g) : ∃ mc p g, ClX.CRead K C mc ∧ ClX.CMet K C mc m p g ∧ Pr g := ⟨.type "type", p, g, ⟨r, s⟩, ⟨a, ⟨rest, d⟩, f⟩, q⟩
theorem owm {C g : Addr} {Pr : Addr → Prop} (a : PySem.W.findIn K (.ref C) "__eq__" = some (some (.ref g))) (b : PySem.W.isFn K (.ref g) = true) (c : PySem.W.notFirst K C (.ref C) = true) (q : Pr g) : ∃ g, PySem.W.findIn K (.ref C) "__eq__" = some (some (.ref g)) ∧ PySem.W.isFn K (.ref g) = true ∧ PySem.W.notFirst K C (.ref C) = true ∧ Pr g := ⟨g, a, b, c, q⟩
theorem defi0 {x q : Str} {st : Stmt} {ps : List Str} {C f : Addr} {oc kV doc pm cdv ct : Value} {od an : Option Addr} {sl : Array (Option Value)} (X : K.In h) (G : h.Ns mainGlobals mg) (n : PySem.W.nsIn K mainGlobals x = some (some (.ref C)))
    (m : PySem.W.makesIn K C = true) (a : PySem.W.findIn K (.ref C) "__init__" = some (some (.ref f))) (i : PySem.W.isFn K (.ref f) = true) (k : PySem.W.keepIn K (.ref C) = true)
    (l : K.lookup f = some ⟨oc, od, .func (PySem.W.fnOf "__init__" q (C8.fnArgs st) (C8.fnBody st) (C8.fnScope st) .none kV doc pm an cdv ct), sl⟩) (c : PySem.W.codeIn K cdv q = true)
    (b : ∀ (kV doc pm : Value) (an : Option Addr) (cdv ct : Value) (us : List Value), us.length = ps.length → bindArgs (PySem.W.fnOf "__init__" q (C8.fnArgs st) (C8.fnBody st) (C8.fnScope st) .none kV doc pm an cdv ct) ⟨us, []⟩ = pure (ps.zip us)) : DefI K mg x C q st ps [] :=
  have F : C8.Fun K "__init__" q st f _ := ⟨oc, od, _, kV, doc, pm, an, cdv, ct, sl, rfl, l, c⟩
  ⟨f, _, ⟨m, a, i, k⟩, F, F.binds rfl b, PySem.W.mg_of X G n⟩
theorem defi4 {x q : Str} {st : Stmt} {C f T : Addr} {oc oc2 kV doc pm cdv ct : Value} {od od2 an : Option Addr} {sl sl2 : Array (Option Value)} {nn : Nat} (X : K.In h) (G : h.Ns mainGlobals mg) (n : PySem.W.nsIn K mainGlobals x = some (some (.ref C)))
    (m : PySem.W.makesIn K C = true) (a : PySem.W.findIn K (.ref C) "__init__" = some (some (.ref f))) (i : PySem.W.isFn K (.ref f) = true) (k : PySem.W.keepIn K (.ref C) = true)
    (l : K.lookup f = some ⟨oc, od, .func (PySem.W.fnOf "__init__" q (C8.fnArgs st) (C8.fnBody st) (C8.fnScope st) (.ref T) kV doc pm an cdv ct), sl⟩) (c : PySem.W.codeIn K cdv q = true)
    (lT : K.lookup T = some ⟨oc2, od2, .seq #[.none, .none, .none, .none] nn, sl2⟩)
    (b : ∀ (T : Addr) (kV doc pm : Value) (an : Option Addr) (cdv ct : Value) (x y : Value), ∃ k : Option (Array Value) → Sem (List (Str × Value)), bindArgs (PySem.W.fnOf "__init__" q (C8.fnArgs st) (C8.fnBody st) (C8.fnScope st) (.ref T) kV doc pm an cdv ct) ⟨[x, y], []⟩ = seqItems? (.ref T) >>= k ∧
      k (some #[.none, .none, .none, .none]) = pure ((["self", "circle", "promised", "rows", "firsts", "votes"] : List Str).zip [x, y, .none, .none, .none, .none])) : DefI K mg x C q st ["self", "circle", "promised", "rows", "firsts", "votes"] [.none, .none, .none, .none] := by
  have F : C8.Fun K "__init__" q st f _ := ⟨oc, od, _, kV, doc, pm, an, cdv, ct, sl, rfl, l, c⟩
  refine ⟨f, _, ⟨m, a, i, k⟩, F, fun s us X2 hlen => ?_, PySem.W.mg_of X G n⟩
  obtain ⟨x, y, rfl⟩ : ∃ x y, us = [x, y] := by
    have h2 : us.length = 2 := by
      rw [List.length_append] at hlen
      simp only [List.length_cons, List.length_nil] at hlen
      omega
    match us, h2 with
    | [x, y], _ => exact ⟨x, y, rfl⟩
  obtain ⟨kk, b1, b2⟩ := b T kV doc pm an cdv ct x y
  exact BindsTo.of_defaults (fd := PySem.W.fnOf "__init__" q (C8.fnArgs st) (C8.fnBody st) (C8.fnScope st) (.ref T) kV doc pm an cdv ct) rfl (X2 _ _ lT) rfl b1 b2
theorem sqk {a : Addr} {od : Option Addr} {its : Array Value} {n : Nat} {sl : Array (Option Value)} {xs : List V} (l : K.lookup a = some ⟨.type "tuple", od, .seq its n, sl⟩) (z : Nat.ble its.size 1000 = true) (v : Vals xs its.toList) (H : Hp) : SqT K H a xs :=
  .inr ⟨_, its, n, l, rfl, rfl, Nat.le_trans (Nat.le_of_ble_eq_true z) (by rw [sizeLine_eq]; decide), v⟩
theorem sl1 {C p : Addr} {f : Str} {i : Nat} (a : PySem.W.findIn K (.ref C) f = some (some (.ref p))) (b : PySem.W.specialIn K (.ref p) "__get__" = some (some (.builtin "member_descriptor.__get__"))) (c : PySem.W.takesIn K (.ref p) = some true) (d : PySem.W.typeIn K (.ref p) = some (.type "member_descriptor")) (e : PySem.W.slotIn K p C = some i) (l : i < 1000) : ∃ p, SlX.Slot1 K C f p i := ⟨p, a, b, c, d, e, l⟩

theorem txt1 {dw lw asz nv ck cp : Addr} (X : K.In h) (G : h.Ns mainGlobals mg)
    (z_len : PySem.W.nsIn K mainGlobals "len" = some none)
    (z_sorted : PySem.W.nsIn K mainGlobals "sorted" = some none)
    (z_max : PySem.W.nsIn K mainGlobals "max" = some none)
    (z_min : PySem.W.nsIn K mainGlobals "min" = some none)
    (z_isinstance : PySem.W.nsIn K mainGlobals "isinstance" = some none)
    (z_all : PySem.W.nsIn K mainGlobals "all" = some none)
    (z_int : PySem.W.nsIn K mainGlobals "int" = some none)
    (z_bool : PySem.W.nsIn K mainGlobals "bool" = some none)
    (z_str : PySem.W.nsIn K mainGlobals "str" = some none)
    (z_list : PySem.W.nsIn K mainGlobals "list" = some none)
    (z_tuple : PySem.W.nsIn K mainGlobals "tuple" = some none)
    (z_dict : PySem.W.nsIn K mainGlobals "dict" = some none)
    (z_set : PySem.W.nsIn K mainGlobals "set" = some none)
    (z_range : PySem.W.nsIn K mainGlobals "range" = some none)
    (z_zip : PySem.W.nsIn K mainGlobals "zip" = some none)
    (z_abs : PySem.W.nsIn K mainGlobals "abs" = some none)
    {t_MAX_HOUSES : Tok} (c_MAX_HOUSES : PySem.W.nsIn K mainGlobals "MAX_HOUSES" = some (some (.int 9 t_MAX_HOUSES)))
    {t_MAX_CIRCLE : Tok} (c_MAX_CIRCLE : PySem.W.nsIn K mainGlobals "MAX_CIRCLE" = some (some (.int 7 t_MAX_CIRCLE)))
    {t_MAX_CLIENTS : Tok} (c_MAX_CLIENTS : PySem.W.nsIn K mainGlobals "MAX_CLIENTS" = some (some (.int 5 t_MAX_CLIENTS)))
    {t_MAX_KEY : Tok} (c_MAX_KEY : PySem.W.nsIn K mainGlobals "MAX_KEY" = some (some (.int 8 t_MAX_KEY)))
    {t_LEAST : Tok} (c_LEAST : PySem.W.nsIn K mainGlobals "LEAST" = some (some (.int 1000000000000 t_LEAST)))
    {t_GREATEST : Tok} (c_GREATEST : PySem.W.nsIn K mainGlobals "GREATEST" = some (some (.int 1000000000000000000000000000000000000000000000000000000000000 t_GREATEST)))
    {t_SMALL_LETTERS : Tok} {s_SMALL_LETTERS : Str} (c_SMALL_LETTERS : PySem.W.nsIn K mainGlobals "SMALL_LETTERS" = some (some (.str s_SMALL_LETTERS t_SMALL_LETTERS))) (e_SMALL_LETTERS : s_SMALL_LETTERS = "abcdefghijklmnopqrstuvwxyz")
    {t_MAX_NUMBER : Tok} (c_MAX_NUMBER : PySem.W.nsIn K mainGlobals "MAX_NUMBER" = some (some (.int 999999999999999999999999999999999999999999999999999999999999 t_MAX_NUMBER)))
    {t_ENTRY_SIZE : Tok} (c_ENTRY_SIZE : PySem.W.nsIn K mainGlobals "ENTRY_SIZE" = some (some (.int 3 t_ENTRY_SIZE)))
    {t_PROMISE : Tok} {s_PROMISE : Str} (c_PROMISE : PySem.W.nsIn K mainGlobals "PROMISE" = some (some (.str s_PROMISE t_PROMISE))) (e_PROMISE : s_PROMISE = "promise")
    (c_DEED_WORDS : PySem.W.nsIn K mainGlobals "DEED_WORDS" = some (some (.ref dw))) (q_DEED_WORDS : ∀ H, SqT K H dw [.str "put", .str "drop", .str "get", .str "add", .str "swap", .str "list", .str "all", .str "circle"])
    (c_LOT_WORDS : PySem.W.nsIn K mainGlobals "LOT_WORDS" = some (some (.ref lw))) (q_LOT_WORDS : ∀ H, SqT K H lw [.str "put", .str "drop", .str "get", .str "add", .str "swap"])
    (c_NO_VOTE : PySem.W.nsIn K mainGlobals "NO_VOTE" = some (some (.ref nv))) (q_NO_VOTE : ∀ H, SqT K H nv [.int (-1), .int 0]) : Txt K mg ⟨dw, lw, asz, nv, ck, cp⟩ :=
  ⟨PySem.W.mg_none_of X G z_len, PySem.W.mg_none_of X G z_sorted, PySem.W.mg_none_of X G z_max, PySem.W.mg_none_of X G z_min, PySem.W.mg_none_of X G z_isinstance, PySem.W.mg_none_of X G z_all, PySem.W.mg_none_of X G z_int, PySem.W.mg_none_of X G z_bool, PySem.W.mg_none_of X G z_str, PySem.W.mg_none_of X G z_list, PySem.W.mg_none_of X G z_tuple, PySem.W.mg_none_of X G z_dict, PySem.W.mg_none_of X G z_set, PySem.W.mg_none_of X G z_range, PySem.W.mg_none_of X G z_zip, PySem.W.mg_none_of X G z_abs, ⟨_, PySem.W.mg_of X G c_MAX_HOUSES, ⟨t_MAX_HOUSES, by rfl⟩⟩, ⟨_, PySem.W.mg_of X G c_MAX_CIRCLE, ⟨t_MAX_CIRCLE, by rfl⟩⟩, ⟨_, PySem.W.mg_of X G c_MAX_CLIENTS, ⟨t_MAX_CLIENTS, by rfl⟩⟩, ⟨_, PySem.W.mg_of X G c_MAX_KEY, ⟨t_MAX_KEY, by rfl⟩⟩, ⟨_, PySem.W.mg_of X G c_LEAST, ⟨t_LEAST, by rfl⟩⟩, ⟨_, PySem.W.mg_of X G c_GREATEST, ⟨t_GREATEST, by rfl⟩⟩, ⟨_, PySem.W.mg_of X G c_SMALL_LETTERS, ⟨t_SMALL_LETTERS, by rw [e_SMALL_LETTERS]⟩⟩, ⟨_, PySem.W.mg_of X G c_MAX_NUMBER, ⟨t_MAX_NUMBER, by rfl⟩⟩, ⟨_, PySem.W.mg_of X G c_ENTRY_SIZE, ⟨t_ENTRY_SIZE, by rfl⟩⟩, ⟨_, PySem.W.mg_of X G c_PROMISE, ⟨t_PROMISE, by rw [e_PROMISE]⟩⟩, ⟨_, PySem.W.mg_of X G c_DEED_WORDS, rfl⟩, q_DEED_WORDS, ⟨_, PySem.W.mg_of X G c_LOT_WORDS, rfl⟩, q_LOT_WORDS, ⟨_, PySem.W.mg_of X G c_NO_VOTE, rfl⟩, q_NO_VOTE⟩
theorem txt2 {dw lw asz nv ck cp : Addr} {es : Array DictEntry} {n : Nat} {t1 t2 t3 t4 : Tok} (X : K.In h) (G : h.Ns mainGlobals mg) (c : PySem.W.nsIn K mainGlobals "ACTION_SIZES" = some (some (.ref asz))) (l : K.lookup asz = some ⟨.type "dict", none, .dict es n, #[]⟩) (kl : PySem.W.KeysLit w.params es.toList) (lo : (asz == sysModules) = false)
    (a1 : PySem.W.nsIn K asz "promise" = some (some (.int 3 t1))) (a2 : PySem.W.nsIn K asz "lead" = some (some (.int 3 t2))) (a3 : PySem.W.nsIn K asz "append" = some (some (.int 3 t3))) (a4 : PySem.W.nsIn K asz "vote" = some (some (.int 4 t4))) : Txt2 K w mg ⟨dw, lw, asz, nv, ck, cp⟩ := by
  refine ⟨⟨_, PySem.W.mg_of X G c, rfl⟩, ⟨es, n, l, kl, lo⟩, fun z hz => ?_, ⟨_, a4, t4, rfl⟩⟩
  rcases hz with rfl | rfl | rfl
  · exact ⟨_, a1, t1, rfl⟩
  · exact ⟨_, a2, t2, rfl⟩
  · exact ⟨_, a3, t3, rfl⟩
theorem txt3 {dw lw asz nv ck cp : Addr} (X : K.In h) (G : h.Ns mainGlobals mg) (cK : PySem.W.nsIn K mainGlobals "KnownParts" = some (some (.ref ck))) (cP : PySem.W.nsIn K mainGlobals "Picture" = some (some (.ref cp)))
    (x1 : PySem.W.findIn K (.ref ck) "__class__" = some (some (.builtin "object.__class__"))) (x2 : PySem.W.findIn K (.ref cp) "__class__" = some (some (.builtin "object.__class__"))) (x3 : PySem.W.specialIn K (.builtin "object.__class__") "__get__" = some (some (.builtin "getset_descriptor.__get__"))) (x4 : PySem.W.takesIn K (.builtin "object.__class__") = some true)
    (x5 : PySem.W.mroIn K ck (.type "object") = some true) (x6 : PySem.W.mroIn K cp (.type "object") = some true) (x7 : PySem.W.kitOne K (.ref ck) (.ref ck) = some true) (x8 : PySem.W.kitOne K (.ref cp) (.ref cp) = some true) : Txt3 K mg ⟨dw, lw, asz, nv, ck, cp⟩ :=
  ⟨⟨_, PySem.W.mg_of X G cK, rfl⟩, ⟨_, PySem.W.mg_of X G cP, rfl⟩, ⟨x1, x3, x4, x5⟩, ⟨x2, x3, x4, x6⟩, x7, x8⟩
theorem scl {C : Addr} (a : PySem.W.plainGet K C Str.empty = true) (b : PySem.W.isClsIn K C = true) (c : PySem.W.plainOver K C = true) (d : PySem.W.findIn K (.ref C) "__setattr__" = some (some (.builtin "object.__setattr__"))) : SlX.SCls K C := ⟨a, b, c, d⟩
theorem all_mk {l : PySem.W.OpenLaw} {fa fL dw lw asz nv ck cp : Addr} {oc kV doc pm cdv ct : Value} {od an : Option Addr} {sl : Array (Option Value)} (X : K.In h) (G : h.Ns mainGlobals mg) (hfa : mg "law" = some (.ref fa))
    (n1 : PySem.W.nsIn K mainGlobals "DEED_WORDS" = some (some (.ref dw))) (n2 : PySem.W.nsIn K mainGlobals "LOT_WORDS" = some (some (.ref lw))) (n3 : PySem.W.nsIn K mainGlobals "ACTION_SIZES" = some (some (.ref asz))) (n4 : PySem.W.nsIn K mainGlobals "NO_VOTE" = some (some (.ref nv))) (n5 : PySem.W.nsIn K mainGlobals "KnownParts" = some (some (.ref ck))) (n6 : PySem.W.nsIn K mainGlobals "Picture" = some (some (.ref cp)))
    (nL : PySem.W.nsIn K mainGlobals "law" = some (some (.ref fL))) (lL : K.lookup fL = some ⟨oc, od, .func (PySem.W.fnOf "law" "law" (C8.fnArgs s_law) (C8.fnBody s_law) (C8.fnScope s_law) .none kV doc pm an cdv ct), sl⟩) (cL : PySem.W.codeIn K cdv "law" = true)
    (t1 : Txt K mg ⟨dw, lw, asz, nv, ck, cp⟩) (t2 : Txt2 K w mg ⟨dw, lw, asz, nv, ck, cp⟩) (t3 : Txt3 K mg ⟨dw, lw, asz, nv, ck, cp⟩) (cl : Cls K ⟨dw, lw, asz, nv, ck, cp⟩)
    (d_law_dice : DefX K mg "_law_dice" "_law_dice" s_law_dice ["_law_script", "_law_spot"])
    (d_law_roll : DefX K mg "_law_roll" "_law_roll" s_law_roll ["_law_dice_here", "_law_most"])
    (d_law_mixed : DefX K mg "_law_mixed" "_law_mixed" s_law_mixed ["_law_dice_here", "_law_items"])
    (d_law_circle_drawn : DefX K mg "_law_circle_drawn" "_law_circle_drawn" s_law_circle_drawn ["_law_dice_here", "_law_most"])
    (d_law_pick : DefX K mg "_law_pick" "_law_pick" s_law_pick ["_law_dice_here", "_law_items"])
    (d_law_pi_entry : DefX K mg "_law_pi_entry" "_law_pi_entry" s_law_pi_entry ["_law_dice_here"])
    (d_law_pi_term : DefX K mg "_law_pi_term" "_law_pi_term" s_law_pi_term ["_law_dice_here", "_law_picture"])
    (d_law_pi_action : DefX K mg "_law_pi_action" "_law_pi_action" s_law_pi_action ["_law_dice_here", "_law_picture"])
    (d_law_pi_more : DefX K mg "_law_pi_more" "_law_pi_more" s_law_pi_more ["_law_circle", "_law_many"])
    (d_law_pi_is_lead : DefX K mg "_law_pi_is_lead" "_law_pi_is_lead" s_law_pi_is_lead ["_law_picture", "_law_term", "_law_lot"])
    (d_law_pi_is_let : DefX K mg "_law_pi_is_let" "_law_pi_is_let" s_law_pi_is_let ["_law_picture", "_law_action"])
    (d_law_let : DefX K mg "_law_let" "_law_let" s_law_let ["_law_dice_here", "_law_picture"])
    (d_parts_of : DefX K mg "parts_of" "parts_of" s_parts_of ["picture"])
    (d_best_vote : DefX K mg "best_vote" "best_vote" s_best_vote ["picture", "lot", "term"])
    (d_told_row : DefX K mg "told_row" "told_row" s_told_row ["picture", "lot", "term"])
    (d_KnownParts__init : DefI K mg "KnownParts" ck "KnownParts.__init__" s_KnownParts__init ["self", "circle", "promised", "rows", "firsts", "votes"] [])
    (d_in_order : DefX K mg "in_order" "in_order" s_in_order ["found"])
    (d_Picture__init : DefI K mg "Picture" cp "Picture.__init__" s_Picture__init ["self", "circle", "promised", "rows", "firsts", "votes"] [.none, .none, .none, .none])
    (d_done_in : DefX K mg "done_in" "done_in" s_done_in ["picture", "action"])
    (d_is_integer : DefX K mg "is_integer" "is_integer" s_is_integer ["value"])
    (d_is_from : DefX K mg "is_from" "is_from" s_is_from ["value", "least", "most"])
    (d_is_client : DefX K mg "is_client" "is_client" s_is_client ["value"])
    (d_has_word : DefX K mg "has_word" "has_word" s_has_word ["value", "words"])
    (d_is_house : DefX K mg "is_house" "is_house" s_is_house ["value"])
    (d_is_circle : DefX K mg "is_circle" "is_circle" s_is_circle ["value"])
    (d_has_signs : DefX K mg "has_signs" "has_signs" s_has_signs ["value", "signs", "most"])
    (d_is_key : DefX K mg "is_key" "is_key" s_is_key ["value"])
    (d_is_value : DefX K mg "is_value" "is_value" s_is_value ["value"])
    (d_is_lot_deed : DefX K mg "is_lot_deed" "is_lot_deed" s_is_lot_deed ["value"])
    (d_is_deed : DefX K mg "is_deed" "is_deed" s_is_deed ["value"])
    (d_is_whole : DefX K mg "is_whole_deeds" "is_whole" s_is_whole ["value"])
    (d_is_number : DefX K mg "is_number" "is_number" s_is_number ["value"])
    (d_is_entry : DefX K mg "is_entry" "is_entry" s_is_entry ["value"])
    (d_is_half : DefX K mg "is_half" "is_half" s_is_half ["circle", "lot"])
    (d_is_lot_of : DefX K mg "is_lot_of" "is_lot_of" s_is_lot_of ["picture", "term", "value"])
    (d_is_vote_let : DefX K mg "is_vote_let" "is_vote_let" s_is_vote_let ["picture", "house", "term", "many"])
    (d_is_whole_p : DefX K mg "is_whole_pictures" "is_whole" s_is_whole_p ["value", "least"])
    (d_is_let_in : DefX K mg "is_let_in" "is_let_in" s_is_let_in ["picture", "value"])
    (d_Picture_done : ∃ g, Meth K cp "done" g ∧ DefM K "done" "Picture.done" s_Picture_done g ["self", "action"])
    (d_Picture__eq : ∃ g, PySem.W.findIn K (.ref cp) "__eq__" = some (some (.ref g)) ∧ PySem.W.isFn K (.ref g) = true ∧ PySem.W.notFirst K cp (.ref cp) = true ∧ DefM K "__eq__" "Picture.__eq__" s_Picture__eq g ["self", "other"])
    (d_law_do_exchange : DefX K mg "_law_do_exchange" "_law_do_exchange" s_law_do_exchange ["_law_dice_here", "_law_picture", "_law_made"])
    (d_law_lead_drawn : DefX K mg "_law_lead_drawn" "_law_lead_drawn" s_law_lead_drawn ["_law_dice_here", "_law_picture"])
    (d_law_pi_best : DefX K mg "_law_pi_best" "_law_pi_best" s_law_pi_best ["_law_picture", "_law_lot", "_law_term"])
    (d_law_pi_done : DefX K mg "_law_pi_done" "_law_pi_done" s_law_pi_done ["_law_picture", "_law_action"])
    (d_law_pi_open : DefX K mg "_law_pi_open" "_law_pi_open" s_law_pi_open ["_law_picture", "_law_term"])
    (d_law_pi_vote_fault : DefX K mg "_law_pi_vote_fault" "_law_pi_vote_fault" s_law_pi_vote_fault ["_law_picture"])
    (d_law_pi_fault : DefX K mg "_law_pi_fault" "_law_pi_fault" s_law_pi_fault ["_law_picture"])
    (d_law_pi_first : DefX K mg "_law_pi_first" "_law_pi_first" s_law_pi_first ["_law_circle"])
    (d_law_pi_chosen : DefX K mg "_law_pi_chosen" "_law_pi_chosen" s_law_pi_chosen ["_law_picture", "_law_term"])
    (d_law_pi_row : DefX K mg "_law_pi_row" "_law_pi_row" s_law_pi_row ["_law_picture"])
    (d_Picture_circle : ∃ p g, PySem.W.findIn K (.ref cp) "circle" = some (some (.ref p)) ∧ PySem.W.specialIn K (.ref p) "__get__" = some (some (.builtin "property.__get__")) ∧ PySem.W.takesIn K (.ref p) = some true ∧ (∃ rest, PySem.W.recIn K p "property" = some (.ref g :: rest)) ∧ DefM K "circle" "Picture.circle" s_Picture_circle g ["self"])
    (d_Picture_promised : ∃ p g, PySem.W.findIn K (.ref cp) "promised" = some (some (.ref p)) ∧ PySem.W.specialIn K (.ref p) "__get__" = some (some (.builtin "property.__get__")) ∧ PySem.W.takesIn K (.ref p) = some true ∧ (∃ rest, PySem.W.recIn K p "property" = some (.ref g :: rest)) ∧ DefM K "promised" "Picture.promised" s_Picture_promised g ["self"])
    (d_Picture_rows : ∃ p g, PySem.W.findIn K (.ref cp) "rows" = some (some (.ref p)) ∧ PySem.W.specialIn K (.ref p) "__get__" = some (some (.builtin "property.__get__")) ∧ PySem.W.takesIn K (.ref p) = some true ∧ (∃ rest, PySem.W.recIn K p "property" = some (.ref g :: rest)) ∧ DefM K "rows" "Picture.rows" s_Picture_rows g ["self"])
    (d_Picture_firsts : ∃ p g, PySem.W.findIn K (.ref cp) "firsts" = some (some (.ref p)) ∧ PySem.W.specialIn K (.ref p) "__get__" = some (some (.builtin "property.__get__")) ∧ PySem.W.takesIn K (.ref p) = some true ∧ (∃ rest, PySem.W.recIn K p "property" = some (.ref g :: rest)) ∧ DefM K "firsts" "Picture.firsts" s_Picture_firsts g ["self"])
    (d_Picture_votes : ∃ p g, PySem.W.findIn K (.ref cp) "votes" = some (some (.ref p)) ∧ PySem.W.specialIn K (.ref p) "__get__" = some (some (.builtin "property.__get__")) ∧ PySem.W.takesIn K (.ref p) = some true ∧ (∃ rest, PySem.W.recIn K p "property" = some (.ref g :: rest)) ∧ DefM K "votes" "Picture.votes" s_Picture_votes g ["self"])
    (d_law_pi_told : DefX K mg "_law_pi_told" "_law_pi_told" s_law_pi_told ["_law_picture"])
    (d_Picture_first : ∃ mc p g, ClX.CRead K cp mc ∧ ClX.CMet K cp mc "first" p g ∧ DefM K "first" "Picture.first" s_Picture_first g ["cls", "circle"])
    (d_middle_of : DefX K mg "middle_of" "middle_of" s_middle_of ["circle", "numbers"])
    (d_open_in_term : DefX K mg "open_in_term" "open_in_term" s_open_in_term ["picture", "term"])
    (d_wrong_chosen : DefX K mg "wrong_chosen" "wrong_chosen" s_wrong_chosen ["picture"])
    (d_wrong_firsts : DefX K mg "wrong_firsts" "wrong_firsts" s_wrong_firsts ["picture"])
    (d_wrong_lots : DefX K mg "wrong_lots" "wrong_lots" s_wrong_lots ["picture"])
    (d_wrong_promises : DefX K mg "wrong_promises" "wrong_promises" s_wrong_promises ["picture"])
    (d_wrong_votes : DefX K mg "wrong_votes" "wrong_votes" s_wrong_votes ["picture"])
    (d_fault_of : DefX K mg "fault_of" "fault_of" s_fault_of ["picture"])
    (d_Picture_fault : ∃ g, Meth K cp "fault" g ∧ DefM K "fault" "Picture.fault" s_Picture_fault g ["self"])
    (d_chosen_in_term : DefX K mg "chosen_in_term" "chosen_in_term" s_chosen_in_term ["picture", "term"])
    (d_chosen_row_in : DefX K mg "chosen_row_in" "chosen_row_in" s_chosen_row_in ["picture"])
    (d_Picture_row : ∃ g, Meth K cp "row" g ∧ DefM K "row" "Picture.row" s_Picture_row g ["self"])
    (d_law_right : DefX K mg "_law_right" "_law_right" s_law_right ["_law_dice_here"])
    (d_Picture_is_let : ∃ g, Meth K cp "is_let" g ∧ DefM K "is_let" "Picture.is_let" s_Picture_is_let g ["self", "value"]) :
    ∃ fd : FuncData, (∀ (s : Shared) (v : Value), BindsTo s fd ⟨[v], []⟩ [("_law_script", v)]) ∧ ∀ base : Heap, K.In base → base.Ns mainGlobals mg → FnOk l.prog w K mg base CX0 11 fa fd ["_law_script"] (sp_law K) := by
  have e := hfa.symm.trans (PySem.W.mg_of X G nL)
  cases e
  have D : C8.Fun K "law" "law" s_law fa _ := ⟨oc, od, _, kV, doc, pm, an, cdv, ct, sl, rfl, lL, cL⟩
  have A : Al K w mg ⟨dw, lw, asz, nv, ck, cp⟩ := ⟨t1, t2, t3, cl, d_law_dice, d_law_roll, d_law_mixed, d_law_circle_drawn, d_law_pick, d_law_pi_entry, d_law_pi_term, d_law_pi_action, d_law_pi_more, d_law_pi_is_lead, d_law_pi_is_let, d_law_let, d_parts_of, d_best_vote, d_told_row, d_KnownParts__init, d_in_order, d_Picture__init, d_done_in, d_is_integer, d_is_from, d_is_client, d_has_word, d_is_house, d_is_circle, d_has_signs, d_is_key, d_is_value, d_is_lot_deed, d_is_deed, d_is_whole, d_is_number, d_is_entry, d_is_half, d_is_lot_of, d_is_vote_let, d_is_whole_p, d_is_let_in, d_Picture_done, d_Picture__eq, d_law_do_exchange, d_law_lead_drawn, d_law_pi_best, d_law_pi_done, d_law_pi_open, d_law_pi_vote_fault, d_law_pi_fault, d_law_pi_first, d_law_pi_chosen, d_law_pi_row, d_Picture_circle, d_Picture_promised, d_Picture_rows, d_Picture_firsts, d_Picture_votes, d_law_pi_told, d_Picture_first, d_middle_of, d_open_in_term, d_wrong_chosen, d_wrong_firsts, d_wrong_lots, d_wrong_promises, d_wrong_votes, d_fault_of, d_Picture_fault, d_chosen_in_term, d_chosen_row_in, d_Picture_row, d_law_right, d_Picture_is_let⟩
  exact ⟨_, fun s v => .of_eq rfl, fun base _ _ => fin A D⟩
end
theorem walk {l : PySem.W.OpenLaw} {q : Program} {loose : List Str} {XP : (Str → Option Value) → Heap → Prop} {YP : World → Heap → Prop} {d : DefRec} {K : Params → PySem.W.Frag} (hn : l.most = some 63) (hdf : d.params.defaults = [])
    (hY : ∀ (w : World) (h : Heap), YP w h → (K w.params).In h)
    (F : ∀ (w : World) (mg : Str → Option Value) (fa : Addr) (h : Heap), (K w.params).In h → h.Ns mainGlobals mg → mg d.name = some (.ref fa) →
      ∃ fd : FuncData, (∀ (s : Shared) (u : Value), BindsTo s fd ⟨[u], []⟩ [("_law_script", u)]) ∧ ∀ base : Heap, (K w.params).In base → base.Ns mainGlobals mg → FnOk l.prog w (K w.params) mg base CX0 11 fa fd ["_law_script"] (sp_law (K w.params))) :
    PySem.W.WalkO q loose XP YP l.row.toRowW d [] (fun f vs => PySem.call f vs) :=
  L2.walk_of (n := 63) (k := 11) (x := "_law_script") (CX := fun _ => CX0) (sp := fun w => sp_law (K w.params)) hn (by decide) hdf ⟨rfl, by decide, by decide⟩ hY F (fun _ _ a ns hl _ hS => ⟨a, ns, rfl, hS, hl, fun _ => rfl⟩) fun _ _ _ _ _ z => z
end Hm

open PySem PySem.W PyProof.Rows in
set_option maxRecDepth 100000 in
set_option maxHeartbeats 0 in
theorem PySem.Challenge.cw_halvesmeet_k98_whole_walks_of_the_plain_holds : PySem.Challenge.rw_halvesmeet_k98_whole_walks_of_the_plain.Holds := by
  w_on; o_law; k_head; (case hw => w_witness2)
  k_fill
  refine Hm.walk (l := PySem.Challenge.rw_halvesmeet_k98_whole_walks_of_the_plain) rfl rfl (fun w h Y => PySem.W.kIn_of Y) ?F
  case F =>
    intro w mg fa h KX G hmg
    refine' Hm.all_mk KX G hmg ?n1 ?n2 ?n3 ?n4 ?n5 ?n6 ?nL ?lL ?cL ?t1 ?t2 ?t3 ?cl ?d_law_dice ?d_law_roll ?d_law_mixed ?d_law_circle_drawn ?d_law_pick ?d_law_pi_entry ?d_law_pi_term ?d_law_pi_action ?d_law_pi_more ?d_law_pi_is_lead ?d_law_pi_is_let ?d_law_let ?d_parts_of ?d_best_vote ?d_told_row ?d_KnownParts__init ?d_in_order ?d_Picture__init ?d_done_in ?d_is_integer ?d_is_from ?d_is_client ?d_has_word ?d_is_house ?d_is_circle ?d_has_signs ?d_is_key ?d_is_value ?d_is_lot_deed ?d_is_deed ?d_is_whole ?d_is_number ?d_is_entry ?d_is_half ?d_is_lot_of ?d_is_vote_let ?d_is_whole_p ?d_is_let_in ?d_Picture_done ?d_Picture__eq ?d_law_do_exchange ?d_law_lead_drawn ?d_law_pi_best ?d_law_pi_done ?d_law_pi_open ?d_law_pi_vote_fault ?d_law_pi_fault ?d_law_pi_first ?d_law_pi_chosen ?d_law_pi_row ?d_Picture_circle ?d_Picture_promised ?d_Picture_rows ?d_Picture_firsts ?d_Picture_votes ?d_law_pi_told ?d_Picture_first ?d_middle_of ?d_open_in_term ?d_wrong_chosen ?d_wrong_firsts ?d_wrong_lots ?d_wrong_promises ?d_wrong_votes ?d_fault_of ?d_Picture_fault ?d_chosen_in_term ?d_chosen_row_in ?d_Picture_row ?d_law_right ?d_Picture_is_let
    (case n1 => k_is); (case n2 => k_is); (case n3 => k_is); (case n4 => k_is); (case n5 => k_is); (case n6 => k_is); (case nL => k_is); (case lL => k_is); (case cL => k_is)
    (case t1 =>
      refine' Hm.txt1 KX G ?z_len ?z_sorted ?z_max ?z_min ?z_isinstance ?z_all ?z_int ?z_bool ?z_str ?z_list ?z_tuple ?z_dict ?z_set ?z_range ?z_zip ?z_abs ?c_MAX_HOUSES ?c_MAX_CIRCLE ?c_MAX_CLIENTS ?c_MAX_KEY ?c_LEAST ?c_GREATEST ?c_SMALL_LETTERS ?e_SMALL_LETTERS ?c_MAX_NUMBER ?c_ENTRY_SIZE ?c_PROMISE ?e_PROMISE ?c_DEED_WORDS ?q_DEED_WORDS ?c_LOT_WORDS ?q_LOT_WORDS ?c_NO_VOTE ?q_NO_VOTE
      (case z_len => k_is)
      (case z_sorted => k_is)
      (case z_max => k_is)
      (case z_min => k_is)
      (case z_isinstance => k_is)
      (case z_all => k_is)
      (case z_int => k_is)
      (case z_bool => k_is)
      (case z_str => k_is)
      (case z_list => k_is)
      (case z_tuple => k_is)
      (case z_dict => k_is)
      (case z_set => k_is)
      (case z_range => k_is)
      (case z_zip => k_is)
      (case z_abs => k_is)
      (case c_MAX_HOUSES => k_is)
      (case c_MAX_CIRCLE => k_is)
      (case c_MAX_CLIENTS => k_is)
      (case c_MAX_KEY => k_is)
      (case c_LEAST => k_is)
      (case c_GREATEST => k_is)
      (case c_SMALL_LETTERS => k_is); (case e_SMALL_LETTERS => first | rfl | kernel_rfl | decide +kernel)
      (case c_MAX_NUMBER => k_is)
      (case c_ENTRY_SIZE => k_is)
      (case c_PROMISE => k_is); (case e_PROMISE => first | rfl | kernel_rfl | decide +kernel)
      (case c_DEED_WORDS => k_is); (case q_DEED_WORDS => refine' Hm.sqk ?l ?z ?v; (case l => k_is); (case z => first | rfl | kernel_rfl); (case v => repeat first | exact PySem.Paired.nil | refine PySem.Paired.cons ⟨_, by first | rfl | kernel_rfl⟩ ?_))
      (case c_LOT_WORDS => k_is); (case q_LOT_WORDS => refine' Hm.sqk ?l ?z ?v; (case l => k_is); (case z => first | rfl | kernel_rfl); (case v => repeat first | exact PySem.Paired.nil | refine PySem.Paired.cons ⟨_, by first | rfl | kernel_rfl⟩ ?_))
      (case c_NO_VOTE => k_is); (case q_NO_VOTE => refine' Hm.sqk ?l ?z ?v; (case l => k_is); (case z => first | rfl | kernel_rfl); (case v => repeat first | exact PySem.Paired.nil | refine PySem.Paired.cons ⟨_, by first | rfl | kernel_rfl⟩ ?_)))
    (case t2 =>
      refine' Hm.txt2 KX G ?c ?l ?kl ?lo ?a1 ?a2 ?a3 ?a4
      (case c => k_is); (case l => k_is); (case kl => repeat first | exact True.intro | refine And.intro ⟨_, _, rfl, by first | rfl | kernel_rfl⟩ ?_); (case lo => first | rfl | kernel_rfl); (case a1 => k_is); (case a2 => k_is); (case a3 => k_is); (case a4 => k_is))
    (case t3 =>
      refine' Hm.txt3 KX G ?cK ?cP ?x1 ?x2 ?x3 ?x4 ?x5 ?x6 ?x7 ?x8
      (case cK => k_is); (case cP => k_is); (case x1 => k_is); (case x2 => k_is); (case x3 => k_is); (case x4 => k_is); (case x5 => k_is); (case x6 => k_is); (case x7 => kit_is); (case x8 => kit_is))
    (case cl =>
      refine' Hm.Cls.mk ?s1 ?p1 ?p2 ?p3 ?p4 ?p5 ?s2 ?p6
      (case s1 => refine' Hm.scl ?a ?b ?c ?d; (case a => k_is); (case b => k_is); (case c => k_is); (case d => k_is))
      (case p1 => refine' Hm.sl1 ?a ?b ?c ?d ?e ?l; (case a => k_is); (case b => k_is); (case c => k_is); (case d => k_is); (case e => k_is); (case l => decide))
      (case p2 => refine' Hm.sl1 ?a ?b ?c ?d ?e ?l; (case a => k_is); (case b => k_is); (case c => k_is); (case d => k_is); (case e => k_is); (case l => decide))
      (case p3 => refine' Hm.sl1 ?a ?b ?c ?d ?e ?l; (case a => k_is); (case b => k_is); (case c => k_is); (case d => k_is); (case e => k_is); (case l => decide))
      (case p4 => refine' Hm.sl1 ?a ?b ?c ?d ?e ?l; (case a => k_is); (case b => k_is); (case c => k_is); (case d => k_is); (case e => k_is); (case l => decide))
      (case p5 => refine' Hm.sl1 ?a ?b ?c ?d ?e ?l; (case a => k_is); (case b => k_is); (case c => k_is); (case d => k_is); (case e => k_is); (case l => decide))
      (case s2 => refine' Hm.scl ?a ?b ?c ?d; (case a => k_is); (case b => k_is); (case c => k_is); (case d => k_is))
      (case p6 => refine' Hm.sl1 ?a ?b ?c ?d ?e ?l; (case a => k_is); (case b => k_is); (case c => k_is); (case d => k_is); (case e => k_is); (case l => decide)))
    (case d_law_dice => refine' Hm.defx KX G ?a ?l ?c ?k (fun _ _ _ _ _ _ us hl => match us, hl with | [_, _], _ => rfl); (case a => k_is); (case l => k_is); (case c => k_is); (case k => k_is))
    (case d_law_roll => refine' Hm.defx KX G ?a ?l ?c ?k (fun _ _ _ _ _ _ us hl => match us, hl with | [_, _], _ => rfl); (case a => k_is); (case l => k_is); (case c => k_is); (case k => k_is))
    (case d_law_mixed => refine' Hm.defx KX G ?a ?l ?c ?k (fun _ _ _ _ _ _ us hl => match us, hl with | [_, _], _ => rfl); (case a => k_is); (case l => k_is); (case c => k_is); (case k => k_is))
    (case d_law_circle_drawn => refine' Hm.defx KX G ?a ?l ?c ?k (fun _ _ _ _ _ _ us hl => match us, hl with | [_, _], _ => rfl); (case a => k_is); (case l => k_is); (case c => k_is); (case k => k_is))
    (case d_law_pick => refine' Hm.defx KX G ?a ?l ?c ?k (fun _ _ _ _ _ _ us hl => match us, hl with | [_, _], _ => rfl); (case a => k_is); (case l => k_is); (case c => k_is); (case k => k_is))
    (case d_law_pi_entry => refine' Hm.defx KX G ?a ?l ?c ?k (fun _ _ _ _ _ _ us hl => match us, hl with | [_], _ => rfl); (case a => k_is); (case l => k_is); (case c => k_is); (case k => k_is))
    (case d_law_pi_term => refine' Hm.defx KX G ?a ?l ?c ?k (fun _ _ _ _ _ _ us hl => match us, hl with | [_, _], _ => rfl); (case a => k_is); (case l => k_is); (case c => k_is); (case k => k_is))
    (case d_law_pi_action => refine' Hm.defx KX G ?a ?l ?c ?k (fun _ _ _ _ _ _ us hl => match us, hl with | [_, _], _ => rfl); (case a => k_is); (case l => k_is); (case c => k_is); (case k => k_is))
    (case d_law_pi_more => refine' Hm.defx KX G ?a ?l ?c ?k (fun _ _ _ _ _ _ us hl => match us, hl with | [_, _], _ => rfl); (case a => k_is); (case l => k_is); (case c => k_is); (case k => k_is))
    (case d_law_pi_is_lead => refine' Hm.defx KX G ?a ?l ?c ?k (fun _ _ _ _ _ _ us hl => match us, hl with | [_, _, _], _ => rfl); (case a => k_is); (case l => k_is); (case c => k_is); (case k => k_is))
    (case d_law_pi_is_let => refine' Hm.defx KX G ?a ?l ?c ?k (fun _ _ _ _ _ _ us hl => match us, hl with | [_, _], _ => rfl); (case a => k_is); (case l => k_is); (case c => k_is); (case k => k_is))
    (case d_law_let => refine' Hm.defx KX G ?a ?l ?c ?k (fun _ _ _ _ _ _ us hl => match us, hl with | [_, _], _ => rfl); (case a => k_is); (case l => k_is); (case c => k_is); (case k => k_is))
    (case d_parts_of => refine' Hm.defx KX G ?a ?l ?c ?k (fun _ _ _ _ _ _ us hl => match us, hl with | [_], _ => rfl); (case a => k_is); (case l => k_is); (case c => k_is); (case k => k_is))
    (case d_best_vote => refine' Hm.defx KX G ?a ?l ?c ?k (fun _ _ _ _ _ _ us hl => match us, hl with | [_, _, _], _ => rfl); (case a => k_is); (case l => k_is); (case c => k_is); (case k => k_is))
    (case d_told_row => refine' Hm.defx KX G ?a ?l ?c ?k (fun _ _ _ _ _ _ us hl => match us, hl with | [_, _, _], _ => rfl); (case a => k_is); (case l => k_is); (case c => k_is); (case k => k_is))
    (case d_KnownParts__init => refine' Hm.defi0 KX G ?n ?m ?a ?i ?k ?l ?c (fun _ _ _ _ _ _ us hl => match us, hl with | [_, _, _, _, _, _], _ => rfl); (case n => k_is); (case m => k_is); (case a => k_is); (case i => k_is); (case k => k_is); (case l => k_is); (case c => k_is))
    (case d_in_order => refine' Hm.defx KX G ?a ?l ?c ?k (fun _ _ _ _ _ _ us hl => match us, hl with | [_], _ => rfl); (case a => k_is); (case l => k_is); (case c => k_is); (case k => k_is))
    (case d_Picture__init => refine' Hm.defi4 KX G ?n ?m ?a ?i ?k ?l ?c ?t (fun _ _ _ _ _ _ _ _ _ => ⟨_, rfl, rfl⟩); (case n => k_is); (case m => k_is); (case a => k_is); (case i => k_is); (case k => k_is); (case l => k_is); (case c => k_is); (case t => k_is))
    (case d_done_in => refine' Hm.defx KX G ?a ?l ?c ?k (fun _ _ _ _ _ _ us hl => match us, hl with | [_, _], _ => rfl); (case a => k_is); (case l => k_is); (case c => k_is); (case k => k_is))
    (case d_is_integer => refine' Hm.defx KX G ?a ?l ?c ?k (fun _ _ _ _ _ _ us hl => match us, hl with | [_], _ => rfl); (case a => k_is); (case l => k_is); (case c => k_is); (case k => k_is))
    (case d_is_from => refine' Hm.defx KX G ?a ?l ?c ?k (fun _ _ _ _ _ _ us hl => match us, hl with | [_, _, _], _ => rfl); (case a => k_is); (case l => k_is); (case c => k_is); (case k => k_is))
    (case d_is_client => refine' Hm.defx KX G ?a ?l ?c ?k (fun _ _ _ _ _ _ us hl => match us, hl with | [_], _ => rfl); (case a => k_is); (case l => k_is); (case c => k_is); (case k => k_is))
    (case d_has_word => refine' Hm.defx KX G ?a ?l ?c ?k (fun _ _ _ _ _ _ us hl => match us, hl with | [_, _], _ => rfl); (case a => k_is); (case l => k_is); (case c => k_is); (case k => k_is))
    (case d_is_house => refine' Hm.defx KX G ?a ?l ?c ?k (fun _ _ _ _ _ _ us hl => match us, hl with | [_], _ => rfl); (case a => k_is); (case l => k_is); (case c => k_is); (case k => k_is))
    (case d_is_circle => refine' Hm.defx KX G ?a ?l ?c ?k (fun _ _ _ _ _ _ us hl => match us, hl with | [_], _ => rfl); (case a => k_is); (case l => k_is); (case c => k_is); (case k => k_is))
    (case d_has_signs => refine' Hm.defx KX G ?a ?l ?c ?k (fun _ _ _ _ _ _ us hl => match us, hl with | [_, _, _], _ => rfl); (case a => k_is); (case l => k_is); (case c => k_is); (case k => k_is))
    (case d_is_key => refine' Hm.defx KX G ?a ?l ?c ?k (fun _ _ _ _ _ _ us hl => match us, hl with | [_], _ => rfl); (case a => k_is); (case l => k_is); (case c => k_is); (case k => k_is))
    (case d_is_value => refine' Hm.defx KX G ?a ?l ?c ?k (fun _ _ _ _ _ _ us hl => match us, hl with | [_], _ => rfl); (case a => k_is); (case l => k_is); (case c => k_is); (case k => k_is))
    (case d_is_lot_deed => refine' Hm.defx KX G ?a ?l ?c ?k (fun _ _ _ _ _ _ us hl => match us, hl with | [_], _ => rfl); (case a => k_is); (case l => k_is); (case c => k_is); (case k => k_is))
    (case d_is_deed => refine' Hm.defx KX G ?a ?l ?c ?k (fun _ _ _ _ _ _ us hl => match us, hl with | [_], _ => rfl); (case a => k_is); (case l => k_is); (case c => k_is); (case k => k_is))
    (case d_is_whole => refine' Hm.defx KX G ?a ?l ?c ?k (fun _ _ _ _ _ _ us hl => match us, hl with | [_], _ => rfl); (case a => k_is); (case l => k_is); (case c => k_is); (case k => k_is))
    (case d_is_number => refine' Hm.defx KX G ?a ?l ?c ?k (fun _ _ _ _ _ _ us hl => match us, hl with | [_], _ => rfl); (case a => k_is); (case l => k_is); (case c => k_is); (case k => k_is))
    (case d_is_entry => refine' Hm.defx KX G ?a ?l ?c ?k (fun _ _ _ _ _ _ us hl => match us, hl with | [_], _ => rfl); (case a => k_is); (case l => k_is); (case c => k_is); (case k => k_is))
    (case d_is_half => refine' Hm.defx KX G ?a ?l ?c ?k (fun _ _ _ _ _ _ us hl => match us, hl with | [_, _], _ => rfl); (case a => k_is); (case l => k_is); (case c => k_is); (case k => k_is))
    (case d_is_lot_of => refine' Hm.defx KX G ?a ?l ?c ?k (fun _ _ _ _ _ _ us hl => match us, hl with | [_, _, _], _ => rfl); (case a => k_is); (case l => k_is); (case c => k_is); (case k => k_is))
    (case d_is_vote_let => refine' Hm.defx KX G ?a ?l ?c ?k (fun _ _ _ _ _ _ us hl => match us, hl with | [_, _, _, _], _ => rfl); (case a => k_is); (case l => k_is); (case c => k_is); (case k => k_is))
    (case d_is_whole_p => refine' Hm.defx KX G ?a ?l ?c ?k (fun _ _ _ _ _ _ us hl => match us, hl with | [_, _], _ => rfl); (case a => k_is); (case l => k_is); (case c => k_is); (case k => k_is))
    (case d_is_let_in => refine' Hm.defx KX G ?a ?l ?c ?k (fun _ _ _ _ _ _ us hl => match us, hl with | [_, _], _ => rfl); (case a => k_is); (case l => k_is); (case c => k_is); (case k => k_is))
    (case d_Picture_done => refine' Hm.mtm ?a ?i ?k ?hq; (case a => k_is); (case i => k_is); (case k => k_is); (case hq => refine' Hm.defm ?l ?c (fun _ _ _ _ _ _ us hl => match us, hl with | [_, _], _ => rfl); (case l => k_is); (case c => k_is)))
    (case d_Picture__eq => refine' Hm.owm ?a ?b ?c ?hq; (case a => k_is); (case b => k_is); (case c => k_is); (case hq => refine' Hm.defm ?l ?c (fun _ _ _ _ _ _ us hl => match us, hl with | [_, _], _ => rfl); (case l => k_is); (case c => k_is)))
    (case d_law_do_exchange => refine' Hm.defx KX G ?a ?l ?c ?k (fun _ _ _ _ _ _ us hl => match us, hl with | [_, _, _], _ => rfl); (case a => k_is); (case l => k_is); (case c => k_is); (case k => k_is))
    (case d_law_lead_drawn => refine' Hm.defx KX G ?a ?l ?c ?k (fun _ _ _ _ _ _ us hl => match us, hl with | [_, _], _ => rfl); (case a => k_is); (case l => k_is); (case c => k_is); (case k => k_is))
    (case d_law_pi_best => refine' Hm.defx KX G ?a ?l ?c ?k (fun _ _ _ _ _ _ us hl => match us, hl with | [_, _, _], _ => rfl); (case a => k_is); (case l => k_is); (case c => k_is); (case k => k_is))
    (case d_law_pi_done => refine' Hm.defx KX G ?a ?l ?c ?k (fun _ _ _ _ _ _ us hl => match us, hl with | [_, _], _ => rfl); (case a => k_is); (case l => k_is); (case c => k_is); (case k => k_is))
    (case d_law_pi_open => refine' Hm.defx KX G ?a ?l ?c ?k (fun _ _ _ _ _ _ us hl => match us, hl with | [_, _], _ => rfl); (case a => k_is); (case l => k_is); (case c => k_is); (case k => k_is))
    (case d_law_pi_vote_fault => refine' Hm.defx KX G ?a ?l ?c ?k (fun _ _ _ _ _ _ us hl => match us, hl with | [_], _ => rfl); (case a => k_is); (case l => k_is); (case c => k_is); (case k => k_is))
    (case d_law_pi_fault => refine' Hm.defx KX G ?a ?l ?c ?k (fun _ _ _ _ _ _ us hl => match us, hl with | [_], _ => rfl); (case a => k_is); (case l => k_is); (case c => k_is); (case k => k_is))
    (case d_law_pi_first => refine' Hm.defx KX G ?a ?l ?c ?k (fun _ _ _ _ _ _ us hl => match us, hl with | [_], _ => rfl); (case a => k_is); (case l => k_is); (case c => k_is); (case k => k_is))
    (case d_law_pi_chosen => refine' Hm.defx KX G ?a ?l ?c ?k (fun _ _ _ _ _ _ us hl => match us, hl with | [_, _], _ => rfl); (case a => k_is); (case l => k_is); (case c => k_is); (case k => k_is))
    (case d_law_pi_row => refine' Hm.defx KX G ?a ?l ?c ?k (fun _ _ _ _ _ _ us hl => match us, hl with | [_], _ => rfl); (case a => k_is); (case l => k_is); (case c => k_is); (case k => k_is))
    (case d_Picture_circle => refine' Hm.ppm ?a ?b ?c ?d ?hq; (case a => k_is); (case b => k_is); (case c => k_is); (case d => k_is); (case hq => refine' Hm.defm ?l ?c (fun _ _ _ _ _ _ us hl => match us, hl with | [_], _ => rfl); (case l => k_is); (case c => k_is)))
    (case d_Picture_promised => refine' Hm.ppm ?a ?b ?c ?d ?hq; (case a => k_is); (case b => k_is); (case c => k_is); (case d => k_is); (case hq => refine' Hm.defm ?l ?c (fun _ _ _ _ _ _ us hl => match us, hl with | [_], _ => rfl); (case l => k_is); (case c => k_is)))
    (case d_Picture_rows => refine' Hm.ppm ?a ?b ?c ?d ?hq; (case a => k_is); (case b => k_is); (case c => k_is); (case d => k_is); (case hq => refine' Hm.defm ?l ?c (fun _ _ _ _ _ _ us hl => match us, hl with | [_], _ => rfl); (case l => k_is); (case c => k_is)))
    (case d_Picture_firsts => refine' Hm.ppm ?a ?b ?c ?d ?hq; (case a => k_is); (case b => k_is); (case c => k_is); (case d => k_is); (case hq => refine' Hm.defm ?l ?c (fun _ _ _ _ _ _ us hl => match us, hl with | [_], _ => rfl); (case l => k_is); (case c => k_is)))
    (case d_Picture_votes => refine' Hm.ppm ?a ?b ?c ?d ?hq; (case a => k_is); (case b => k_is); (case c => k_is); (case d => k_is); (case hq => refine' Hm.defm ?l ?c (fun _ _ _ _ _ _ us hl => match us, hl with | [_], _ => rfl); (case l => k_is); (case c => k_is)))
    (case d_law_pi_told => refine' Hm.defx KX G ?a ?l ?c ?k (fun _ _ _ _ _ _ us hl => match us, hl with | [_], _ => rfl); (case a => k_is); (case l => k_is); (case c => k_is); (case k => k_is))
    (case d_Picture_first => refine' Hm.cmm ?r ?s ?a ?d ?f ?hq; (case r => k_is); (case s => k_is); (case a => k_is); (case d => k_is); (case f => k_is); (case hq => refine' Hm.defm ?l ?c (fun _ _ _ _ _ _ us hl => match us, hl with | [_, _], _ => rfl); (case l => k_is); (case c => k_is)))
    (case d_middle_of => refine' Hm.defx KX G ?a ?l ?c ?k (fun _ _ _ _ _ _ us hl => match us, hl with | [_, _], _ => rfl); (case a => k_is); (case l => k_is); (case c => k_is); (case k => k_is))
    (case d_open_in_term => refine' Hm.defx KX G ?a ?l ?c ?k (fun _ _ _ _ _ _ us hl => match us, hl with | [_, _], _ => rfl); (case a => k_is); (case l => k_is); (case c => k_is); (case k => k_is))
    (case d_wrong_chosen => refine' Hm.defx KX G ?a ?l ?c ?k (fun _ _ _ _ _ _ us hl => match us, hl with | [_], _ => rfl); (case a => k_is); (case l => k_is); (case c => k_is); (case k => k_is))
    (case d_wrong_firsts => refine' Hm.defx KX G ?a ?l ?c ?k (fun _ _ _ _ _ _ us hl => match us, hl with | [_], _ => rfl); (case a => k_is); (case l => k_is); (case c => k_is); (case k => k_is))
    (case d_wrong_lots => refine' Hm.defx KX G ?a ?l ?c ?k (fun _ _ _ _ _ _ us hl => match us, hl with | [_], _ => rfl); (case a => k_is); (case l => k_is); (case c => k_is); (case k => k_is))
    (case d_wrong_promises => refine' Hm.defx KX G ?a ?l ?c ?k (fun _ _ _ _ _ _ us hl => match us, hl with | [_], _ => rfl); (case a => k_is); (case l => k_is); (case c => k_is); (case k => k_is))
    (case d_wrong_votes => refine' Hm.defx KX G ?a ?l ?c ?k (fun _ _ _ _ _ _ us hl => match us, hl with | [_], _ => rfl); (case a => k_is); (case l => k_is); (case c => k_is); (case k => k_is))
    (case d_fault_of => refine' Hm.defx KX G ?a ?l ?c ?k (fun _ _ _ _ _ _ us hl => match us, hl with | [_], _ => rfl); (case a => k_is); (case l => k_is); (case c => k_is); (case k => k_is))
    (case d_Picture_fault => refine' Hm.mtm ?a ?i ?k ?hq; (case a => k_is); (case i => k_is); (case k => k_is); (case hq => refine' Hm.defm ?l ?c (fun _ _ _ _ _ _ us hl => match us, hl with | [_], _ => rfl); (case l => k_is); (case c => k_is)))
    (case d_chosen_in_term => refine' Hm.defx KX G ?a ?l ?c ?k (fun _ _ _ _ _ _ us hl => match us, hl with | [_, _], _ => rfl); (case a => k_is); (case l => k_is); (case c => k_is); (case k => k_is))
    (case d_chosen_row_in => refine' Hm.defx KX G ?a ?l ?c ?k (fun _ _ _ _ _ _ us hl => match us, hl with | [_], _ => rfl); (case a => k_is); (case l => k_is); (case c => k_is); (case k => k_is))
    (case d_Picture_row => refine' Hm.mtm ?a ?i ?k ?hq; (case a => k_is); (case i => k_is); (case k => k_is); (case hq => refine' Hm.defm ?l ?c (fun _ _ _ _ _ _ us hl => match us, hl with | [_], _ => rfl); (case l => k_is); (case c => k_is)))
    (case d_law_right => refine' Hm.defx KX G ?a ?l ?c ?k (fun _ _ _ _ _ _ us hl => match us, hl with | [_], _ => rfl); (case a => k_is); (case l => k_is); (case c => k_is); (case k => k_is))
    (case d_Picture_is_let => refine' Hm.mtm ?a ?i ?k ?hq; (case a => k_is); (case i => k_is); (case k => k_is); (case hq => refine' Hm.defm ?l ?c (fun _ _ _ _ _ _ us hl => match us, hl with | [_, _], _ => rfl); (case l => k_is); (case c => k_is)))
